import PyProof.Rows.All
import Wide.All
import OpenK.AllK
import Wide.FinOn
import HandS.ForMost
import HandS.ForExc
import HandS.CallSlots
import HandS.Defaults
import HandS.ExcCtx
import HandS.Deep
import HandS.SortInts
import HandS.Conv
import HandS.Style
import HandS.IsInst
import HandS.ExcOwn
import HandS.ExcValue
import PyProof.TupleOfSeq
import HandS.TupAny
import HandS.Text
import HandS.TryOnly
import KE.KExcInit
import KE.KExcSuper
import KE.KSuper
import HandS.ExcSuper
import HandS.ExcInit
import HandS.HotCalls
import HandS.Hot
import KE.KExcIs
import HandS.ExcField
import HandS.ExcIs
import HandS.Head0
import HandS.Head1
import HandS.Head2
import HandS.HeadEnd
import HandS.HeadHook1
import HandS.HeadHook2
import PySem.Challenge.RW_braidyard_k85_whole_rows_of_steps_are_ju
set_option Elab.async false
set_option linter.all false
set_option maxRecDepth 100000
set_option maxHeartbeats 4000000
/-! The lifting layer: data, owned trees, worlds. -/
namespace Lf
open PySem L2

abbrev D := PyData
abbrev Frag := PySem.W.Frag

/-- an owned value: frozen data, or a cell of one's own with what it holds -/
inductive O where
  | dt (d : D)
  | lst (xs : List O)
  | tup (xs : List O)
  | dic (kvs : List (Key × O))
  | dct (kvs : List (List Key × O))
  | ins (c : Str) (fs : List (Str × O))

/-! ### data at an address; the script, which is locked, stands apart -/
mutual
inductive Dq (K : Frag) (I : Hp) : V → PyData → Prop
  | non : Dq K I .non .none
  | bl (b : Bool) : Dq K I (.bl b) (.bool b)
  | int (i : Int) : Dq K I (.int i) (.int i)
  | str (x : Str) : Dq K I (.str x) (.str x)
  | lst {a : Addr} {xs : List V} {ds : List PyData} : I a = some (.lst xs) → DqAll K I xs ds → Dq K I (.ref a) (.list ds)
  | tup {a : Addr} {xs : List V} {ds : List PyData} : SqT K I a xs → DqAll K I xs ds → Dq K I (.ref a) (.tuple ds)
  | scr {a : Addr} {xs : List V} {ds : List PyData} : SqL K I a xs → DqAll K I xs ds → Dq K I (.ref a) (.dict [(.none, .list ds)])
  | raw {a : Addr} : Dq K I (.ref a) (.dict [(.bool true, .int (a : Nat))])
  | exn {a d : Addr} {f : Str} {v : V} {x : PyData} : I d = some (.xd [(f, v)]) → Dq K I v x → Dq K I (.ref a) (.dict [(.bool true, .int (a : Nat)), (.int (d : Nat), .str f), (.none, x)])
inductive DqAll (K : Frag) (I : Hp) : List V → List PyData → Prop
  | nil : DqAll K I [] []
  | cons {v : V} {vs : List V} {d : PyData} {ds : List PyData} : Dq K I v d → DqAll K I vs ds → DqAll K I (v :: vs) (d :: ds)
end
/-! ### data stay -/
theorem sqL_mono {K : Frag} {I I' : Hp} {a : Addr} {xs : List V} (e : Same I I') (h : SqL K I a xs) : SqL K I' a xs := e.seq h
theorem sqT_mono {K : Frag} {I I' : Hp} {a : Addr} {xs : List V} (e : Same I I') (h : SqT K I a xs) : SqT K I' a xs := by
  rcases h with (h | ⟨o, h⟩) | h
  · exact .inl (.inl (e _ _ h))
  · exact .inl (.inr ⟨o, e _ _ h⟩)
  · exact .inr h
mutual
theorem dp_mono' {K : Frag} {I I' : Hp} (e : Same I I') : ∀ {v : V} {d : D}, Dq K I v d → Dq K I' v d
  | _, _, .non => .non
  | _, _, .bl b => .bl b
  | _, _, .int i => .int i
  | _, _, .str x => .str x
  | _, _, .lst hs ha => .lst (e _ _ hs) (dps_mono' e ha)
  | _, _, .tup hs ha => .tup (sqT_mono e hs) (dps_mono' e ha)
  | _, _, .scr hs ha => .scr (sqL_mono e hs) (dps_mono' e ha)
  | _, _, .raw => .raw
  | _, _, .exn hs h => .exn (e _ _ hs) (dp_mono' e h)
theorem dps_mono' {K : Frag} {I I' : Hp} (e : Same I I') : ∀ {vs : List V} {ds : List D}, DqAll K I vs ds → DqAll K I' vs ds
  | _, _, .nil => .nil
  | _, _, .cons h1 h2 => .cons (dp_mono' e h1) (dps_mono' e h2)
end
theorem dp_mono {K : Frag} {I I' : Hp} (e : Same I I') (d : D) (v : V) (h : Dq K I v d) : Dq K I' v d := dp_mono' e h
theorem dps_mono {K : Frag} {I I' : Hp} (e : Same I I') (ds : List D) (vs : List V) (h : DqAll K I vs ds) : DqAll K I' vs ds := dps_mono' e h
mutual
def plainD : PyData → Bool
  | .list ds => plainDs ds
  | .tuple ds => plainDs ds
  | .dict _ => false
  | .none => true
  | .bool _ => true
  | .int _ => true
  | .str _ => true
def plainDs : List PyData → Bool
  | [] => true
  | d :: ds => plainD d && plainDs ds
end
mutual
theorem Dq.dp {K : Frag} {I : Hp} : ∀ {v : V} {d : D}, Dq K I v d → plainD d = true → Dp K I v d
  | _, _, .non, _ => .non
  | _, _, .bl b, _ => .bl b
  | _, _, .int i, _ => .int i
  | _, _, .str x, _ => .str x
  | _, _, .lst hs ha, p => .lst (SqL.of hs) (DqAll.dp ha (by simpa [plainD] using p))
  | _, _, .tup hs ha, p => .tup hs (DqAll.dp ha (by simpa [plainD] using p))
  | _, _, .scr hs ha, p => by simp [plainD] at p
  | _, _, .raw, p => by simp [plainD] at p
  | _, _, .exn _ _, p => by simp [plainD] at p
theorem DqAll.dp {K : Frag} {I : Hp} : ∀ {vs : List V} {ds : List D}, DqAll K I vs ds → plainDs ds = true → DpAll K I vs ds
  | _, _, .nil, _ => .nil
  | _, _, .cons h1 h2, p => by
    have q : (plainD _ && plainDs _) = true := p
    rw [Bool.and_eq_true] at q
    exact .cons (Dq.dp h1 q.1) (DqAll.dp h2 q.2)
end

/-! ### owned trees in a heap: I the frozen part, H all; the last list: the cells -/
mutual
inductive OR (K : Frag) (mg : Str → Option Value) (I H : Hp) : V → O → List Addr → Prop
  | dt {v : V} {d : D} : Dq K I v d → OR K mg I H v (.dt d) []
  | lst {a : Addr} {vs : List V} {xs : List O} {fp : List Addr} : H a = some (.lst vs) → I a = none → ORs K mg I H vs xs fp → OR K mg I H (.ref a) (.lst xs) (a :: fp)
  | tup {a : Addr} {vs : List V} {xs : List O} {fp : List Addr} : H a = some (.tup vs) → I a = none → ORs K mg I H vs xs fp → OR K mg I H (.ref a) (.tup xs) (a :: fp)
  | dic {a : Addr} {kvs : List (Key × V)} {kos : List (Key × O)} {fp : List Addr} : H a = some (.dK kvs) → I a = none → kvs.map (·.1) = kos.map (·.1) → ORs K mg I H (kvs.map (·.2)) (kos.map (·.2)) fp → OR K mg I H (.ref a) (.dic kos) (a :: fp)
  | dct {a : Addr} {kvs : List (List Key × V)} {kos : List (List Key × O)} {fp : List Addr} : H a = some (.dT kvs) → I a = none → kvs.map (·.1) = kos.map (·.1) → ORs K mg I H (kvs.map (·.2)) (kos.map (·.2)) fp → OR K mg I H (.ref a) (.dct kos) (a :: fp)
  | ins {a C dx : Addr} {c : Str} {fs : List (Str × V)} {fos : List (Str × O)} {fp : List Addr} : mg c = some (.ref C) → H a = some (.ins C dx fs) → I a = none → fs.map (·.1) = fos.map (·.1) → ORs K mg I H (fs.map (·.2)) (fos.map (·.2)) fp → OR K mg I H (.ref a) (.ins c fos) (a :: fp)
inductive ORs (K : Frag) (mg : Str → Option Value) (I H : Hp) : List V → List O → List Addr → Prop
  | nil : ORs K mg I H [] [] []
  | cons {v : V} {vs : List V} {o : O} {os : List O} {fp fq : List Addr} : OR K mg I H v o fp → ORs K mg I H vs os fq → ORs K mg I H (v :: vs) (o :: os) (fp ++ fq)
end

section
variable {K : Frag} {mg : Str → Option Value} {I I' H H' : Hp}
mutual
theorem OR.mono (e : Same I I') : ∀ {v : V} {o : O} {fp : List Addr}, OR K mg I H v o fp → (∀ a ∈ fp, H' a = H a ∧ I' a = none) → OR K mg I' H' v o fp
  | _, _, _, .dt h, _ => .dt (dp_mono e _ _ h)
  | _, _, _, .lst h n hs, k => .lst ((k _ List.mem_cons_self).1.trans h) (k _ List.mem_cons_self).2 (ORs.mono e hs fun a m => k a (List.mem_cons_of_mem _ m))
  | _, _, _, .tup h n hs, k => .tup ((k _ List.mem_cons_self).1.trans h) (k _ List.mem_cons_self).2 (ORs.mono e hs fun a m => k a (List.mem_cons_of_mem _ m))
  | _, _, _, .dic h n q hs, k => .dic ((k _ List.mem_cons_self).1.trans h) (k _ List.mem_cons_self).2 q (ORs.mono e hs fun a m => k a (List.mem_cons_of_mem _ m))
  | _, _, _, .dct h n q hs, k => .dct ((k _ List.mem_cons_self).1.trans h) (k _ List.mem_cons_self).2 q (ORs.mono e hs fun a m => k a (List.mem_cons_of_mem _ m))
  | _, _, _, .ins c h n q hs, k => .ins c ((k _ List.mem_cons_self).1.trans h) (k _ List.mem_cons_self).2 q (ORs.mono e hs fun a m => k a (List.mem_cons_of_mem _ m))
theorem ORs.mono (e : Same I I') : ∀ {vs : List V} {os : List O} {fp : List Addr}, ORs K mg I H vs os fp → (∀ a ∈ fp, H' a = H a ∧ I' a = none) → ORs K mg I' H' vs os fp
  | _, _, _, .nil, _ => .nil
  | _, _, _, .cons h hs, k => .cons (OR.mono e h fun a m => k a (List.mem_append_left _ m)) (ORs.mono e hs fun a m => k a (List.mem_append_right _ m))
end
mutual
theorem OR.there : ∀ {v : V} {o : O} {fp : List Addr}, OR K mg I H v o fp → ∀ a ∈ fp, I a = none ∧ ∃ u, H a = some u
  | _, _, _, .dt _, a, m => absurd m (by simp)
  | _, _, _, .lst h n hs, a, m => by
    rcases List.mem_cons.mp m with e | m
    · subst e; exact ⟨n, _, h⟩
    · exact ORs.there hs a m
  | _, _, _, .tup h n hs, a, m => by
    rcases List.mem_cons.mp m with e | m
    · subst e; exact ⟨n, _, h⟩
    · exact ORs.there hs a m
  | _, _, _, .dic h n q hs, a, m => by
    rcases List.mem_cons.mp m with e | m
    · subst e; exact ⟨n, _, h⟩
    · exact ORs.there hs a m
  | _, _, _, .dct h n q hs, a, m => by
    rcases List.mem_cons.mp m with e | m
    · subst e; exact ⟨n, _, h⟩
    · exact ORs.there hs a m
  | _, _, _, .ins c h n q hs, a, m => by
    rcases List.mem_cons.mp m with e | m
    · subst e; exact ⟨n, _, h⟩
    · exact ORs.there hs a m
theorem ORs.there : ∀ {vs : List V} {os : List O} {fp : List Addr}, ORs K mg I H vs os fp → ∀ a ∈ fp, I a = none ∧ ∃ u, H a = some u
  | _, _, _, .nil, a, m => absurd m (by simp)
  | _, _, _, .cons h hs, a, m => by
    rcases List.mem_append.mp m with m | m
    · exact OR.there h a m
    · exact ORs.there hs a m
end
end

/-! ### a tree as data -/
mutual
def O.toD : O → Option D
  | .dt d => some d
  | .lst xs => (O.toDs xs).map .list
  | .tup xs => (O.toDs xs).map .tuple
  | .dic _ => none
  | .dct _ => none
  | .ins _ _ => none
def O.toDs : List O → Option (List D)
  | [] => some []
  | x :: xs => match O.toD x, O.toDs xs with
    | some d, some ds => some (d :: ds)
    | _, _ => none
end
/-- I with the cells at fp as they stand -/
def frz (I H : Hp) (fp : List Addr) : Hp := fun a => if a ∈ fp then H a else I a
theorem frz_in {I H : Hp} {fp : List Addr} {a : Addr} (h : a ∈ fp) : frz I H fp a = H a := if_pos h
theorem frz_out {I H : Hp} {fp : List Addr} {a : Addr} (h : a ∉ fp) : frz I H fp a = I a := if_neg h
theorem frz_sub {I H : Hp} {fp : List Addr} (n : ∀ a ∈ fp, I a = none) : Same I (frz I H fp) := fun a o e => by
  by_cases m : a ∈ fp
  · rw [n a m] at e; cases e
  · rw [frz_out m]; exact e
theorem frz_le {I H : Hp} {fp : List Addr} (s : Same I H) : Same (frz I H fp) H := fun a o e => by
  by_cases m : a ∈ fp
  · rw [frz_in m] at e; exact e
  · rw [frz_out m] at e; exact s a o e
section
variable {K : Frag} {mg : Str → Option Value} {I J H : Hp}
mutual
theorem OR.data (e : Same I J) : ∀ {v : V} {o : O} {fp : List Addr} {d : D}, OR K mg I H v o fp → (∀ a ∈ fp, J a = H a) → o.toD = some d → Dq K J v d
  | _, _, _, _, .dt h, _, q => by
    cases q
    exact dp_mono e _ _ h
  | _, _, _, _, @OR.lst _ _ _ _ a vs xs fp h n hs, k, q => by
    have q1 : (O.toDs xs).map PyData.list = some _ := q
    cases z : O.toDs xs with
    | none => rw [z] at q1; cases q1
    | some ds =>
      rw [z] at q1
      cases q1
      exact .lst ((k _ List.mem_cons_self).trans h) (ORs.data e hs (fun a m => k a (List.mem_cons_of_mem _ m)) z)
  | _, _, _, _, @OR.tup _ _ _ _ a vs xs fp h n hs, k, q => by
    have q1 : (O.toDs xs).map PyData.tuple = some _ := q
    cases z : O.toDs xs with
    | none => rw [z] at q1; cases q1
    | some ds =>
      rw [z] at q1
      cases q1
      exact .tup (SqT.of ((k _ List.mem_cons_self).trans h)) (ORs.data e hs (fun a m => k a (List.mem_cons_of_mem _ m)) z)
  | _, _, _, _, .dic .., _, q => by cases q
  | _, _, _, _, .dct .., _, q => by cases q
  | _, _, _, _, .ins .., _, q => by cases q
theorem ORs.data (e : Same I J) : ∀ {vs : List V} {os : List O} {fp : List Addr} {ds : List D}, ORs K mg I H vs os fp → (∀ a ∈ fp, J a = H a) → O.toDs os = some ds → DqAll K J vs ds
  | _, _, _, _, .nil, _, q => by
    cases q
    exact .nil
  | _, _, _, _, @ORs.cons _ _ _ _ v vs o os fp fq h hs, k, q => by
    have q1 : (match O.toD o, O.toDs os with | some d, some ds => some (d :: ds) | _, _ => none) = some _ := q
    cases z : O.toD o with
    | none => rw [z] at q1; cases q1
    | some d =>
      cases z2 : O.toDs os with
      | none => rw [z, z2] at q1; cases q1
      | some ds =>
        rw [z, z2] at q1
        cases q1
        exact .cons (OR.data e h (fun a m => k a (List.mem_append_left _ m)) z) (ORs.data e hs (fun a m => k a (List.mem_append_right _ m)) z2)
end
end
end Lf
set_option Elab.async false
set_option linter.all false
set_option maxRecDepth 100000
set_option maxHeartbeats 4000000
/-! The lifting layer: worlds, slots. -/
namespace Lf
open PySem L2

abbrev En := List (Option O)
/-- a world: what is frozen, what is there, the cells of one's own -/
structure Wd where
  I : Hp
  H : Hp
  FP : List Addr

/-- a slot and what is known of it -/
inductive SR (K : Frag) (mg : Str → Option Value) (I H : Hp) : Option V → Option O → List Addr → Prop
  | un {s : Option V} : SR K mg I H s none []
  | ow {v : V} {o : O} {fp : List Addr} : OR K mg I H v o fp → SR K mg I H (some v) (some o) fp
inductive EO (K : Frag) (mg : Str → Option Value) (I H : Hp) : St → En → List Addr → Prop
  | nil : EO K mg I H [] [] []
  | cons {s : Option V} {σ : St} {e : Option O} {E : En} {fp FP : List Addr} : SR K mg I H s e fp → EO K mg I H σ E FP → EO K mg I H (s :: σ) (e :: E) (fp ++ FP)

structure Ok (K : Frag) (mg : Str → Option Value) (w : Wd) (σ : St) (E : En) : Prop where
  sub : Same w.I w.H
  env : EO K mg w.I w.H σ E w.FP
  nd : w.FP.Nodup

/-- the world goes on -/
structure Stp (w w' : Wd) : Prop where
  ii : Same w.I w'.I
  fr : ∀ a o, a ∉ w.FP → w.H a = some o → w'.H a = some o
  nw : ∀ a o, a ∉ w.FP → w.H a = some o → w.I a = none → w'.I a = none
  fp : ∀ a, a ∈ w'.FP → a ∈ w.FP ∨ w.H a = none
theorem Stp.refl (w : Wd) : Stp w w := ⟨Same.refl _, fun _ _ _ h => h, fun _ _ _ _ h => h, fun _ h => .inl h⟩
theorem Stp.trans {w w1 w2 : Wd} (a : Stp w w1) (b : Stp w1 w2) : Stp w w2 := by
  have out : ∀ x o, x ∉ w.FP → w.H x = some o → x ∉ w1.FP := fun x o n h m => by
    rcases a.fp x m with q | q
    · exact n q
    · rw [h] at q; cases q
  refine ⟨a.ii.trans b.ii, fun x o n h => b.fr x o (out x o n h) (a.fr x o n h), fun x o n h i => b.nw x o (out x o n h) (a.fr x o n h) (a.nw x o n h i), fun x m => ?_⟩
  rcases b.fp x m with q | q
  · exact a.fp x q
  · by_cases m0 : x ∈ w.FP
    · exact .inl m0
    · cases e : w.H x with
      | none => exact .inr rfl
      | some o =>
        rw [a.fr x o m0 e] at q
        cases q

/-- new frozen things, all else as it was -/
structure Gr (w : Wd) (I' H' : Hp) : Prop where
  ii : Same w.I I'
  hh : Same w.H H'
  ih : Same I' H'
  nw : ∀ a o, w.H a = some o → w.I a = none → I' a = none
theorem Gr.refl {w : Wd} (h : Same w.I w.H) : Gr w w.I w.H := ⟨Same.refl _, Same.refl _, h, fun _ _ _ h => h⟩
theorem Gr.stp {w : Wd} {I' H' : Hp} (g : Gr w I' H') : Stp w ⟨I', H', w.FP⟩ := ⟨g.ii, fun a o _ h => g.hh a o h, fun a o _ h => g.nw a o h, fun _ h => .inl h⟩
theorem same_new {H : Hp} {p : Addr} {o : HO} (h : H p = none) : Same H (upd H p o) := fun a u e => by
  rw [upd_ne (ne_of_none e h)]
  exact e
/-- a new frozen object -/
theorem Gr.new {w : Wd} (s : Same w.I w.H) {p : Addr} (o : HO) (h : w.H p = none) : Gr w (upd w.I p o) (upd w.H p o) := by
  have hi : w.I p = none := s.free h
  refine ⟨same_new hi, same_new h, fun a u e => ?_, fun a u e i => ?_⟩
  · by_cases q : a = p
    · subst q; rw [upd_same] at e ⊢; exact e
    · rw [upd_ne q] at e ⊢; exact s a u e
  · rw [upd_ne (ne_of_none e h)]; exact i

section
variable {K : Frag} {mg : Str → Option Value} {I I' H H' : Hp} {σ : St} {E : En} {FP : List Addr}
theorem SR.mono {s : Option V} {e : Option O} {fp : List Addr} (q : Same I I') (h : SR K mg I H s e fp) (k : ∀ a ∈ fp, H' a = H a ∧ I' a = none) : SR K mg I' H' s e fp := by
  cases h with
  | un => exact .un
  | ow h => exact .ow (h.mono q k)
theorem SR.there {s : Option V} {e : Option O} {fp : List Addr} (h : SR K mg I H s e fp) : ∀ a ∈ fp, I a = none ∧ ∃ u, H a = some u := by
  cases h with
  | un => intro a m; cases m
  | ow h => exact h.there
theorem EO.mono (q : Same I I') : ∀ {σ : St} {E : En} {FP : List Addr}, EO K mg I H σ E FP → (∀ a ∈ FP, H' a = H a ∧ I' a = none) → EO K mg I' H' σ E FP
  | _, _, _, .nil, _ => .nil
  | _, _, _, .cons h hs, k => .cons (h.mono q fun a m => k a (List.mem_append_left _ m)) (EO.mono q hs fun a m => k a (List.mem_append_right _ m))
theorem EO.there : ∀ {σ : St} {E : En} {FP : List Addr}, EO K mg I H σ E FP → ∀ a ∈ FP, I a = none ∧ ∃ u, H a = some u
  | _, _, _, .nil, a, m => absurd m (by simp)
  | _, _, _, .cons h hs, a, m => by
    rcases List.mem_append.mp m with m | m
    · exact h.there a m
    · exact EO.there hs a m
theorem EO.len : ∀ {σ : St} {E : En} {FP : List Addr}, EO K mg I H σ E FP → σ.length = E.length
  | _, _, _, .nil => rfl
  | _, _, _, .cons _ hs => by simp [EO.len hs]
/-- one slot, and the others: what the one may become -/
theorem EO.focus : ∀ {σ : St} {E : En} {FP : List Addr} {i : Nat}, EO K mg I H σ E FP → i < E.length →
    ∃ s e fp FR, σ[i]? = some s ∧ E[i]? = some e ∧ SR K mg I H s e fp ∧ FP.Perm (fp ++ FR) ∧
      ∀ (I' H' : Hp) (s' : Option V) (e' : Option O) (fp' : List Addr), Same I I' → (∀ a ∈ FR, H' a = H a ∧ I' a = none) → SR K mg I' H' s' e' fp' →
        ∃ FP', FP'.Perm (fp' ++ FR) ∧ EO K mg I' H' (σ.set i s') (E.set i e') FP'
  | _, _, _, i, .nil, h => absurd h (by simp)
  | _, _, _, 0, @EO.cons _ _ _ _ s σ e E fp FP h hs, _ =>
    ⟨s, e, fp, FP, rfl, rfl, h, List.Perm.refl _, fun I' H' s' e' fp' q k h' => ⟨fp' ++ FP, List.Perm.refl _, .cons h' (hs.mono q k)⟩⟩
  | _, _, _, i + 1, @EO.cons _ _ _ _ s0 σ e0 E fp0 FP h hs, hi => by
    obtain ⟨s, e, fp, FR, h1, h2, h3, h4, h5⟩ := EO.focus (i := i) hs (by simpa using hi)
    refine ⟨s, e, fp, fp0 ++ FR, h1, h2, h3, ?_, fun I' H' s' e' fp' q k h' => ?_⟩
    · exact (List.Perm.append_left fp0 h4).trans (by
        rw [← List.append_assoc, ← List.append_assoc]
        exact List.Perm.append_right FR List.perm_append_comm)
    · obtain ⟨FP', p, r⟩ := h5 I' H' s' e' fp' q (fun a m => k a (List.mem_append_right _ m)) h'
      refine ⟨fp0 ++ FP', ?_, .cons (h.mono q fun a m => k a (List.mem_append_left _ m)) r⟩
      exact (List.Perm.append_left fp0 p).trans (by
        rw [← List.append_assoc, ← List.append_assoc]
        exact List.Perm.append_right FR List.perm_append_comm)
theorem EO.get {i : Nat} {o : O} (h : EO K mg I H σ E FP) (e : E[i]? = some (some o)) : ∃ v fp, σ[i]? = some (some v) ∧ OR K mg I H v o fp ∧ ∀ a ∈ fp, a ∈ FP := by
  have hi : i < E.length := (List.getElem?_eq_some_iff.mp e).1
  obtain ⟨s, e', fp, FR, h1, h2, h3, h4, _⟩ := h.focus hi
  rw [e] at h2
  cases h2
  cases h3 with
  | ow h3 => exact ⟨_, fp, h1, h3, fun a m => h4.mem_iff.mpr (List.mem_append_left _ m)⟩
end

section
variable {K : Frag} {mg : Str → Option Value} {w : Wd} {σ : St} {E : En}
theorem Ok.gr {I' H' : Hp} (k : Ok K mg w σ E) (g : Gr w I' H') : Ok K mg ⟨I', H', w.FP⟩ σ E := ⟨g.ih, k.env.mono g.ii fun a m => by
  obtain ⟨n, u, hu⟩ := k.env.there a m
  exact ⟨(g.hh a u hu).trans hu.symm, g.nw a u hu n⟩, k.nd⟩
theorem Ok.data {i : Nat} {d : D} (k : Ok K mg w σ E) (e : E[i]? = some (some (.dt d))) : ∃ v, σ[i]? = some (some v) ∧ Dq K w.I v d := by
  obtain ⟨v, fp, h1, h2, _⟩ := k.env.get e
  cases h2 with
  | dt h => exact ⟨v, h1, h⟩
/-- a value beside the slots, with cells of its own -/
structure Bes (K : Frag) (mg : Str → Option Value) (w w' : Wd) (v : V) (o : O) (fp : List Addr) : Prop where
  rel : OR K mg w'.I w'.H v o fp
  nd : (fp ++ w'.FP).Nodup
  new : ∀ a ∈ fp, a ∈ w.FP ∨ w.H a = none
/-- a slot gets it -/
theorem Ok.putX {w0 : Wd} {i : Nat} {v : V} {o : O} {fp : List Addr} (k : Ok K mg w σ E) (b : Bes K mg w0 w v o fp) (hi : i < E.length) (s0 : Stp w0 w) : ∃ w', w'.H = w.H ∧ Ok K mg w' (σ.set i (some v)) (E.set i (some o)) ∧ Stp w0 w' ∧ w'.I = w.I ∧ ∀ a ∈ w'.FP, a ∈ fp ++ w.FP := by
  obtain ⟨s, e, fp0, FR, h1, h2, h3, h4, h5⟩ := k.env.focus hi
  have nd := k.nd
  have ndF := h4.nodup_iff.mp nd
  obtain ⟨FP', p, r⟩ := h5 w.I w.H (some v) (some o) fp (Same.refl _) (fun a m => ⟨rfl, (k.env.there a (h4.mem_iff.mpr (List.mem_append_right _ m))).1⟩) (.ow b.rel)
  have sub : ∀ a, a ∈ FR → a ∈ w.FP := fun a m => h4.mem_iff.mpr (List.mem_append_right _ m)
  have nd' : FP'.Nodup := p.nodup_iff.mpr (by
    rw [List.nodup_append] at ndF ⊢
    have q := List.nodup_append.mp b.nd
    exact ⟨q.1, ndF.2.1, fun a m b' m' => q.2.2 a m b' (sub b' m')⟩)
  refine ⟨⟨w.I, w.H, FP'⟩, rfl, ⟨k.sub, r, nd'⟩, ⟨s0.ii, s0.fr, s0.nw, fun a m => ?_⟩, rfl, fun a m => ?_⟩
  · rcases List.mem_append.mp (p.mem_iff.mp m) with m | m
    · exact b.new a m
    · exact s0.fp a (sub a m)
  · rcases List.mem_append.mp (p.mem_iff.mp m) with m | m
    · exact List.mem_append_left _ m
    · exact List.mem_append_right _ (sub a m)
theorem Ok.put {w0 : Wd} {i : Nat} {v : V} {o : O} {fp : List Addr} (k : Ok K mg w σ E) (b : Bes K mg w0 w v o fp) (hi : i < E.length) (s0 : Stp w0 w) : ∃ w', w'.H = w.H ∧ Ok K mg w' (σ.set i (some v)) (E.set i (some o)) ∧ Stp w0 w' := by
  obtain ⟨w', h1, h2, h3, _⟩ := k.putX b hi s0
  exact ⟨w', h1, h2, h3⟩
/-- a slot is forgotten, or gets anything unknown -/
theorem Ok.kill {i : Nat} (k : Ok K mg w σ E) (x : Option V) : ∃ w', w'.H = w.H ∧ Ok K mg w' (σ.set i x) (E.set i none) ∧ Stp w w' := by
  by_cases hi : i < E.length
  · obtain ⟨s, e, fp0, FR, h1, h2, h3, h4, h5⟩ := k.env.focus hi
    obtain ⟨FP', p, r⟩ := h5 w.I w.H x none [] (Same.refl _) (fun a m => ⟨rfl, (k.env.there a (h4.mem_iff.mpr (List.mem_append_right _ m))).1⟩) .un
    have ndF := h4.nodup_iff.mp k.nd
    refine ⟨⟨w.I, w.H, FP'⟩, rfl, ⟨k.sub, r, p.nodup_iff.mpr (List.nodup_append.mp ndF).2.1⟩, ⟨Same.refl _, fun _ _ _ h => h, fun _ _ _ _ h => h, fun a m => .inl (h4.mem_iff.mpr (List.mem_append_right _ (p.mem_iff.mp m)))⟩⟩
  · have e1 : E.set i none = E := List.set_eq_of_length_le (Nat.le_of_not_lt hi)
    have e2 : σ.set i x = σ := List.set_eq_of_length_le (by rw [k.env.len]; exact Nat.le_of_not_lt hi)
    rw [e1, e2]
    exact ⟨w, rfl, k, Stp.refl w⟩
theorem Ok.forget {i : Nat} (k : Ok K mg w σ E) : ∃ w', w'.H = w.H ∧ Ok K mg w' σ (E.set i none) ∧ Stp w w' := by
  obtain ⟨w', h1, h2, h3⟩ := k.kill (i := i) (σ[i]?.getD none)
  have e : σ.set i (σ[i]?.getD none) = σ := by
    apply List.ext_getElem?
    intro j
    by_cases q : j = i
    · subst q
      by_cases hj : j < σ.length
      · rw [List.getElem?_set_self hj, List.getElem?_eq_getElem hj]; rfl
      · rw [List.getElem?_eq_none (by simpa using hj), List.getElem?_eq_none (by omega)]
    · rw [List.getElem?_set_ne (Ne.symm q)]
  rw [e] at h2
  exact ⟨w', h1, h2, h3⟩
/-- fresh cells beside become data -/
theorem Bes.freeze {w0 : Wd} {v : V} {o : O} {fp : List Addr} {d : D} (k : Ok K mg w σ E) (b : Bes K mg w0 w v o fp) (s0 : Stp w0 w) (q : o.toD = some d) :
    ∃ w', w'.H = w.H ∧ Ok K mg w' σ E ∧ Stp w0 w' ∧ Dq K w'.I v d := by
  have nn : ∀ a ∈ fp, w.I a = none := fun a m => (b.rel.there a m).1
  have dis := List.nodup_append.mp b.nd
  have s1 : Same w.I (frz w.I w.H fp) := frz_sub nn
  refine ⟨⟨frz w.I w.H fp, w.H, w.FP⟩, rfl, ⟨frz_le k.sub, k.env.mono s1 fun a m => ⟨rfl, ?_⟩, k.nd⟩, ⟨s0.ii.trans s1, s0.fr, fun a u n h i => ?_, s0.fp⟩, b.rel.data s1 (fun a m => frz_in m) q⟩
  · rw [frz_out fun m' => dis.2.2 a m' a m rfl]
    exact (k.env.there a m).1
  · show frz w.I w.H fp a = none
    rw [frz_out]
    · exact s0.nw a u n h i
    · intro m
      rcases b.new a m with z | z
      · exact n z
      · rw [h] at z; cases z
/-- a slot's cells become data, for good -/
theorem Ok.freeze {i : Nat} {o : O} {d : D} (k : Ok K mg w σ E) (e : E[i]? = some (some o)) (q : o.toD = some d) :
    ∃ w' v, w'.H = w.H ∧ σ[i]? = some (some v) ∧ Ok K mg w' σ (E.set i (some (.dt d))) ∧ Stp w w' ∧ Dq K w'.I v d := by
  have hi : i < E.length := (List.getElem?_eq_some_iff.mp e).1
  obtain ⟨s, e', fp, FR, h1, h2, h3, h4, h5⟩ := k.env.focus hi
  rw [e] at h2
  cases h2
  cases h3 with
  | @ow v _ _ h3 =>
    have ndF := List.nodup_append.mp (h4.nodup_iff.mp k.nd)
    have nn : ∀ a ∈ fp, w.I a = none := fun a m => (h3.there a m).1
    have s1 : Same w.I (frz w.I w.H fp) := frz_sub nn
    have dd : Dq K (frz w.I w.H fp) v d := h3.data s1 (fun a m => frz_in m) q
    obtain ⟨FP', p, r⟩ := h5 (frz w.I w.H fp) w.H (some v) (some (.dt d)) [] s1 (fun a m => ⟨rfl, by
      rw [frz_out fun m' => ndF.2.2 a m' a m rfl]
      exact (k.env.there a (h4.mem_iff.mpr (List.mem_append_right _ m))).1⟩) (.ow (.dt dd))
    have es : σ.set i (some v) = σ := by
      apply List.ext_getElem?
      intro j
      by_cases z : j = i
      · subst z
        have hj : j < σ.length := (List.getElem?_eq_some_iff.mp h1).1
        rw [List.getElem?_set_self hj, h1]
      · rw [List.getElem?_set_ne (Ne.symm z)]
    rw [es] at r
    refine ⟨⟨frz w.I w.H fp, w.H, FP'⟩, v, rfl, h1, ⟨frz_le k.sub, r, p.nodup_iff.mpr ndF.2.1⟩, ⟨s1, fun _ _ _ h => h, fun a u n h i => ?_, fun a m => .inl (h4.mem_iff.mpr (List.mem_append_right _ (p.mem_iff.mp m)))⟩, dd⟩
    show frz w.I w.H fp a = none
    rw [frz_out fun m => n (h4.mem_iff.mpr (List.mem_append_left _ m))]
    exact i
/-- all cells read as data for a while -/
def frzE (E : En) : En := E.map fun e => match e with
  | some o => o.toD.map O.dt
  | none => none
theorem EO.frzE {I J H : Hp} (s : Same I J) : ∀ {σ : St} {E : En} {FP : List Addr}, EO K mg I H σ E FP → (∀ a ∈ FP, J a = H a) → EO K mg J H σ (frzE E) []
  | _, _, _, .nil, _ => .nil
  | _, _, _, @EO.cons _ _ _ _ s0 σ e E fp FP h hs, k => by
    have r := EO.frzE s hs fun a m => k a (List.mem_append_right _ m)
    cases h with
    | un => exact .cons (fp := []) .un r
    | @ow v o _ h =>
      show EO K mg J H (some v :: σ) (o.toD.map O.dt :: Lf.frzE E) []
      cases q : o.toD with
      | none => exact .cons (fp := []) .un r
      | some d => exact .cons (fp := []) (.ow (.dt (h.data s (fun a m => k a (List.mem_append_left _ m)) q))) r
theorem Ok.frz (k : Ok K mg w σ E) : Ok K mg ⟨frz w.I w.H w.FP, w.H, []⟩ σ (frzE E) :=
  ⟨frz_le k.sub, k.env.frzE (frz_sub fun a m => (k.env.there a m).1) fun a m => frz_in m, List.nodup_nil⟩
/-- .. and back: what stands is as it was -/
theorem Ok.thaw {w' : Wd} (k : Ok K mg w σ E) (s : Stp ⟨Lf.frz w.I w.H w.FP, w.H, []⟩ w') (k' : Same w'.I w'.H) : Ok K mg ⟨w.I, w'.H, w.FP⟩ σ E ∧ Stp w ⟨w.I, w'.H, w.FP⟩ := by
  have hh : Same w.H w'.H := fun a o h => s.fr a o (by intro m; cases m) h
  refine ⟨⟨k.sub.trans hh, k.env.mono (Same.refl _) fun a m => ?_, k.nd⟩, ⟨Same.refl _, fun a o _ h => hh a o h, fun _ _ _ _ h => h, fun _ m => .inl m⟩⟩
  obtain ⟨n, u, hu⟩ := k.env.there a m
  exact ⟨(hh a u hu).trans hu.symm, n⟩
end
end Lf
set_option Elab.async false
set_option linter.all false
set_option maxRecDepth 100000
set_option maxHeartbeats 4000000
/-! The lifting layer: readings as functions of the slots. -/
namespace Lf
open PySem L2

inductive Rs (α : Type) where
  | ok (a : α) (E : En)
  | exc (c : Str) (fs : List (Str × D)) (E : En)
  | no
abbrev M (α : Type) := En → Rs α
section
variable {α β γ : Type}
def Rs.bind (r : Rs α) (k : α → En → Rs β) : Rs β := match r with
  | .ok a E => k a E
  | .exc c fs E => .exc c fs E
  | .no => .no
@[simp] theorem bind_ok (a : α) (E : En) (k : α → En → Rs β) : (Rs.ok a E).bind k = k a E := rfl
@[simp] theorem bind_exc (c : Str) (fs : List (Str × D)) (E : En) (k : α → En → Rs β) : (Rs.exc c fs E).bind k = .exc c fs E := rfl
@[simp] theorem bind_no (k : α → En → Rs β) : (Rs.no : Rs α).bind k = .no := rfl
def lift (o : Option α) (E : En) : Rs α := match o with
  | some a => .ok a E
  | none => .no
@[simp] theorem lift_some (a : α) (E : En) : lift (some a) E = .ok a E := rfl
@[simp] theorem lift_none (E : En) : lift (none : Option α) E = .no := rfl

/-- the error: its class by name, its fields -/
def rawD (a : Addr) : D := .dict [(.bool true, .int (a : Nat))]
def exnD (a d : Addr) (f : Str) (x : D) : D := .dict [(.bool true, .int (a : Nat)), (.int (d : Nat), .str f), (.none, x)]
def ErrOk (K : Frag) (mg : Str → Option Value) (w : Wd) (c : Str) (fs : List (Str × D)) (cls : Value) (dd : Option Addr) : Prop :=
  ∃ C, mg c = some (.ref C) ∧ cls = .ref C ∧ ((fs = [] ∧ dd = none) ∨ ∃ d f v x, fs = [(f, x)] ∧ dd = some d ∧ w.I d = some (.xd [(f, v)]) ∧ Dq K w.I v x)

theorem ErrOk.at {K : Frag} {mg : Str → Option Value} {w w2 : Wd} {c : Str} {fs : List (Str × D)} {cls : Value} {dd : Option Addr} (h : ErrOk K mg w c fs cls dd) (eH : w2.H = w.H) (eI : w2.I = w.I) : ErrOk K mg w2 c fs cls dd := by
  unfold ErrOk at h ⊢
  rw [eI]
  exact h
/-- what is wanted behind a reading -/
def Po (K : Frag) (mg : Str → Option Value) (W : WX) (σ : St) (R : Wd → Wd → α → Prop) (w : Wd) : Rs α → Prop
  | .ok a E' => ∀ w', Ok K mg w' σ E' → Stp w w' → R w w' a
  | .exc c fs E' => ∀ w' cls dd, Ok K mg w' σ E' → Stp w w' → ErrOk K mg w' c fs cls dd → W cls dd σ w'.H
  | .no => False
def Back (R : Wd → Wd → α → Prop) : Prop := ∀ w w1 w' a, Stp w w1 → R w w' a → R w1 w' a
theorem Po.from {K : Frag} {mg : Str → Option Value} {W : WX} {σ : St} {R : Wd → Wd → α → Prop} {w w1 : Wd} {r : Rs α} (b : Back R) (s : Stp w w1) (h : Po K mg W σ R w r) : Po K mg W σ R w1 r := by
  cases r with
  | ok a E => exact fun w' k s' => b _ _ _ _ s (h w' k (s.trans s'))
  | exc c fs E => exact fun w' cls dd k s' => h w' cls dd k (s.trans s')
  | no => exact h
def Sn (K : Frag) (mg : Str → Option Value) (W : WX) (RR : St → (γ → Hp → Prop) → Wd → Wd → α → Prop) (t : St → Hp → (γ → Hp → Prop) → Prop) (m : M α) : Prop :=
  ∀ w σ E Q, Ok K mg w σ E → Po K mg W σ (RR σ Q) w (m E) → t σ w.H Q
theorem Sn.run {K : Frag} {mg : Str → Option Value} {W : WX} {RR : St → (γ → Hp → Prop) → Wd → Wd → α → Prop} {t : St → Hp → (γ → Hp → Prop) → Prop} {m : M α} (sa : Sn K mg W RR t m) {w : Wd} {σ : St} {E : En} {Q : γ → Hp → Prop} (k : Ok K mg w σ E)
    {R' : Wd → Wd → β → Prop} {κ : α → En → Rs β} (po : Po K mg W σ R' w ((m E).bind κ)) (b : Back R') (h : ∀ a E1 w1, Ok K mg w1 σ E1 → Stp w w1 → Po K mg W σ R' w1 (κ a E1) → RR σ Q w w1 a) : t σ w.H Q := by
  refine sa w σ E Q k ?_
  cases e : m E with
  | ok a E1 =>
    rw [e] at po
    exact fun w1 k1 s1 => h a E1 w1 k1 s1 (Po.from b s1 po)
  | exc c fs E1 =>
    rw [e] at po
    exact po
  | no =>
    rw [e] at po
    exact po
theorem Sn.runw {K : Frag} {mg : Str → Option Value} {W : WX} {RR : St → (γ → Hp → Prop) → Wd → Wd → α → Prop} {t : St → Hp → (γ → Hp → Prop) → Prop} {m : M α} (sa : Sn K mg W RR t m) {w : Wd} {σ : St} {E : En} {Q : γ → Hp → Prop} (k : Ok K mg w σ E)
    {R' : Wd → Wd → β → Prop} {κ : α → En → Rs β} (po : Po K mg W σ R' w ((m E).bind κ)) (h : ∀ a E1 w1, Ok K mg w1 σ E1 → Stp w w1 → Po K mg W σ R' w (κ a E1) → RR σ Q w w1 a) : t σ w.H Q := by
  refine sa w σ E Q k ?_
  cases e : m E with
  | ok a E1 =>
    rw [e] at po
    exact fun w1 k1 s1 => h a E1 w1 k1 s1 po
  | exc c fs E1 =>
    rw [e] at po
    exact po
  | no =>
    rw [e] at po
    exact po
theorem Po.lift {K : Frag} {mg : Str → Option Value} {W : WX} {σ : St} {R : Wd → Wd → α → Prop} {w : Wd} {o : Option α} {E : En} (h : Po K mg W σ R w (Lf.lift o E)) : ∃ a, o = some a ∧ ∀ w', Ok K mg w' σ E → Stp w w' → R w w' a := by
  cases o with
  | some a => exact ⟨a, rfl, h⟩
  | none => exact h.elim
end

/-! ### the kinds of readings -/
def RD (K : Frag) (_ : St) (Q : V → Hp → Prop) : Wd → Wd → D → Prop := fun _ w' d => ∀ v, Dq K w'.I v d → Q v w'.H
def RO (K : Frag) (mg : Str → Option Value) (_ : St) (Q : V → Hp → Prop) : Wd → Wd → O → Prop := fun w w' o => ∀ v fp, Bes K mg w w' v o fp → Q v w'.H
def RT (_ : St) (Q : Bool → Hp → Prop) : Wd → Wd → Bool → Prop := fun _ w' b => Q b w'.H
inductive Arg where
  | d (x : D) | s (i : Nat)
def ArgR (K : Frag) (w : Wd) (σ : St) (v : V) : Arg → Prop
  | .d x => Dq K w.I v x
  | .s i => σ[i]? = some (some v)
inductive ArgsR (K : Frag) (w : Wd) (σ : St) : List V → List Arg → Prop
  | nil : ArgsR K w σ [] []
  | cons {v : V} {vs : List V} {a : Arg} {as : List Arg} : ArgR K w σ v a → ArgsR K w σ vs as → ArgsR K w σ (v :: vs) (a :: as)
def RA (K : Frag) (σ : St) (Q : List V → Hp → Prop) : Wd → Wd → List Arg → Prop := fun _ w' as => ∀ vs, ArgsR K w' σ vs as → Q vs w'.H
theorem back_D {K : Frag} {σ : St} {Q : V → Hp → Prop} : Back (RD K σ Q) := fun _ _ _ _ _ h => h
theorem back_T {σ : St} {Q : Bool → Hp → Prop} : Back (RT σ Q) := fun _ _ _ _ _ h => h
theorem back_A {K : Frag} {σ : St} {Q : List V → Hp → Prop} : Back (RA K σ Q) := fun _ _ _ _ _ h => h
theorem back_O {K : Frag} {mg : Str → Option Value} {σ : St} {Q : V → Hp → Prop} : Back (RO K mg σ Q) := fun w w1 w' o s h v fp b => h v fp ⟨b.rel, b.nd, fun a m => by
  rcases b.new a m with z | z
  · exact s.fp a z
  · by_cases m0 : a ∈ w.FP
    · exact .inl m0
    · cases e : w.H a with
      | none => exact .inr rfl
      | some u =>
        rw [s.fr a u m0 e] at z
        cases z⟩
theorem ArgR.mono {K : Frag} {w w' : Wd} {σ : St} {v : V} {a : Arg} (s : Stp w w') (h : ArgR K w σ v a) : ArgR K w' σ v a := by
  cases a with
  | d x => exact dp_mono s.ii x v h
  | s i => exact h

def AD (X : Cx) (W : WX) (e : Expr) (m : M D) : Prop := ∃ te : TE, PE X e te ∧ Sn X.K X.mg W (RD X.K) te m
def AO (X : Cx) (W : WX) (e : Expr) (m : M O) : Prop := ∃ te : TE, PE X e te ∧ Sn X.K X.mg W (RO X.K X.mg) te m
def AT (X : Cx) (W : WX) (e : Expr) (m : M Bool) : Prop := ∃ tt : TT, PT X e tt ∧ Sn X.K X.mg W RT tt m
def AW (X : Cx) (W : WX) (e : Expr) (m : M Bool) : Prop := ∃ tt : TT, PW X e tt ∧ Sn X.K X.mg W RT tt m
def AA (X : Cx) (W : WX) (es : List Expr) (m : M (List Arg)) : Prop := ∃ ta : TA, PA X es ta ∧ Sn X.K X.mg W (RA X.K) ta m

/-! ### the readings -/
def mVar (i : Nat) : M D := fun E => match E[i]? with
  | some (some (.dt d)) => .ok d E
  | _ => .no
def mC (d : D) : M D := fun E => .ok d E
def m1 (f : D → Option D) (ma : M D) : M D := fun E => (ma E).bind fun x E1 => lift (f x) E1
def m2 (f : D → D → Option D) (ma mb : M D) : M D := fun E => (ma E).bind fun x E1 => (mb E1).bind fun y E2 => lift (f x y) E2
def mB (ma : M D) : M Bool := fun E => (ma E).bind fun x E1 => match x with
  | .bool b => .ok b E1
  | _ => .no
def mTru (f : D → Option Bool) (ma : M D) : M Bool := fun E => (ma E).bind fun x E1 => lift (f x) E1
def mAnd (a b : M Bool) : M Bool := fun E => (a E).bind fun c E1 => if c then b E1 else .ok false E1
def mOr (a b : M Bool) : M Bool := fun E => (a E).bind fun c E1 => if c then .ok true E1 else b E1
def mNot (a : M Bool) : M Bool := fun E => (a E).bind fun c E1 => .ok (!c) E1
def mAndV (a b : M D) : M D := fun E => (a E).bind fun x E1 => match x with
  | .bool true => b E1
  | .bool false => .ok (.bool false) E1
  | _ => .no
def mOrV (a b : M D) : M D := fun E => (a E).bind fun x E1 => match x with
  | .bool true => .ok (.bool true) E1
  | .bool false => b E1
  | _ => .no
def mNotV (a : M D) : M D := fun E => (a E).bind fun x E1 => match x with
  | .bool c => .ok (.bool (!c)) E1
  | _ => .no
def mIf (c : M Bool) (a b : M D) : M D := fun E => (c E).bind fun k E1 => if k then a E1 else b E1
def mIfO (c : M Bool) (a b : M O) : M O := fun E => (c E).bind fun k E1 => if k then a E1 else b E1
/-- freeze a value beside -/
def mFz (m : M O) : M D := fun E => (m E).bind fun o E1 => lift o.toD E1
/-- data as an owned value -/
def mDt (m : M D) : M O := fun E => (m E).bind fun d E1 => .ok (.dt d) E1
/-- a slot's cells, for good data -/
def mFrzV (i : Nat) : M D := fun E => match E[i]? with
  | some (some o) => (match o.toD with
    | some d => .ok d (E.set i (some (.dt d)))
    | none => .no)
  | _ => .no
def scalD : D → Bool
  | .none | .bool _ | .int _ | .str _ => true
  | _ => false
/-- all cells read as data for a while; the answer holds none of them -/
def mEye (m : M D) : M D := fun E => match m (frzE E) with
  | .ok d _ => if scalD d then .ok d E else .no
  | _ => .no
def mEyeT (m : M Bool) : M Bool := fun E => match m (frzE E) with
  | .ok b _ => .ok b E
  | _ => .no
def mArgD (m : M D) (r : M (List Arg)) : M (List Arg) := fun E => (m E).bind fun x E1 => (r E1).bind fun as E2 => .ok (.d x :: as) E2
def mArgS (i : Nat) (r : M (List Arg)) : M (List Arg) := fun E => match E[i]? with
  | some (some _) => (r E).bind fun as E2 => .ok (.s i :: as) E2
  | _ => .no
def mNilA : M (List Arg) := fun E => .ok [] E

section
variable {X : Cx} {W : WX} {a b c e : Expr} {es rest : List Expr} {pos : Pos} {ma mb mc : M D}
theorem ad_var (i : Nat) {x : Str} (h : PE X (.Name x pos) (tVar i)) : AD X W (.Name x pos) (mVar i) := by
  refine ⟨_, h, fun w σ E Q k po => ?_⟩
  unfold mVar at po
  split at po
  · next d e =>
    obtain ⟨v, h1, h2⟩ := k.data e
    exact ⟨v, h1, po w k (Stp.refl w) v h2⟩
  · exact po.elim
theorem ad_c {v : V} {d : D} (h : PE X e (tC v)) (hd : ∀ I, Dq X.K I v d) : AD X W e (mC d) := ⟨_, h, fun w σ E Q k po => po w k (Stp.refl w) v (hd _)⟩
theorem ad_int {i : Int} {j} : AD X W (.Constant (.int i) j pos) (mC (.int i)) := ad_c pe_int fun _ => .int i
theorem ad_bl {b : Bool} {j} : AD X W (.Constant (.bool b) j pos) (mC (.bool b)) := ad_c pe_bl fun _ => .bl b
theorem ad_non {j} : AD X W (.Constant .none j pos) (mC .none) := ad_c pe_non fun _ => .non
theorem ad_str {x : Str} {j} : AD X W (.Constant (.str x) j pos) (mC (.str x)) := ad_c pe_str fun _ => .str x

/-- a one-place operation refined -/
def UnD (K : Frag) (r : V → Hp → VK → Prop) (f : D → Option D) : Prop := ∀ (w : Wd) (x : V) (dx d : D) (Q : VK), Same w.I w.H → Dq K w.I x dx → f dx = some d → (∀ I' H' v, Gr w I' H' → Dq K I' v d → Q v H') → r x w.H Q
def OpD (K : Frag) (r : R2) (f : D → D → Option D) : Prop := ∀ (w : Wd) (x y : V) (dx dy d : D) (Q : VK), Same w.I w.H → Dq K w.I x dx → Dq K w.I y dy → f dx dy = some d → (∀ I' H' v, Gr w I' H' → Dq K I' v d → Q v H') → r x y w.H Q
theorem ad_op {op : Operator} {r : R2} {f : D → D → Option D} (hr : OpR X (binaryOp op) r) (ho : OpD X.K r f) (ha : AD X W a ma) (hb : AD X W b mb) : AD X W (.BinOp a op b pos) (m2 f ma mb) := by
  obtain ⟨ta, pa, sa⟩ := ha
  obtain ⟨tb, pb, sb⟩ := hb
  refine ⟨_, pe_op hr pa pb, fun w σ E Q k po => sa.run k po back_D fun d1 E1 w1 k1 s1 po1 v1 h1 => sb.run k1 po1 back_D fun d2 E2 w2 k2 s2 po2 v2 h2 => ?_⟩
  obtain ⟨z, hz, q⟩ := po2.lift
  exact ho w2 v1 v2 d1 d2 z Q k2.sub (dp_mono s2.ii _ _ h1) h2 hz fun I' H' v g hv => q ⟨I', H', w2.FP⟩ (k2.gr g) g.stp v hv
theorem ad_un {op : UnaryOp} {r : V → Hp → VK → Prop} {f : D → Option D} (h : ∀ {ta : TE}, PE X a ta → PE X (.UnaryOp op a pos) (tUn r ta)) (ho : UnD X.K r f) (ha : AD X W a ma) : AD X W (.UnaryOp op a pos) (m1 f ma) := by
  obtain ⟨ta, pa, sa⟩ := ha
  refine ⟨_, h pa, fun w σ E Q k po => sa.run k po back_D fun d1 E1 w1 k1 s1 po1 v1 h1 => ?_⟩
  obtain ⟨z, hz, q⟩ := po1.lift
  exact ho w1 v1 d1 z Q k1.sub h1 hz fun I' H' v g hv => q ⟨I', H', w1.FP⟩ (k1.gr g) g.stp v hv
theorem ad_cmp {op : CmpOp} {r : R2} {f : D → D → Option D} (hr : OpR X (compareOp op) r) (hm : behindInMarks op b = false) (ho : OpD X.K r f) (ha : AD X W a ma) (hb : AD X W b mb) : AD X W (.Compare a [op] [b] pos) (m2 f ma mb) := by
  obtain ⟨ta, pa, sa⟩ := ha
  obtain ⟨tb, pb, sb⟩ := hb
  refine ⟨_, pe_cmpR hr pa pb hm, fun w σ E Q k po => sa.run k po back_D fun d1 E1 w1 k1 s1 po1 v1 h1 => sb.run k1 po1 back_D fun d2 E2 w2 k2 s2 po2 v2 h2 => ?_⟩
  obtain ⟨z, hz, q⟩ := po2.lift
  exact ho w2 v1 v2 d1 d2 z Q k2.sub (dp_mono s2.ii _ _ h1) h2 hz fun I' H' v g hv => q ⟨I', H', w2.FP⟩ (k2.gr g) g.stp v hv
/-- a subscript -/
theorem ad_ix {r : R2} {f : D → D → Option D} (hr : IxR X r) (ho : OpD X.K r f) (ha : AD X W a ma) (hb : AD X W b mb) (h : ∀ {ta tb : TE}, PE X a ta → PE X b tb → PE X (.Subscript a b pos) (tOp r ta tb)) : AD X W (.Subscript a b pos) (m2 f ma mb) := by
  obtain ⟨ta, pa, sa⟩ := ha
  obtain ⟨tb, pb, sb⟩ := hb
  refine ⟨_, h pa pb, fun w σ E Q k po => sa.run k po back_D fun d1 E1 w1 k1 s1 po1 v1 h1 => sb.run k1 po1 back_D fun d2 E2 w2 k2 s2 po2 v2 h2 => ?_⟩
  obtain ⟨z, hz, q⟩ := po2.lift
  exact ho w2 v1 v2 d1 d2 z Q k2.sub (dp_mono s2.ii _ _ h1) h2 hz fun I' H' v g hv => q ⟨I', H', w2.FP⟩ (k2.gr g) g.stp v hv

/-! ### tests -/
theorem at_val (he : ∀ whole, isTrue e X.env whole = (do let v ← whole; standAt e.pos; holding [v] (truthy v))) (ha : AD X W e ma) : AT X W e (mB ma) := by
  obtain ⟨ta, pa, sa⟩ := ha
  refine ⟨_, pt_val pa he, fun w σ E Q k po => sa.run k po back_T fun d E1 w1 k1 s1 po1 v h1 => ?_⟩
  cases d with
  | bool b =>
    cases h1
    exact ⟨b, rfl, po1 w1 k1 (Stp.refl _)⟩
  | _ => exact po1.elim
theorem at_cmp {op : CmpOp} {r : R2} {f : D → D → Option D} (hr : OpR X (compareOp op) r) (hm : behindInMarks op b = false) (ho : OpD X.K r f) (ha : AD X W a ma) (hb : AD X W b mb) : AT X W (.Compare a [op] [b] pos) (mB (m2 f ma mb)) := by
  obtain ⟨ta, pa, sa⟩ := ha
  obtain ⟨tb, pb, sb⟩ := hb
  refine ⟨_, pt_cmpR hr pa pb hm, fun w σ E Q k po => ?_⟩
  have po' : Po X.K X.mg W σ (RT σ Q) w ((ma E).bind fun x E1 => ((mb E1).bind fun y E2 => ((lift (f x y) E2).bind fun x E1 => match x with
    | .bool b => .ok b E1
    | _ => .no))) := by
    have e : ∀ r : Rs D, ((r.bind fun x E1 => (mb E1).bind fun y E2 => lift (f x y) E2).bind fun x E1 => match x with
      | .bool b => Rs.ok b E1
      | _ => .no) = (r.bind fun x E1 => ((mb E1).bind fun y E2 => ((lift (f x y) E2).bind fun x E1 => match x with
      | .bool b => .ok b E1
      | _ => .no))) := fun r => by
      cases r with
      | ok x E1 => cases q : mb E1 with
        | ok y E2 => simp [q]
        | exc c fs E => simp [q]
        | no => simp [q]
      | exc c fs E => rfl
      | no => rfl
    have z : mB (m2 f ma mb) E = _ := e (ma E)
    rw [z] at po
    exact po
  refine sa.run k po' back_T fun d1 E1 w1 k1 s1 po1 v1 h1 => sb.run k1 po1 back_T fun d2 E2 w2 k2 s2 po2 v2 h2 => ?_
  cases hz : f d1 d2 with
  | none => rw [hz] at po2; exact po2.elim
  | some z =>
    rw [hz] at po2
    refine ho w2 v1 v2 d1 d2 z _ k2.sub (dp_mono s2.ii _ _ h1) h2 hz fun I' H' v g hv => ?_
    cases z with
    | bool b =>
      cases hv
      exact ⟨b, rfl, po2 ⟨I', H', w2.FP⟩ (k2.gr g) g.stp⟩
    | _ => exact po2.elim
def truD : D → Option Bool
  | .none => some false
  | .int i => some (i != 0)
  | .str x => if x.length ≤ sizeLine then some (x.length != 0) else none
  | .list xs => some (!xs.isEmpty)
  | .tuple xs => some (!xs.isEmpty)
  | _ => none
theorem at_not {m : M Bool} (h : AT X W a m) : AT X W (.UnaryOp .Not a pos) (mNot m) := by
  obtain ⟨tt, p, s⟩ := h
  exact ⟨_, pt_not p, fun w σ E Q k po => s.run k po back_T fun c E1 w1 k1 s1 po1 => po1 w1 k1 (Stp.refl _)⟩
theorem at_w {m : M Bool} (h : AW X W e m) : AT X W e m := by
  obtain ⟨tt, p, s⟩ := h
  exact ⟨_, p.pt, s⟩
theorem aw_and1 {m : M Bool} (h : AT X W a m) : AW X W (.BoolOp .And [a] pos) m := by
  obtain ⟨tt, p, s⟩ := h
  exact ⟨_, pw_and1 p, s⟩
theorem aw_or1 {m : M Bool} (h : AT X W a m) : AW X W (.BoolOp .Or [a] pos) m := by
  obtain ⟨tt, p, s⟩ := h
  exact ⟨_, pw_or1 p, s⟩
theorem aw_and {m n : M Bool} (h : AT X W a m) (h2 : AW X W (.BoolOp .And (b :: rest) pos) n) : AW X W (.BoolOp .And (a :: b :: rest) pos) (mAnd m n) := by
  obtain ⟨tt, p, s⟩ := h
  obtain ⟨tu, p2, s2⟩ := h2
  refine ⟨_, pw_and p p2, fun w σ E Q k po => s.run k po back_T fun c E1 w1 k1 s1 po1 => ?_⟩
  cases c with
  | true => exact s2 w1 σ E1 Q k1 po1
  | false => exact po1 w1 k1 (Stp.refl _)
theorem aw_or {m n : M Bool} (h : AT X W a m) (h2 : AW X W (.BoolOp .Or (b :: rest) pos) n) : AW X W (.BoolOp .Or (a :: b :: rest) pos) (mOr m n) := by
  obtain ⟨tt, p, s⟩ := h
  obtain ⟨tu, p2, s2⟩ := h2
  refine ⟨_, pw_or p p2, fun w σ E Q k po => s.run k po back_T fun c E1 w1 k1 s1 po1 => ?_⟩
  cases c with
  | true => exact po1 w1 k1 (Stp.refl _)
  | false => exact s2 w1 σ E1 Q k1 po1
/-- .. as values -/
theorem ad_one {op : BoolOp} (h : AD X W a ma) : AD X W (.BoolOp op [a] pos) ma := by
  obtain ⟨te, p, s⟩ := h
  exact ⟨_, pe_one p, s⟩
theorem ad_and (ha : AD X W a ma) (hb : AD X W (.BoolOp .And (b :: rest) pos) mb) : AD X W (.BoolOp .And (a :: b :: rest) pos) (mAndV ma mb) := by
  obtain ⟨ta, pa, sa⟩ := ha
  obtain ⟨tb, pb, sb⟩ := hb
  refine ⟨_, pe_and pa pb, fun w σ E Q k po => sa.run k po back_D fun d E1 w1 k1 s1 po1 v h1 => ?_⟩
  cases d with
  | bool c =>
    cases h1
    cases c with
    | true => exact ⟨true, rfl, sb w1 σ E1 Q k1 po1⟩
    | false => exact ⟨false, rfl, po1 w1 k1 (Stp.refl _) _ (.bl false)⟩
  | _ => exact po1.elim
theorem ad_or (ha : AD X W a ma) (hb : AD X W (.BoolOp .Or (b :: rest) pos) mb) : AD X W (.BoolOp .Or (a :: b :: rest) pos) (mOrV ma mb) := by
  obtain ⟨ta, pa, sa⟩ := ha
  obtain ⟨tb, pb, sb⟩ := hb
  refine ⟨_, pe_or pa pb, fun w σ E Q k po => sa.run k po back_D fun d E1 w1 k1 s1 po1 v h1 => ?_⟩
  cases d with
  | bool c =>
    cases h1
    cases c with
    | true => exact ⟨true, rfl, po1 w1 k1 (Stp.refl _) _ (.bl true)⟩
    | false => exact ⟨false, rfl, sb w1 σ E1 Q k1 po1⟩
  | _ => exact po1.elim
theorem ad_not (ha : AD X W a ma) : AD X W (.UnaryOp .Not a pos) (mNotV ma) := by
  obtain ⟨ta, pa, sa⟩ := ha
  refine ⟨_, pe_not pa, fun w σ E Q k po => sa.run k po back_D fun d E1 w1 k1 s1 po1 v h1 => ?_⟩
  cases d with
  | bool c =>
    cases h1
    exact ⟨c, rfl, po1 w1 k1 (Stp.refl _) _ (.bl _)⟩
  | _ => exact po1.elim
theorem ad_if {m : M Bool} (hc : AT X W c m) (ha : AD X W a ma) (hb : AD X W b mb) : AD X W (.IfExp c a b pos) (mIf m ma mb) := by
  obtain ⟨tt, p, s⟩ := hc
  obtain ⟨ta, pa, sa⟩ := ha
  obtain ⟨tb, pb, sb⟩ := hb
  refine ⟨_, pe_ifExp p pa pb, fun w σ E Q k po => s.run k po back_D fun c E1 w1 k1 s1 po1 => ?_⟩
  cases c with
  | true => exact sa w1 σ E1 Q k1 po1
  | false => exact sb w1 σ E1 Q k1 po1

/-! ### owned and frozen -/
theorem ad_fz {m : M O} (h : AO X W e m) : AD X W e (mFz m) := by
  obtain ⟨te, p, s⟩ := h
  refine ⟨_, p, fun w σ E Q k po => s.runw k po fun o E1 w1 k1 s1 po1 v fp b => ?_⟩
  obtain ⟨d, hd, q⟩ := po1.lift
  obtain ⟨w2, e, k2, s2, hv⟩ := Bes.freeze k1 b s1 hd
  rw [← e]
  exact q w2 k2 s2 v hv
theorem ao_dt (h : AD X W e ma) : AO X W e (mDt ma) := by
  obtain ⟨te, p, s⟩ := h
  exact ⟨_, p, fun w σ E Q k po => s.run k po back_O fun d E1 w1 k1 s1 po1 v h1 => po1 w1 k1 (Stp.refl _) v [] ⟨.dt h1, by simpa using k1.nd, fun a m => absurd m (by simp)⟩⟩
/-- a name's cells, for good data -/
theorem ad_frzV (i : Nat) {x : Str} (h : PE X (.Name x pos) (tVar i)) : AD X W (.Name x pos) (mFrzV i) := by
  refine ⟨_, h, fun w σ E Q k po => ?_⟩
  unfold mFrzV at po
  split at po
  · next o e =>
    split at po
    · next d hd =>
      obtain ⟨w', v, e1, e2, k', s', hv⟩ := k.freeze e hd
      refine ⟨v, e2, ?_⟩
      rw [← e1]
      exact po w' k' s' v hv
    · exact po.elim
  · exact po.elim
theorem dp_scal {K : Frag} {I I' : Hp} {v : V} {d : D} (h : Dq K I v d) (s : scalD d = true) : Dq K I' v d := by
  cases h with
  | non => exact .non
  | bl b => exact .bl b
  | int i => exact .int i
  | str x => exact .str x
  | lst _ _ => cases s
  | tup _ _ => cases s
  | scr _ _ => cases s
  | raw => cases s
  | exn _ _ => cases s
/-- an expression read over all cells; what it answers is no cell -/
theorem ad_eye (h : AD X W e ma) : AD X W e (mEye ma) := by
  obtain ⟨te, p, s⟩ := h
  refine ⟨_, p, fun w σ E Q k po => ?_⟩
  refine s ⟨Lf.frz w.I w.H w.FP, w.H, []⟩ σ (frzE E) Q k.frz ?_
  unfold mEye at po
  cases e : ma (frzE E) with
  | ok d E1 =>
    rw [e] at po
    cases q : scalD d with
    | false =>
      simp only [q] at po
      exact po.elim
    | true =>
      simp only [q] at po
      intro w' k' s' v hv
      obtain ⟨k2, s2⟩ := k.thaw s' k'.sub
      exact po ⟨w.I, w'.H, w.FP⟩ k2 s2 v (dp_scal hv q)
  | exc c fs E1 => rw [e] at po; exact po.elim
  | no => rw [e] at po; exact po.elim
theorem at_eye {m : M Bool} (h : AT X W e m) : AT X W e (mEyeT m) := by
  obtain ⟨te, p, s⟩ := h
  refine ⟨_, p, fun w σ E Q k po => ?_⟩
  refine s ⟨Lf.frz w.I w.H w.FP, w.H, []⟩ σ (frzE E) Q k.frz ?_
  unfold mEyeT at po
  cases e : m (frzE E) with
  | ok b E1 =>
    rw [e] at po
    intro w' k' s'
    obtain ⟨k2, s2⟩ := k.thaw s' k'.sub
    exact po ⟨w.I, w'.H, w.FP⟩ k2 s2
  | exc c fs E1 => rw [e] at po; exact po.elim
  | no => rw [e] at po; exact po.elim

/-! ### arguments, displays -/
theorem aa_nil : AA X W [] mNilA := ⟨_, pa_nil, fun w σ E Q k po => po w k (Stp.refl _) [] .nil⟩
theorem aa_d {r : M (List Arg)} (ha : AD X W e ma) (hr : AA X W es r) (hs : starEach (e :: es) X.env = (false, eval e X.env) :: starEach es X.env) : AA X W (e :: es) (mArgD ma r) := by
  obtain ⟨te, p, s⟩ := ha
  obtain ⟨tr, q, s2⟩ := hr
  refine ⟨_, pa_cons p q hs, fun w σ E Q k po => s.run k po back_A fun d E1 w1 k1 s1 po1 v h1 => s2.run k1 po1 back_A fun as E2 w2 k2 s2 po2 vs h2 => ?_⟩
  exact po2 w2 k2 (Stp.refl _) _ (.cons (dp_mono s2.ii _ _ h1) h2)
theorem aa_s {r : M (List Arg)} (i : Nat) {x : Str} (h : PE X (.Name x pos) (tVar i)) (hr : AA X W es r) (hs : starEach (.Name x pos :: es) X.env = (false, eval (.Name x pos) X.env) :: starEach es X.env) : AA X W (.Name x pos :: es) (mArgS i r) := by
  obtain ⟨tr, q, s2⟩ := hr
  refine ⟨_, pa_cons h q hs, fun w σ E Q k po => ?_⟩
  unfold mArgS at po
  split at po
  · next o e =>
    obtain ⟨v, fp, h1, h2, _⟩ := k.env.get e
    exact ⟨v, h1, s2.run k po back_A fun as E2 w2 k2 s2 po2 vs h2 => po2 w2 k2 (Stp.refl _) _ (.cons h1 h2)⟩
  · exact po.elim
def argsD : List Arg → Option (List D)
  | [] => some []
  | .d x :: r => (argsD r).map (x :: ·)
  | .s _ :: _ => none
theorem ArgsR.data {K : Frag} {w : Wd} {σ : St} : ∀ {vs : List V} {as : List Arg} {ds : List D}, ArgsR K w σ vs as → argsD as = some ds → DqAll K w.I vs ds
  | _, _, _, .nil, q => by cases q; exact .nil
  | _, _, _, @ArgsR.cons _ _ _ v vs a as h hs, q => by
    cases a with
    | s i => cases q
    | d x =>
      have q' : (argsD as).map (x :: ·) = some _ := q
      cases e : argsD as with
      | none => rw [e] at q'; cases q'
      | some ds =>
        rw [e] at q'
        cases q'
        exact .cons h (ArgsR.data hs e)
theorem dps_length {K : Frag} {I : Hp} : ∀ {vs : List V} {ds : List D}, DqAll K I vs ds → vs.length = ds.length
  | _, _, .nil => rfl
  | _, _, .cons _ h => by simp [dps_length h]
/-- [a, b, ..], (a, b, ..) of data -/
def mDisp (f : List D → D) (m : M (List Arg)) : M D := fun E => (m E).bind fun as E1 => lift ((argsD as).bind fun ds => if ds.length ≤ 16777216 then some (f ds) else none) E1
theorem ad_tup {k} {m : M (List Arg)} (h : AA X W es m) : AD X W (.Tuple es k pos) (mDisp .tuple m) := by
  obtain ⟨te, p, s⟩ := h
  refine ⟨_, pe_tup p, fun w σ E Q k po => s.run k po back_D fun as E1 w1 k1 s1 po1 vs hv => ?_⟩
  obtain ⟨d, hd, q⟩ := po1.lift
  cases e : argsD as with
  | none => rw [e] at hd; cases hd
  | some ds =>
    rw [e] at hd
    have hda := hv.data e
    have hd' : (if ds.length ≤ 16777216 then some (PyData.tuple ds) else none) = some d := hd
    split at hd'
    · next hl =>
      cases hd'
      refine ⟨by rw [dps_length hda]; exact hl, fun a ha => ?_⟩
      have g := Gr.new k1.sub (.tup vs) ha
      exact q ⟨_, _, w1.FP⟩ (k1.gr g) g.stp _ (.tup (SqT.of upd_same) (dps_mono g.ii _ _ hda))
    · cases hd'
theorem ad_lst {m : M (List Arg)} (h : AA X W es m) : AD X W (.List es pos) (mDisp .list m) := by
  obtain ⟨te, p, s⟩ := h
  refine ⟨_, pe_lst p, fun w σ E Q k po => s.run k po back_D fun as E1 w1 k1 s1 po1 vs hv => ?_⟩
  obtain ⟨d, hd, q⟩ := po1.lift
  cases e : argsD as with
  | none => rw [e] at hd; cases hd
  | some ds =>
    rw [e] at hd
    have hda := hv.data e
    have hd' : (if ds.length ≤ 16777216 then some (PyData.list ds) else none) = some d := hd
    split at hd'
    · next hl =>
      cases hd'
      refine ⟨by rw [dps_length hda]; exact hl, fun a ha => ?_⟩
      have g := Gr.new k1.sub (.lst vs) ha
      exact q ⟨_, _, w1.FP⟩ (k1.gr g) g.stp _ (.lst upd_same (dps_mono g.ii _ _ hda))
    · cases hd'
theorem ors_dt {K : Frag} {mg : Str → Option Value} {I H : Hp} : ∀ {vs : List V} {ds : List D}, DqAll K I vs ds → ORs K mg I H vs (ds.map .dt) []
  | _, _, .nil => .nil
  | _, _, .cons h hs => .cons (fp := []) (fq := []) (.dt h) (ors_dt hs)
/-- a new list of one's own, of data -/
def mLstO (m : M (List Arg)) : M O := fun E => (m E).bind fun as E1 => lift ((argsD as).bind fun ds => if ds.length ≤ 16777216 then some (.lst (ds.map .dt)) else none) E1
/-- a new cell beside -/
theorem bes_new {K : Frag} {mg : Str → Option Value} {w w1 : Wd} {σ : St} {E : En} {a : Addr} {vs : List V} {ds : List D} (k1 : Ok K mg w1 σ E) (s1 : Stp w w1) (ha : w1.H a = none) (hda : DqAll K w1.I vs ds) :
    Ok K mg ⟨w1.I, upd w1.H a (.lst vs), w1.FP⟩ σ E ∧ Stp w ⟨w1.I, upd w1.H a (.lst vs), w1.FP⟩ ∧ Bes K mg w ⟨w1.I, upd w1.H a (.lst vs), w1.FP⟩ (.ref a) (.lst (ds.map .dt)) [a] := by
  have ia : w1.I a = none := k1.sub.free ha
  have na : a ∉ w1.FP := fun m => by
    obtain ⟨_, u, hu⟩ := k1.env.there a m
    rw [ha] at hu; cases hu
  have sh : Same w1.H (upd w1.H a (.lst vs)) := same_new ha
  refine ⟨⟨k1.sub.trans sh, k1.env.mono (Same.refl _) fun b m => ?_, k1.nd⟩, ⟨s1.ii, fun b u n h => sh _ _ (s1.fr b u n h), s1.nw, s1.fp⟩, ⟨.lst upd_same ia (ors_dt hda), ?_, fun b m => ?_⟩⟩
  · obtain ⟨n, u, hu⟩ := k1.env.there b m
    exact ⟨(sh b u hu).trans hu.symm, n⟩
  · exact List.nodup_cons.mpr ⟨na, k1.nd⟩
  · have e : b = a := by simpa using m
    subst e
    by_cases m0 : b ∈ w.FP
    · exact .inl m0
    · cases q : w.H b with
      | none => exact .inr rfl
      | some u => rw [s1.fr b u m0 q] at ha; cases ha
theorem ao_lst {m : M (List Arg)} (h : AA X W es m) : AO X W (.List es pos) (mLstO m) := by
  obtain ⟨te, p, s⟩ := h
  refine ⟨_, pe_lst p, fun w σ E Q k po => s.runw k po fun as E1 w1 k1 s1 po1 vs hv => ?_⟩
  obtain ⟨d, hd, q⟩ := po1.lift
  cases e : argsD as with
  | none => rw [e] at hd; cases hd
  | some ds =>
    rw [e] at hd
    have hda := hv.data e
    have hd' : (if ds.length ≤ 16777216 then some (O.lst (ds.map .dt)) else none) = some d := hd
    split at hd'
    · next hl =>
      cases hd'
      refine ⟨by rw [dps_length hda]; exact hl, fun a ha => ?_⟩
      obtain ⟨k2, s2, b⟩ := bes_new k1 s1 ha hda
      exact q _ k2 s2 _ _ b
    · cases hd'
end
end Lf
set_option Elab.async false
set_option linter.all false
set_option maxRecDepth 100000
set_option maxHeartbeats 4000000
/-! The lifting layer: statements. -/
namespace Lf
open PySem L2

inductive Out where
  | nx | br | ct | rt (o : O)
/-- the slots pz hold what they held -/
structure Ag (pz : List Nat) (σ σ' : St) : Prop where
  len : σ'.length = σ.length
  at_ : ∀ i ∈ pz, σ'[i]? = σ[i]?
theorem Ag.refl (pz : List Nat) (σ : St) : Ag pz σ σ := ⟨rfl, fun _ _ => rfl⟩
theorem Ag.trans {pz : List Nat} {σ σ1 σ2 : St} (a : Ag pz σ σ1) (b : Ag pz σ1 σ2) : Ag pz σ σ2 := ⟨b.len.trans a.len, fun i h => (b.at_ i h).trans (a.at_ i h)⟩
theorem Ag.set {pz : List Nat} {σ : St} {i : Nat} {x : Option V} (h : i ∉ pz) : Ag pz σ (σ.set i x) := ⟨List.length_set, fun j hj => by
  exact List.getElem?_set_ne (fun (e : i = j) => h (by rw [e]; exact hj))⟩
def OutR (K : Frag) (mg : Str → Option Value) (D : Ends) (w w' : Wd) (σ' : St) : Out → Prop
  | .nx => D.nx σ' w'.H
  | .br => D.bk σ' w'.H
  | .ct => D.ct σ' w'.H
  | .rt o => ∀ v fp, Bes K mg w w' v o fp → D.rt v w'.H
def PoS (K : Frag) (mg : Str → Option Value) (W : WX) (pz : List Nat) (σ : St) (D : Ends) (w : Wd) : Rs Out → Prop
  | .ok o E' => ∀ w' σ', Ok K mg w' σ' E' → Stp w w' → Ag pz σ σ' → OutR K mg D w w' σ' o
  | .exc c fs E' => ∀ w' σ' cls dd, Ok K mg w' σ' E' → Stp w w' → Ag pz σ σ' → ErrOk K mg w' c fs cls dd → W cls dd σ' w'.H
  | .no => False
section
variable {K : Frag} {mg : Str → Option Value} {W : WX} {pz : List Nat} {σ σ1 : St} {D : Ends} {w w1 : Wd}
theorem OutR.from {w' : Wd} {σ' : St} {o : Out} (s : Stp w w1) (h : OutR K mg D w w' σ' o) : OutR K mg D w1 w' σ' o := by
  cases o with
  | rt o => exact back_O (Q := D.rt) (σ := σ') w w1 w' o s h
  | _ => exact h
theorem PoS.from {r : Rs Out} (s : Stp w w1) (a : Ag pz σ σ1) (h : PoS K mg W pz σ D w r) : PoS K mg W pz σ1 D w1 r := by
  cases r with
  | ok o E => exact fun w' σ' k s' a' => (h w' σ' k (s.trans s') (a.trans a')).from s
  | exc c fs E => exact fun w' σ' cls dd k s' a' => h w' σ' cls dd k (s.trans s') (a.trans a')
  | no => exact h
theorem PoS.lift {o : Option Out} {E : En} (h : PoS K mg W pz σ D w (lift o E)) : ∃ a, o = some a ∧ ∀ w' σ', Ok K mg w' σ' E → Stp w w' → Ag pz σ σ' → OutR K mg D w w' σ' a := by
  cases o with
  | some a => exact ⟨a, rfl, h⟩
  | none => exact h.elim
end
/-- an expression at the head of a statement -/
theorem Sn.runS {α γ : Type} {K : Frag} {mg : Str → Option Value} {W : WX} {pz : List Nat} {RR : St → (γ → Hp → Prop) → Wd → Wd → α → Prop} {t : St → Hp → (γ → Hp → Prop) → Prop} {m : M α} (sa : Sn K mg W RR t m) {w : Wd} {σ : St} {E : En} {D : Ends} {Q : γ → Hp → Prop} (k : Ok K mg w σ E)
    {κ : α → En → Rs Out} (po : PoS K mg W pz σ D w ((m E).bind κ)) (h : ∀ a E1 w1, Ok K mg w1 σ E1 → Stp w w1 → PoS K mg W pz σ D w (κ a E1) → RR σ Q w w1 a) : t σ w.H Q := by
  refine sa w σ E Q k ?_
  cases e : m E with
  | ok a E1 =>
    rw [e] at po
    exact fun w1 k1 s1 => h a E1 w1 k1 s1 po
  | exc c fs E1 =>
    rw [e] at po
    exact fun w' cls dd k' s' z => po w' σ cls dd k' s' (Ag.refl _ _) z
  | no =>
    rw [e] at po
    exact po

def AS (X : Cx) (W : WX) (pz : List Nat) (st : Stmt) (m : M Out) : Prop := ∃ t : TS, PS X st t ∧ ∀ w σ E D, Ok X.K X.mg w σ E → PoS X.K X.mg W pz σ D w (m E) → t D σ w.H
def AB (X : Cx) (W : WX) (pz : List Nat) (sts : List Stmt) (m : M Out) : Prop := ∃ t : TS, PSs X sts t ∧ ∀ w σ E D, Ok X.K X.mg w σ E → PoS X.K X.mg W pz σ D w (m E) → t D σ w.H

def mNx : M Out := fun E => .ok .nx E
def mSeq (a b : M Out) : M Out := fun E => match a E with
  | .ok .nx E1 => b E1
  | r => r
def mDrop {α : Type} (m : M α) : M Out := fun E => (m E).bind fun _ E1 => .ok .nx E1
def mRet (m : M O) : M Out := fun E => (m E).bind fun o E1 => .ok (.rt o) E1
def mRetD (m : M D) : M Out := fun E => (m E).bind fun d E1 => .ok (.rt (.dt d)) E1
def mIfS (c : M Bool) (a b : M Out) : M Out := fun E => (c E).bind fun k E1 => if k then a E1 else b E1
def mSet (i : Nat) (m : M D) : M Out := fun E => (m E).bind fun d E1 => if i < E1.length then .ok .nx (E1.set i (some (.dt d))) else .no
def mSetO (i : Nat) (m : M O) : M Out := fun E => (m E).bind fun o E1 => if i < E1.length then .ok .nx (E1.set i (some o)) else .no
def killE : List Nat → En → En
  | [], E => E
  | i :: ks, E => killE ks (E.set i none)
def mKill (ks : List Nat) (m : M Out) : M Out := fun E => m (killE ks E)
theorem Ok.killE {K : Frag} {mg : Str → Option Value} {σ : St} : ∀ {ks : List Nat} {w : Wd} {E : En}, Ok K mg w σ E → ∃ w', w'.H = w.H ∧ Ok K mg w' σ (Lf.killE ks E) ∧ Stp w w'
  | [], w, _, k => ⟨w, rfl, k, Stp.refl _⟩
  | i :: ks, w, E, k => by
    obtain ⟨w1, e1, k1, s1⟩ := k.forget (i := i)
    obtain ⟨w2, e2, k2, s2⟩ := k1.killE (ks := ks)
    exact ⟨w2, e2.trans e1, k2, s1.trans s2⟩

section
variable {X : Cx} {W : WX} {pz : List Nat} {st : Stmt} {sts : List Stmt} {e c : Expr} {pos : Pos} {m n : M Out} {ma : M D}
theorem ab_nil : AB X W pz [] mNx := ⟨_, pss_nil, fun w σ E D k po => po w σ k (Stp.refl _) (Ag.refl _ _)⟩
theorem ab_one (h : AS X W pz st m) : AB X W pz [st] m := by
  obtain ⟨t, p, s⟩ := h
  exact ⟨_, pss_one p, s⟩
theorem ab_cons (h : AS X W pz st m) (h2 : AB X W pz sts n) : AB X W pz (st :: sts) (mSeq m n) := by
  obtain ⟨t, p, s⟩ := h
  obtain ⟨u, q, s2⟩ := h2
  refine ⟨_, pss_cons p q, fun w σ E D k po => ?_⟩
  refine s w σ E _ k ?_
  unfold mSeq at po
  cases r : m E with
  | ok o E1 =>
    rw [r] at po
    cases o with
    | nx => exact fun w1 σ1 k1 s1 a1 => s2 w1 σ1 E1 D k1 (po.from s1 a1)
    | br => exact po
    | ct => exact po
    | rt o => exact po
  | exc c fs E1 => rw [r] at po; exact po
  | no => rw [r] at po; exact po
/-- slots are forgotten ahead of a statement -/
theorem as_kill (ks : List Nat) (h : AS X W pz st m) : AS X W pz st (mKill ks m) := by
  obtain ⟨t, p, s⟩ := h
  refine ⟨t, p, fun w σ E D k po => ?_⟩
  obtain ⟨w1, e1, k1, s1⟩ := k.killE (ks := ks)
  rw [← e1]
  exact s w1 σ _ D k1 (po.from s1 (Ag.refl _ _))
theorem as_pass : AS X W pz (.Pass pos) mNx := ⟨_, ps_pass, fun w σ E D k po => po w σ k (Stp.refl _) (Ag.refl _ _)⟩
theorem as_break : AS X W pz (.Break pos) (fun E => .ok .br E) := ⟨_, ps_break, fun w σ E D k po => po w σ k (Stp.refl _) (Ag.refl _ _)⟩
theorem as_cont : AS X W pz (.Continue pos) (fun E => .ok .ct E) := ⟨_, ps_continue, fun w σ E D k po => po w σ k (Stp.refl _) (Ag.refl _ _)⟩
theorem as_expr (he : AD X W e ma) (hs : swapsWith e none pos.line X.env = pure false) : AS X W pz (.Expr e pos) (mDrop ma) := by
  obtain ⟨te, p, s⟩ := he
  exact ⟨_, ps_expr p hs, fun w σ E D k po => s.runS k po fun d E1 w1 k1 s1 po1 v h1 => po1 w1 σ k1 s1 (Ag.refl _ _)⟩
theorem as_ret {mo : M O} (he : AO X W e mo) : AS X W pz (.Return (some e) pos) (mRet mo) := by
  obtain ⟨te, p, s⟩ := he
  exact ⟨_, ps_ret p, fun w σ E D k po => s.runS k po fun o E1 w1 k1 s1 po1 v fp b => po1 w1 σ k1 s1 (Ag.refl _ _) v fp b⟩
theorem as_retD (he : AD X W e ma) : AS X W pz (.Return (some e) pos) (mRetD ma) := by
  obtain ⟨te, p, s⟩ := he
  exact ⟨_, ps_ret p, fun w σ E D k po => s.runS k po fun d E1 w1 k1 s1 po1 v h1 => po1 w1 σ k1 s1 (Ag.refl _ _) v [] ⟨.dt h1, by simpa using k1.nd, fun a m => absurd m (by simp)⟩⟩
theorem as_retN : AS X W pz (.Return none pos) (fun E => .ok (.rt (.dt .none)) E) := ⟨_, ps_retN, fun w σ E D k po => po w σ k (Stp.refl _) (Ag.refl _ _) .non [] ⟨.dt .non, by simpa using k.nd, fun a m => absurd m (by simp)⟩⟩
theorem as_if {a b : List Stmt} {mc : M Bool} (hc : AT X W c mc) (ha : AB X W pz a m) (hb : AB X W pz b n) : AS X W pz (.If c a b pos) (mIfS mc m n) := by
  obtain ⟨tt, p, s⟩ := hc
  obtain ⟨t, pa, sa⟩ := ha
  obtain ⟨u, pb, sb⟩ := hb
  refine ⟨_, ps_if p pa pb, fun w σ E D k po => s.runS k po fun c E1 w1 k1 s1 po1 => ?_⟩
  cases c with
  | true => exact sa w1 σ E1 D k1 (po1.from s1 (Ag.refl _ _))
  | false => exact sb w1 σ E1 D k1 (po1.from s1 (Ag.refl _ _))
theorem bes_dt {K : Frag} {mg : Str → Option Value} {w w1 : Wd} {σ : St} {E : En} {v : V} {d : D} (k1 : Ok K mg w1 σ E) (h : Dq K w1.I v d) : Bes K mg w w1 v (.dt d) [] := ⟨.dt h, by simpa using k1.nd, fun a m => absurd m (by simp)⟩
/-- x = e, data -/
theorem as_set (i : Nat) {x : Str} {pos' : Pos} (hi : i ∉ pz) (hp : ∀ {te : TE}, PE X e te → PS X (.Assign [.Name x pos'] e pos) (tAsg te (gName i))) (he : AD X W e ma) : AS X W pz (.Assign [.Name x pos'] e pos) (mSet i ma) := by
  obtain ⟨te, p, s⟩ := he
  refine ⟨_, hp p, fun w σ E D k po => s.runS k po fun d E1 w1 k1 s1 po1 v h1 => ?_⟩
  split at po1
  · next hl =>
    obtain ⟨w2, e2, k2, s2⟩ := k1.put (bes_dt (w := w) k1 h1) hl s1
    have r := po1 w2 _ k2 s2 (Ag.set hi)
    show D.nx _ _
    rw [← e2]; exact r
  · exact po1.elim
/-- x = e, a cell of one's own -/
theorem as_setO (i : Nat) {x : Str} {pos' : Pos} {mo : M O} (hi : i ∉ pz) (hp : ∀ {te : TE}, PE X e te → PS X (.Assign [.Name x pos'] e pos) (tAsg te (gName i))) (he : AO X W e mo) : AS X W pz (.Assign [.Name x pos'] e pos) (mSetO i mo) := by
  obtain ⟨te, p, s⟩ := he
  refine ⟨_, hp p, fun w σ E D k po => s.runS k po fun d E1 w1 k1 s1 po1 v fp b => ?_⟩
  split at po1
  · next hl =>
    obtain ⟨w2, e2, k2, s2⟩ := k1.put b hl s1
    have r := po1 w2 _ k2 s2 (Ag.set hi)
    show D.nx _ _
    rw [← e2]; exact r
  · exact po1.elim
end

/-! ### while -/
/-- what a loop does behind a turn -/
def again (ks : List Nat) (r : Rs Out) (next : M Out) : Rs Out := match r with
  | .ok .nx E2 => next (killE ks E2)
  | .ok .ct E2 => next (killE ks E2)
  | .ok .br E2 => .ok .nx (killE ks E2)
  | r => r
def whileL (ks : List Nat) (c : M Bool) (b : M Out) : Nat → M Out
  | 0 => fun _ => .no
  | n + 1 => fun E => (c E).bind fun k E1 => if k then again ks (b E1) (whileL ks c b n) else .ok .nx E1
def mWhile (N : Nat) (ks : List Nat) (c : M Bool) (b : M Out) : M Out := fun E => whileL ks c b N (killE ks E)
section
variable {X : Cx} {W : WX} {pz : List Nat} {c : Expr} {body : List Stmt} {pos : Pos} {mc : M Bool} {mb : M Out}
theorem as_while (N : Nat) (ks : List Nat) (hp : PassesOwn (model X.prog X.w) X.A X.env X.xe) (hc : AT X W c mc) (hb : AB X W pz body mb) : AS X W pz (.While c body [] pos) (mWhile N ks mc mb) := by
  obtain ⟨tt, p, s⟩ := hc
  obtain ⟨t, pb, sb⟩ := hb
  refine ⟨_, ps_while hp p pb, fun w0 σ0 E0 D k0 po0 => ?_⟩
  refine ⟨fun n σ H => ∃ w E, w.H = H ∧ Ok X.K X.mg w σ E ∧ Stp w0 w ∧ Ag pz σ0 σ ∧ PoS X.K X.mg W pz σ D w (whileL ks mc mb n E), ?_, ?_⟩
  · obtain ⟨w1, e1, k1, s1⟩ := k0.killE (ks := ks)
    exact ⟨N, w1, _, e1, k1, s1, Ag.refl _ _, po0.from s1 (Ag.refl _ _)⟩
  rintro n σ H ⟨w, E, rfl, k, s0, a0, po⟩
  cases n with
  | zero => exact po.elim
  | succ n =>
    refine s.runS (pz := pz) (D := D) k po fun b E1 w1 k1 s1 po1 => ?_
    cases b with
    | false =>
      show D.nx σ w1.H
      exact po1 w1 σ k1 s1 (Ag.refl _ _)
    | true =>
      show ∃ N : St → Hp → Prop, (∀ σ' H', N σ' H' → ∃ m', m' < n + 1 ∧ ∃ w E, w.H = H' ∧ Ok X.K X.mg w σ' E ∧ Stp w0 w ∧ Ag pz σ0 σ' ∧ PoS X.K X.mg W pz σ' D w (whileL ks mc mb m' E)) ∧ t { D with nx := N, ct := N, bk := D.nx } σ w1.H
      refine ⟨fun σ' H' => ∃ w E, w.H = H' ∧ Ok X.K X.mg w σ' E ∧ Stp w0 w ∧ Ag pz σ0 σ' ∧ PoS X.K X.mg W pz σ' D w (whileL ks mc mb n E), fun σ' H' z => ⟨n, Nat.lt_succ_self _, z⟩, ?_⟩
      have po2 : PoS X.K X.mg W pz σ D w (again ks (mb E1) (whileL ks mc mb n)) := po1
      refine sb w1 σ E1 _ k1 ?_
      cases r : mb E1 with
      | ok o E2 =>
        rw [r] at po2
        cases o with
        | nx =>
          intro w2 σ2 k2 s2 a2
          obtain ⟨w3, e3, k3, s3⟩ := k2.killE (ks := ks)
          exact ⟨w3, _, e3, k3, ((s0.trans s1).trans s2).trans s3, a0.trans a2, po2.from ((s1.trans s2).trans s3) a2⟩
        | ct =>
          intro w2 σ2 k2 s2 a2
          obtain ⟨w3, e3, k3, s3⟩ := k2.killE (ks := ks)
          exact ⟨w3, _, e3, k3, ((s0.trans s1).trans s2).trans s3, a0.trans a2, po2.from ((s1.trans s2).trans s3) a2⟩
        | br =>
          intro w2 σ2 k2 s2 a2
          obtain ⟨w3, e3, k3, s3⟩ := k2.killE (ks := ks)
          show D.nx σ2 w2.H
          rw [← e3]
          exact po2 w3 σ2 k3 ((s1.trans s2).trans s3) a2
        | rt o => exact fun w2 σ2 k2 s2 a2 => (po2 w2 σ2 k2 (s1.trans s2) a2 : OutR X.K X.mg D w w2 σ2 (.rt o)).from s1
      | exc c fs E2 =>
        rw [r] at po2
        exact fun w2 σ2 cls dd k2 s2 a2 => po2 w2 σ2 cls dd k2 (s1.trans s2) a2
      | no =>
        rw [r] at po2
        exact po2
end

/-! ### for -/
structure Yields (K : Frag) (J : It) (I0 : Hp) (ds : List D) : Prop where
  go : ∀ (w : Wd) (i : Nat), Same I0 w.I → Same w.I w.H → i < ds.length → J.go i w.H
  yld : ∀ (w : Wd) (i : Nat) (d : D) (x : V) (H' : Hp), Same I0 w.I → Same w.I w.H → ds[i]? = some d → J.yld i w.H x H' → ∃ I', Gr w I' H' ∧ Dq K I' x d
  stop : ∀ w : Wd, Same I0 w.I → Same w.I w.H → J.stop ds.length w.H
def RI (K : Frag) (_ : St) (R : It → Hp → Prop) : Wd → Wd → List D → Prop := fun _ w' ds => ∀ J, Yields K J w'.I ds → R J w'.H
theorem back_I {K : Frag} {σ : St} {R : It → Hp → Prop} : Back (RI K σ R) := fun _ _ _ _ _ h => h
def AI (X : Cx) (W : WX) (tg it : Expr) (m : M (List D)) : Prop := ∃ wi : TI, PI X tg it wi ∧ Sn X.K X.mg W (RI X.K) wi m
/-- only the slots is were stored -/
structure Agx (is : List Nat) (σ σ' : St) : Prop where
  len : σ'.length = σ.length
  at_ : ∀ j, j ∉ is → σ'[j]? = σ[j]?
theorem Agx.refl (is : List Nat) (σ : St) : Agx is σ σ := ⟨rfl, fun _ _ => rfl⟩
theorem Agx.trans {is js : List Nat} {σ σ1 σ2 : St} (a : Agx is σ σ1) (b : Agx js σ1 σ2) : Agx (is ++ js) σ σ2 := ⟨b.len.trans a.len, fun j h => (b.at_ j fun m => h (List.mem_append_right _ m)).trans (a.at_ j fun m => h (List.mem_append_left _ m))⟩
theorem Agx.set {σ : St} {i : Nat} {x : Option V} : Agx [i] σ (σ.set i x) := ⟨List.length_set, fun j hj => List.getElem?_set_ne (fun (e : i = j) => hj (by rw [e]; exact List.mem_cons_self))⟩
theorem Agx.ag {is pz : List Nat} {σ σ' : St} (a : Agx is σ σ') (h : ∀ j ∈ pz, j ∉ is) : Ag pz σ σ' := ⟨a.len, fun i m => a.at_ i (h i m)⟩
def AG (X : Cx) (is : List Nat) (tg : Expr) (bd : D → En → Option En) : Prop := ∃ g : TG, PG X tg g ∧ ∀ w σ E d v (R : St → Hp → Prop), Ok X.K X.mg w σ E → Dq X.K w.I v d →
  (match bd d E with
    | some E' => ∀ w' σ', Ok X.K X.mg w' σ' E' → Stp w w' → Agx is σ σ' → R σ' w'.H
    | none => False) → g v σ w.H R
def bName (i : Nat) : D → En → Option En := fun d E => if i < E.length then some (E.set i (some (.dt d))) else none
def setAll : List Nat → List D → En → Option En
  | [], [], E => some E
  | i :: is, d :: ds, E => if i < E.length then setAll is ds (E.set i (some (.dt d))) else none
  | _, _, _ => none
def bTup (is : List Nat) : D → En → Option En := fun d E => match d with
  | .tuple ds => setAll is ds E
  | _ => none
def forL (ks : List Nat) (bd : D → En → Option En) (b : M Out) : List D → M Out
  | [] => fun E => .ok .nx E
  | x :: xs => fun E => match bd x E with
    | some E1 => again ks (b E1) (forL ks bd b xs)
    | none => .no
def mFor (ks : List Nat) (mi : M (List D)) (bd : D → En → Option En) (b : M Out) : M Out := fun E => (mi E).bind fun xs E1 => forL ks bd b xs (killE ks E1)
section
variable {X : Cx} {W : WX} {pz : List Nat} {tg iter : Expr} {body : List Stmt} {pos : Pos} {mi : M (List D)} {bd : D → En → Option En} {mb : M Out}
theorem ag_name (i : Nat) {x : Str} (h : PG X (.Name x pos) (gName i)) : AG X [i] (.Name x pos) (bName i) := by
  refine ⟨_, h, fun w σ E d v R k hd po => ?_⟩
  unfold bName at po
  split at po
  · next E' e =>
    split at e
    · next hl =>
      cases e
      obtain ⟨w2, e2, k2, s2⟩ := k.put (bes_dt (w := w) k hd) hl (Stp.refl _)
      show R _ _
      rw [← e2]
      exact po w2 _ k2 s2 Agx.set
    · cases e
  · exact po.elim
/-- the names of a tuple target, one after another -/
def AGs (X : Cx) (ts : List Expr) (is : List Nat) : Prop := ∃ g : TGs, PGs X ts g ∧ ∀ w σ E ds vs (R : St → Hp → Prop), Ok X.K X.mg w σ E → DqAll X.K w.I vs ds →
  (match setAll is ds E with
    | some E' => ∀ w' σ', Ok X.K X.mg w' σ' E' → Stp w w' → Agx is σ σ' → R σ' w'.H
    | none => False) → g vs σ w.H R
theorem ags_nil : AGs X [] [] := ⟨_, pgs_nil, fun w σ E ds vs R k hd po => by
  cases hd with
  | nil => exact ⟨rfl, po w σ k (Stp.refl _) (Agx.refl _ _)⟩
  | cons _ _ => exact po.elim⟩
theorem ags_cons (i : Nat) {x : Str} {ts : List Expr} {is : List Nat} (h : PG X (.Name x pos) (gName i)) (hr : AGs X ts is)
    (hs : (assignEach (.Name x pos :: ts) X.env).map (·.2) = assign (.Name x pos) X.env :: (assignEach ts X.env).map (·.2)) : AGs X (.Name x pos :: ts) (i :: is) := by
  obtain ⟨g, p, s⟩ := hr
  refine ⟨_, pgs_cons h p hs, fun w σ E ds vs R k hd po => ?_⟩
  cases hd with
  | nil => exact po.elim
  | @cons v vs d ds h1 h2 =>
    have po' : (match (if i < E.length then setAll is ds (E.set i (some (.dt d))) else none) with
      | some E' => ∀ w' σ', Ok X.K X.mg w' σ' E' → Stp w w' → Agx (i :: is) σ σ' → R σ' w'.H
      | none => False) := po
    split at po'
    · next E' e =>
      split at e
      · next hl =>
        obtain ⟨w2, e2, k2, s2⟩ := k.put (bes_dt (w := w) k h1) hl (Stp.refl _)
        refine ⟨v, vs, rfl, ?_⟩
        show g vs (σ.set i (some v)) w.H _
        rw [← e2]
        refine s w2 _ _ ds vs R k2 (dps_mono s2.ii _ _ h2) ?_
        rw [e]
        exact fun w' σ' k' s' a' => po' w' σ' k' (s2.trans s') (Agx.set.trans a')
      · cases e
    · exact po'.elim
theorem ag_tup {es : List Expr} {kk : Nat} {is : List Nat} (hc : X.calm = true) (hr : AGs X es is) (hn : (assignEach es X.env).length = is.length) (hst : (assignEach es X.env).findIdx? (·.1) = none) : AG X is (.Tuple es kk pos) (bTup is) := by
  obtain ⟨g, p, s⟩ := hr
  refine ⟨_, pg_tup hc p hn hst, fun w σ E d v R k hd po => ?_⟩
  unfold bTup at po
  cases d with
  | tuple ds =>
    cases hd with
    | @tup a vs _ h1 h2 =>
      refine ⟨a, vs, rfl, sqT_mono k.sub h1, ?_, s w σ E ds vs R k h2 ?_⟩
      · rw [dps_length h2]
        simp only at po
        have len : ∀ (is : List Nat) (ds : List D) (E E' : En), setAll is ds E = some E' → ds.length = is.length := by
          intro is
          induction is with
          | nil =>
            intro ds E E' q
            cases ds with
            | nil => rfl
            | cons _ _ => cases q
          | cons i is ih =>
            intro ds E E' q
            cases ds with
            | nil => cases q
            | cons d ds =>
              have q' : (if i < E.length then setAll is ds (E.set i (some (.dt d))) else none) = some E' := q
              split at q'
              · simp [ih ds _ _ q']
              · cases q'
        cases q : setAll is ds E with
        | none => rw [q] at po; exact po.elim
        | some E' => exact len _ _ _ _ q
      · simp only at po
        cases q : setAll is ds E with
        | none => rw [q] at po; exact po.elim
        | some E' => rw [q] at po; exact po
  | _ => exact po.elim
theorem as_for (ks : List Nat) (hp : PassesOwn (model X.prog X.w) X.A X.env X.xe) (hc : X.calm = true) (hi : AI X W tg iter mi) {is : List Nat} (hg : AG X is tg bd) (hd : ∀ j ∈ pz, j ∉ is) (hb : AB X W pz body mb)
    (hs : ∀ x, foldedSetIterable iter X.env x = pure x) : AS X W pz (.For tg iter body [] pos) (mFor ks mi bd mb) := by
  obtain ⟨wi, pi, si⟩ := hi
  obtain ⟨g, pg, sg⟩ := hg
  obtain ⟨t, pb, sb⟩ := hb
  refine ⟨_, ps_for hp hc pi pg pb hs, fun w0 σ0 E0 D k0 po0 => si.runS k0 po0 fun ds E1 w1 k1 s1 po1 J yj => ?_⟩
  refine ⟨fun i m σ H => ∃ w E, w.H = H ∧ Ok X.K X.mg w σ E ∧ Stp w0 w ∧ Same w1.I w.I ∧ Ag pz σ0 σ ∧ m = ds.length - i ∧ i ≤ ds.length ∧ PoS X.K X.mg W pz σ D w (forL ks bd mb (ds.drop i) E), ?_, ?_⟩
  · obtain ⟨w2, e2, k2, s2⟩ := k1.killE (ks := ks)
    exact ⟨ds.length, w2, _, e2, k2, s1.trans s2, s2.ii, Ag.refl _ _, by simp, Nat.zero_le _, by simpa using po1.from (s1.trans s2) (Ag.refl _ _)⟩
  rintro i m σ H ⟨w, E, rfl, k, s0, si, a0, rfl, hi, po⟩
  by_cases hlt : i < ds.length
  · have ed : ds[i]? = some ds[i] := by simp [hlt]
    have dd : ds.drop i = ds[i] :: ds.drop (i + 1) := by rw [List.drop_eq_getElem_cons hlt]
    rw [dd] at po
    have po2 : PoS X.K X.mg W pz σ D w (match bd ds[i] E with
      | some E1 => again ks (mb E1) (forL ks bd mb (ds.drop (i + 1)))
      | none => .no) := po
    refine .inr ⟨yj.go w i si k.sub hlt, fun σ' H' => ∃ w E, w.H = H' ∧ Ok X.K X.mg w σ' E ∧ Stp w0 w ∧ Same w1.I w.I ∧ Ag pz σ0 σ' ∧ PoS X.K X.mg W pz σ' D w (forL ks bd mb (ds.drop (i + 1)) E), ?_, ?_⟩
    · rintro σ' H' ⟨w', E', e, k', s', q', a', po'⟩
      exact ⟨ds.length - (i + 1), by omega, w', E', e, k', s', q', a', rfl, hlt, po'⟩
    intro x H' hy
    obtain ⟨I', gr, hx⟩ := yj.yld w i _ x H' si k.sub ed hy
    have kg := k.gr gr
    refine sg ⟨I', H', w.FP⟩ σ E ds[i] x _ kg hx ?_
    cases rb : bd ds[i] E with
    | none => rw [rb] at po2; exact po2.elim
    | some E2 =>
      rw [rb] at po2
      intro w2 σ2 k2 s2 ax
      have a2 : Ag pz σ σ2 := ax.ag hd
      have s02 : Stp w w2 := gr.stp.trans s2
      have po3 := PoS.from s02 a2 (show PoS X.K X.mg W pz σ D w (again ks (mb E2) (forL ks bd mb (ds.drop (i + 1)))) from po2)
      refine sb w2 σ2 E2 _ k2 ?_
      cases r : mb E2 with
      | ok o E3 =>
        rw [r] at po3
        cases o with
        | nx =>
          intro w3 σ3 k3 s3 a3
          obtain ⟨w4, e4, k4, s4⟩ := k3.killE (ks := ks)
          exact ⟨w4, _, e4, k4, ((s0.trans s02).trans s3).trans s4, (si.trans (s02.trans (s3.trans s4)).ii), (a0.trans a2).trans a3, po3.from (s3.trans s4) a3⟩
        | ct =>
          intro w3 σ3 k3 s3 a3
          obtain ⟨w4, e4, k4, s4⟩ := k3.killE (ks := ks)
          exact ⟨w4, _, e4, k4, ((s0.trans s02).trans s3).trans s4, (si.trans (s02.trans (s3.trans s4)).ii), (a0.trans a2).trans a3, po3.from (s3.trans s4) a3⟩
        | br =>
          intro w3 σ3 k3 s3 a3
          obtain ⟨w4, e4, k4, s4⟩ := k3.killE (ks := ks)
          show D.nx σ3 w3.H
          rw [← e4]
          exact po3 w4 σ3 k4 (s3.trans s4) a3
        | rt o => exact po3
      | exc c fs E3 => rw [r] at po3; exact po3
      | no => rw [r] at po3; exact po3
  · have e : i = ds.length := by omega
    subst e
    rw [List.drop_length] at po
    exact .inl ⟨yj.stop w si k.sub, po w σ k (Stp.refl _) (Ag.refl _ _)⟩
end
end Lf
set_option Elab.async false
set_option linter.all false
set_option maxRecDepth 100000
set_option maxHeartbeats 4000000
/-! The lifting layer: defs and their calls. -/
namespace Lf
open PySem PySem.Spec PyProof.Rows L2
abbrev St := L2.St

/-- what a def hands back: its answer, and its parameters' cells behind it -/
def PoF (K : Frag) (mg : Str → Option Value) (vs : List V) (Q : VK) (E : XK) (w : Wd) : Rs O → Prop
  | .ok r es => ∀ w' v fp, Ok K mg w' (vs.map some) es → Stp w w' → Bes K mg w w' v r fp → Q v w'.H
  | .exc c fs es => ∀ w' cls dd, Ok K mg w' (vs.map some) es → Stp w w' → ErrOk K mg w' c fs cls dd → E cls dd w'.H
  | .no => False
def spOf (K : Frag) (mg : Str → Option Value) (np : Nat) (run : List O → Rs O) : Sp := fun vs H Q E =>
  ∃ w os, w.H = H ∧ vs.length = np ∧ Ok K mg w (vs.map some) (os.map some) ∧ PoF K mg vs Q E w (run os)

def keepE : List Bool → En → En
  | [], _ => []
  | _ :: _, [] => []
  | b :: bs, e :: E => (if b then e else none) :: keepE bs E
def pinsOf : Nat → List Bool → List Nat
  | _, [] => []
  | n, b :: bs => if b then n :: pinsOf (n + 1) bs else pinsOf (n + 1) bs
def fin (fl : List Bool) (r : Rs Out) : Rs O := match r with
  | .ok .nx E => .ok (.dt .none) (keepE fl E)
  | .ok (.rt o) E => .ok o (keepE fl E)
  | .exc c fs E => .exc c fs (keepE fl E)
  | _ => .no
def mFn (fl : List Bool) (n : Nat) (body : M Out) : List O → Rs O := fun os => if os.length = fl.length then fin fl (body (os.map some ++ List.replicate (n - fl.length) none)) else .no

section
variable {K : Frag} {mg : Str → Option Value} {I H : Hp}
theorem pins_mem : ∀ {fl : List Bool} {n i : Nat}, fl[i]? = some true → n + i ∈ pinsOf n fl
  | [], _, _, h => by cases h
  | b :: bs, n, 0, h => by
    cases h
    simp [pinsOf]
  | b :: bs, n, i + 1, h => by
    have q := pins_mem (fl := bs) (n := n + 1) (i := i) (by simpa using h)
    have e : n + 1 + i = n + (i + 1) := by omega
    rw [e] at q
    cases b with
    | true => simp [pinsOf, q]
    | false => simp [pinsOf, q]
theorem EO.keep : ∀ {fl : List Bool} {σ : St} {E : En} {FP : List Addr} {vs : List V}, EO K mg I H σ E FP → fl.length = vs.length → fl.length ≤ E.length → (∀ i : Nat, fl[i]? = some true → σ[i]? = (vs.map some)[i]?) →
    ∃ FP', FP'.Sublist FP ∧ EO K mg I H (vs.map some) (keepE fl E) FP'
  | [], _, _, FP, vs, _, h, _, _ => by
    have e : vs = [] := List.eq_nil_of_length_eq_zero h.symm
    subst e
    exact ⟨[], List.nil_sublist _, .nil⟩
  | b :: bs, _, _, _, vs, .nil, _, h, _ => absurd h (by simp)
  | b :: bs, _, _, _, vs, @EO.cons _ _ _ _ s σ e E fp FP h hs, hl, hl2, k => by
    cases vs with
    | nil => cases hl
    | cons v vs =>
      obtain ⟨FP', p, r⟩ := EO.keep (fl := bs) (vs := vs) hs (by simpa using hl) (by simpa using hl2) fun i q => by
        have z := k (i + 1) (by simpa using q)
        simpa using z
      cases b with
      | false => exact ⟨FP', p.trans (List.sublist_append_right _ _), .cons (fp := []) .un r⟩
      | true =>
        have z := k 0 rfl
        have es : s = some v := by simpa using z
        subst es
        exact ⟨fp ++ FP', List.Sublist.append_left p fp, .cons h r⟩
end
theorem Ok.keep {K : Frag} {mg : Str → Option Value} {fl : List Bool} {w w' : Wd} {σ' : St} {E' : En} {vs : List V} {N : List Str} (k : Ok K mg w' σ' E') (s : Stp w w') (a : Ag (pinsOf 0 fl) (L2.start N vs) σ') (hl : fl.length = vs.length) (hN : vs.length ≤ N.length) (hE : E'.length = N.length) :
    ∃ w2, w2.H = w'.H ∧ w2.I = w'.I ∧ w2.FP.Sublist w'.FP ∧ Ok K mg w2 (vs.map some) (keepE fl E') ∧ Stp w w2 := by
  obtain ⟨FP', p, r⟩ := k.env.keep (fl := fl) (vs := vs) hl (by omega) fun i q => by
    have z := a.at_ i (by simpa using pins_mem (n := 0) q)
    have hi : i < vs.length := by
      have := (List.getElem?_eq_some_iff.mp q).1
      omega
    rw [z]
    unfold L2.start
    rw [List.getElem?_append_left (by simpa using hi)]
  exact ⟨⟨w'.I, w'.H, FP'⟩, rfl, rfl, p, ⟨k.sub, r, p.nodup k.nd⟩, ⟨s.ii, s.fr, s.nw, fun x m => s.fp x (p.subset m)⟩⟩
theorem EO.app {K : Frag} {mg : Str → Option Value} {I H : Hp} : ∀ {σ : St} {E : En} {FP : List Addr} (n : Nat), EO K mg I H σ E FP → EO K mg I H (σ ++ List.replicate n none) (E ++ List.replicate n none) FP
  | _, _, _, 0, h => by simpa using h
  | _, _, _, n + 1, .nil => by
    have q := EO.app (K := K) (mg := mg) (I := I) (H := H) n .nil
    exact .cons (fp := []) .un (by simpa using q)
  | _, _, _, n + 1, .cons h hs => .cons h (EO.app (n + 1) hs)

section
variable {P : Program} {w : World} {K : Frag} {mg : Str → Option Value} {base : Heap}
/-- a def of the text, by its body's reading -/
theorem fn_ok {x qual : Str} {st : Stmt} {f : Addr} {fd : FuncData} {N ps : List Str} {k : Nat} (F : FunD K x qual (defArgs st) (defBody st) (defScope st) [] [] f fd) (S : FnScope N ps (defScope st)) (fl : List Bool) (hfl : fl.length = ps.length) (hN : ps.length ≤ N.length) (body : M Out)
    (hb : ∀ (cdv : Value) (A : Around) (outer : List Env) (s : Shared) (H : Hp) (E : XK), Room k (A.deeper (envOfC qual (defScope st) s.heap.objs.size f cdv)) →
      AB (cxOf (L2N.CX P w) P w K mg base N qual (defScope st) f cdv A outer s H E) (fun cls d _ H' => E cls d H') (pinsOf 0 fl) (defBody st) body) :
    FnOk P w K mg base (L2N.CX P w) (k + 1) f fd ps (spOf K mg ps.length (mFn fl N.length body)) := by
  refine F.ok S (fun vs H Q E h => by obtain ⟨_, _, _, h, _⟩ := h; exact h) fun cdv A outer s H vs Q E hr h => ?_
  obtain ⟨w0, os, rfl, hvs, k0, po⟩ := h
  obtain ⟨t, p, sn⟩ := hb cdv A outer s w0.H E hr
  refine ⟨t, p, ?_⟩
  have hos : os.length = fl.length := by
    have q := k0.env.len
    simp only [List.length_map] at q
    omega
  unfold mFn at po
  rw [if_pos hos] at po
  have k1 : Ok K mg w0 (L2.start N vs) (os.map some ++ List.replicate (N.length - fl.length) none) := ⟨k0.sub, by
    have q := k0.env.app (N.length - fl.length)
    unfold L2.start
    rw [hvs, ← hfl]
    exact q, k0.nd⟩
  have lenE : (os.map some ++ List.replicate (N.length - fl.length) none).length = N.length := by simp; omega
  refine sn w0 (L2.start N vs) _ _ k1 ?_
  cases r : body (os.map some ++ List.replicate (N.length - fl.length) none) with
  | ok o E' =>
    rw [r] at po
    intro w1 σ1 k1' s1 a1
    have le : E'.length = N.length := k1'.env.len.symm.trans (a1.len.trans (k1.env.len.trans lenE))
    obtain ⟨w2, e2, i2, sub, k2, s2⟩ := k1'.keep (fl := fl) (vs := vs) (N := N) s1 a1 (by omega) (by omega) le
    cases o with
    | nx =>
      show Q .non w1.H
      rw [← e2]
      exact po w2 .non [] k2 s2 (bes_dt k2 .non)
    | rt o =>
      intro v fp b
      show Q v w1.H
      rw [← e2]
      refine po w2 v fp k2 s2 ⟨?_, ?_, b.new⟩
      · rw [e2, i2]; exact b.rel
      · have q := List.nodup_append.mp b.nd
        exact List.nodup_append.mpr ⟨q.1, k2.nd, fun a m a' m' => q.2.2 a m a' (sub.subset m')⟩
    | br => exact po.elim
    | ct => exact po.elim
  | exc c fs E' =>
    rw [r] at po
    intro w1 σ1 cls dd k1' s1 a1 er
    have le : E'.length = N.length := k1'.env.len.symm.trans (a1.len.trans (k1.env.len.trans lenE))
    obtain ⟨w2, e2, i2, sub, k2, s2⟩ := k1'.keep (fl := fl) (vs := vs) (N := N) s1 a1 (by omega) (by omega) le
    show E cls dd w1.H
    rw [← e2]
    exact po w2 cls dd k2 s2 (er.at e2 i2)
  | no => rw [r] at po; exact po.elim
end

/-! ### calls -/
def argsO (E : En) : List Arg → Option (List O)
  | [] => some []
  | .d x :: r => (argsO E r).map (.dt x :: ·)
  | .s i :: r => match E[i]? with
    | some (some o) => (argsO E r).map (o :: ·)
    | _ => none
/-- the cells that were handed in, as they came back -/
def backE (E : En) : List Arg → En → En
  | .d _ :: r, _ :: es => backE E r es
  | .s i :: r, e :: es => backE (E.set i e) r es
  | _, _ => E
/-- the slots handed in -/
def slotsA : List Arg → List Nat
  | [] => []
  | .d _ :: r => slotsA r
  | .s i :: r => i :: slotsA r
/-- at most one slot is handed in -/
def mCall (run : List O → Rs O) (ma : M (List Arg)) : M O := fun E => (ma E).bind fun as E1 => if (slotsA as).length ≤ 1 then (match argsO E1 as with
    | some os => (match run os with
      | .ok r es => .ok r (backE E1 as es)
      | .exc c fs es => .exc c fs (backE E1 as es)
      | .no => .no)
    | none => .no) else .no
section
variable {K : Frag} {mg : Str → Option Value}
theorem eo_dt {I H : Hp} : ∀ {vs : List V} {ds : List D}, DqAll K I vs ds → EO K mg I H (vs.map some) ((ds.map O.dt).map some) []
  | _, _, .nil => .nil
  | _, _, .cons h hs => .cons (fp := []) (.ow (.dt h)) (eo_dt hs)
/-- a call with data alone -/
theorem call_data {w1 : Wd} {σ : St} {E1 : En} {vs : List V} {ds : List D} (k1 : Ok K mg w1 σ E1) (hd : DqAll K w1.I vs ds) :
    Ok K mg ⟨w1.I, w1.H, []⟩ (vs.map some) ((ds.map O.dt).map some) ∧ (∀ w', Stp ⟨w1.I, w1.H, []⟩ w' → Same w'.I w'.H → w'.FP = [] ∨ True → Ok K mg ⟨w'.I, w'.H, w1.FP⟩ σ E1 ∧ Stp w1 ⟨w'.I, w'.H, w1.FP⟩) := by
  refine ⟨⟨k1.sub, eo_dt hd, List.nodup_nil⟩, fun w' s sub _ => ?_⟩
  have hh : Same w1.H w'.H := fun a o h => s.fr a o (by intro m; cases m) h
  refine ⟨⟨sub, k1.env.mono s.ii fun a m => ?_, k1.nd⟩, ⟨s.ii, fun a o _ h => hh a o h, fun a o _ h i => s.nw a o (by intro m; cases m) h i, fun a m => .inl m⟩⟩
  obtain ⟨n, u, hu⟩ := k1.env.there a m
  exact ⟨(hh a u hu).trans hu.symm, s.nw a u (by intro m; cases m) hu n⟩
end
end Lf
set_option Elab.async false
set_option linter.all false
set_option maxRecDepth 100000
set_option maxHeartbeats 4000000
/-! The lifting layer: calls of defs. -/
namespace Lf
open PySem PySem.Spec PyProof.Rows L2

theorem set_self {α : Type} {l : List α} {i : Nat} {x : α} (h : l[i]? = some x) : l.set i x = l := by
  apply List.ext_getElem?
  intro j
  by_cases z : j = i
  · subst z
    have hj : j < l.length := (List.getElem?_eq_some_iff.mp h).1
    rw [List.getElem?_set_self hj, h]
  · rw [List.getElem?_set_ne (Ne.symm z)]
section
variable {K : Frag} {mg : Str → Option Value} {w : Wd} {σ : L2.St}
theorem args_none {E : En} : ∀ {vs : List V} {as : List Arg} {os : List O}, ArgsR K w σ vs as → slotsA as = [] → argsO E as = some os → EO K mg w.I w.H (vs.map some) (os.map some) [] ∧ ∀ es, backE E as es = E
  | _, _, _, .nil, _, q => by
    cases q
    exact ⟨.nil, fun es => by cases es <;> rfl⟩
  | _, _, os, @ArgsR.cons _ _ _ v vs a as h hs, hz, q => by
    cases a with
    | s i => cases hz
    | d x =>
      have q' : (argsO E as).map (.dt x :: ·) = some os := q
      cases e : argsO E as with
      | none => rw [e] at q'; cases q'
      | some os' =>
        rw [e] at q'
        cases q'
        obtain ⟨h1, h2⟩ := args_none hs hz e
        exact ⟨.cons (fp := []) (.ow (.dt h)) h1, fun es => by
          cases es with
          | nil => rfl
          | cons _ es => exact h2 es⟩
theorem args_split {E : En} (k : Ok K mg w σ E) : ∀ {vs : List V} {as : List Arg} {os : List O}, ArgsR K w σ vs as → (slotsA as).length ≤ 1 → argsO E as = some os →
    ∃ fp FR, w.FP.Perm (fp ++ FR) ∧ EO K mg w.I w.H (vs.map some) (os.map some) fp ∧
      ∀ I' H' es fp', Same w.I I' → (∀ a ∈ FR, H' a = w.H a ∧ I' a = none) → EO K mg I' H' (vs.map some) es fp' → (fp' ++ FR).Nodup → ∃ FP', FP'.Nodup ∧ (∀ a ∈ FP', a ∈ fp' ++ FR) ∧ EO K mg I' H' σ (backE E as es) FP'
  | _, _, _, .nil, _, q => by
    cases q
    refine ⟨[], w.FP, List.Perm.refl _, .nil, fun I' H' es fp' s k' _ nd => ⟨w.FP, k.nd, fun a m => List.mem_append_right _ m, ?_⟩⟩
    have e : backE E [] es = E := by cases es <;> rfl
    rw [e]
    exact k.env.mono s k'
  | _, _, os, @ArgsR.cons _ _ _ v vs a as h hs, hz, q => by
    cases a with
    | d x =>
      have q' : (argsO E as).map (.dt x :: ·) = some os := q
      cases e : argsO E as with
      | none => rw [e] at q'; cases q'
      | some os' =>
        rw [e] at q'
        cases q'
        obtain ⟨fp, FR, h1, h2, h3⟩ := args_split k hs hz e
        refine ⟨fp, FR, h1, .cons (fp := []) (.ow (.dt h)) h2, fun I' H' es fp' s k' eo nd => ?_⟩
        cases eo with
        | @cons _ _ e0 es0 fp1 fp2 a1 a2 =>
          have nd2 : (fp2 ++ FR).Nodup := by
            rw [List.append_assoc] at nd
            exact (List.nodup_append.mp nd).2.1
          obtain ⟨FP', b1, b2, b3⟩ := h3 I' H' es0 fp2 s k' a2 nd2
          exact ⟨FP', b1, fun a m => by rw [List.append_assoc]; exact List.mem_append_right _ (b2 a m), b3⟩
    | s i =>
      have hz' : slotsA as = [] := by
        have : (i :: slotsA as).length ≤ 1 := hz
        exact List.eq_nil_of_length_eq_zero (by simpa using this)
      have q' : (match E[i]? with
        | some (some o) => (argsO E as).map (o :: ·)
        | _ => none) = some os := q
      split at q'
      · next o ei =>
        cases e : argsO E as with
        | none => rw [e] at q'; cases q'
        | some os' =>
          rw [e] at q'
          cases q'
          obtain ⟨g1, g2⟩ := args_none (mg := mg) hs hz' e
          have hi : i < E.length := (List.getElem?_eq_some_iff.mp ei).1
          obtain ⟨s0, e0, fp, FR, f1, f2, f3, f4, f5⟩ := k.env.focus hi
          rw [ei] at f2
          cases f2
          have hv : σ[i]? = some (some v) := h
          rw [hv] at f1
          cases f1
          refine ⟨fp, FR, f4, ?_, fun I' H' es fp' s k' eo nd => ?_⟩
          · have r := EO.cons f3 g1
            rw [List.append_nil] at r
            exact r
          · cases eo with
            | @cons _ _ e1 es1 fp1 fp2 a1 a2 =>
              obtain ⟨FP', p, r⟩ := f5 I' H' (some v) e1 fp1 s k' a1
              rw [set_self hv] at r
              refine ⟨FP', p.nodup_iff.mpr ?_, fun a m => ?_, ?_⟩
              · have n1 := List.nodup_append.mp nd
                have n2 := List.nodup_append.mp n1.1
                exact List.nodup_append.mpr ⟨n2.1, n1.2.1, fun a m b m' => n1.2.2 a (List.mem_append_left _ m) b m'⟩
              · rcases List.mem_append.mp (p.mem_iff.mp m) with m | m
                · exact List.mem_append_left _ (List.mem_append_left _ m)
                · exact List.mem_append_right _ m
              · have eb : backE E (.s i :: as) (e1 :: es1) = backE (E.set i e1) as es1 := rfl
                rw [eb]
                have gz : ∀ (E' : En) (as : List Arg) (es : En), slotsA as = [] → backE E' as es = E' := by
                  intro E' as
                  induction as with
                  | nil => intro es _; cases es <;> rfl
                  | cons a as ih =>
                    intro es hh
                    cases a with
                    | s j => cases hh
                    | d x =>
                      cases es with
                      | nil => rfl
                      | cons _ es => exact ih es hh
                rw [gz _ _ _ hz']
                exact r
      · cases q'
/-- the caller's world behind a call -/
theorem call_back {E1 : En} {w0 : Wd} {vs : List V} {as : List Arg} {os : List O} (k1 : Ok K mg w σ E1) (s0 : Stp w0 w) (hr : ArgsR K w σ vs as) (hz : (slotsA as).length ≤ 1) (ho : argsO E1 as = some os) :
    ∃ wc, wc.H = w.H ∧ Ok K mg wc (vs.map some) (os.map some) ∧ ∀ w' es, Stp wc w' → Ok K mg w' (vs.map some) es →
      ∃ w2, w2.H = w'.H ∧ w2.I = w'.I ∧ Ok K mg w2 σ (backE E1 as es) ∧ Stp w0 w2 ∧ ∀ v r fpr, Bes K mg wc w' v r fpr → Bes K mg w0 w2 v r fpr := by
  obtain ⟨fp, FR, p, eo, bk⟩ := args_split k1 hr hz ho
  have ndF := List.nodup_append.mp (p.nodup_iff.mp k1.nd)
  refine ⟨⟨w.I, w.H, fp⟩, rfl, ⟨k1.sub, eo, ndF.1⟩, fun w' es s k' => ?_⟩
  have inFR : ∀ a ∈ FR, a ∉ fp ∧ w.I a = none ∧ ∃ u, w.H a = some u := fun a m => ⟨fun m' => ndF.2.2 a m' a m rfl, k1.env.there a (p.mem_iff.mpr (List.mem_append_right _ m))⟩
  have keep : ∀ a ∈ FR, w'.H a = w.H a ∧ w'.I a = none := fun a m => by
    obtain ⟨n, i, u, hu⟩ := inFR a m
    exact ⟨(s.fr a u n hu).trans hu.symm, s.nw a u n hu i⟩
  have nd : (w'.FP ++ FR).Nodup := List.nodup_append.mpr ⟨k'.nd, ndF.2.1, fun a m b m' e => by
    subst e
    obtain ⟨n, i, u, hu⟩ := inFR a m'
    rcases s.fp a m with z | z
    · exact n z
    · have z' : w.H a = none := z
      rw [hu] at z'; cases z'⟩
  obtain ⟨FP', n1, n2, r⟩ := bk w'.I w'.H es w'.FP s.ii keep k'.env nd
  have st : Stp w ⟨w'.I, w'.H, FP'⟩ := ⟨s.ii, fun a u n h => s.fr a u (fun m => n (p.mem_iff.mpr (List.mem_append_left _ m))) h, fun a u n h i => s.nw a u (fun m => n (p.mem_iff.mpr (List.mem_append_left _ m))) h i, fun a m => by
    rcases List.mem_append.mp (n2 a m) with m | m
    · rcases s.fp a m with z | z
      · exact .inl (p.mem_iff.mpr (List.mem_append_left _ z))
      · exact .inr z
    · exact .inl (p.mem_iff.mpr (List.mem_append_right _ m))⟩
  refine ⟨⟨w'.I, w'.H, FP'⟩, rfl, rfl, ⟨k'.sub, r, n1⟩, s0.trans st, fun v ro fpr b => ⟨b.rel, ?_, fun a m => ?_⟩⟩
  · have q := List.nodup_append.mp b.nd
    refine List.nodup_append.mpr ⟨q.1, n1, fun a m a' m' e => ?_⟩
    subst e
    rcases List.mem_append.mp (n2 a m') with z | z
    · exact q.2.2 a m a z rfl
    · obtain ⟨n, i, u, hu⟩ := inFR a z
      rcases b.new a m with y | y
      · exact n y
      · have y' : w.H a = none := y
        rw [hu] at y'; cases y'
  · rcases b.new a m with y | y
    · exact s0.fp a (p.mem_iff.mpr (List.mem_append_left _ y))
    · have y' : w.H a = none := y
      by_cases m0 : a ∈ w0.FP
      · exact .inl m0
      · cases e : w0.H a with
        | none => exact .inr rfl
        | some u => rw [s0.fr a u m0 e] at y'; cases y'
end

section
variable {X : Cx} {W : WX} {x : Str} {p pos : Pos} {e : Expr} {es : List Expr} {ma : M (List Arg)} {run : List O → Rs O} {kk : Nat} {f : Addr} {fd : FuncData} {ps : List Str} {np : Nat}
theorem sn_call {t : TA} (s : Sn X.K X.mg W (RA X.K) t ma) (hnp : ∀ os r, run os = r → (∀ a b, r = .ok a b → os.length = np) ∧ (∀ a b c, r = .exc a b c → os.length = np)) : Sn X.K X.mg W (RO X.K X.mg) (tCallS (spOf X.K X.mg np run) (WE W) t) (mCall run ma) := fun w σ E Q k po => by
  refine s.runw k po fun as E1 w1 k1 s1 po1 vs hv => ?_
  split at po1
  · next hz =>
    split at po1
    · next os ho =>
      obtain ⟨wc, eH, kc, back⟩ := call_back k1 s1 hv hz ho
      have lv : vs.length = os.length := by
        have q := kc.env.len
        simpa using q
      cases r : run os with
      | ok ro es' =>
        rw [r] at po1
        refine ⟨wc, os, eH, lv.trans ((hnp os _ r).1 _ _ rfl), kc, ?_⟩
        rw [r]
        intro w' v fp k' s' b
        obtain ⟨w2, e2, i2, k2, s2, hb⟩ := back w' es' s' k'
        rw [← e2]
        exact po1 w2 k2 s2 v fp (hb v ro fp b)
      | exc c fs es' =>
        rw [r] at po1
        refine ⟨wc, os, eH, lv.trans ((hnp os _ r).2 _ _ _ rfl), kc, ?_⟩
        rw [r]
        intro w' cls dd k' s' er
        obtain ⟨w2, e2, i2, k2, s2, hb⟩ := back w' es' s' k'
        show W cls dd σ w'.H
        rw [← e2]
        exact po1 w2 cls dd k2 s2 (er.at e2 i2)
      | no => rw [r] at po1; exact po1.elim
    · exact po1.elim
  · exact po1.elim
theorem mFn_len {fl : List Bool} {n : Nat} {body : M Out} (os : List O) (r : Rs O) (h : mFn fl n body os = r) : (∀ a b, r = .ok a b → os.length = fl.length) ∧ (∀ a b c, r = .exc a b c → os.length = fl.length) := by
  unfold mFn at h
  split at h
  · next q => exact ⟨fun _ _ _ => q, fun _ _ _ _ => q⟩
  · subst h
    exact ⟨fun _ _ z => (by cases z), fun _ _ _ z => (by cases z)⟩
/-- f(e, ..) -/
theorem ao_call (F : FnOk X.prog X.w X.K X.mg X.base (L2N.CX X.prog X.w) kk f fd ps (spOf X.K X.mg np run)) (hr : Room kk X.A) (hg : Gl X x) (hm : X.mg x = some (.ref f)) (hk : PySem.W.keepIn X.K (.ref f) = true) (hb : Binds X.K fd ps []) (tk : L2N.Takes X W)
    (hnp : ∀ os r, run os = r → (∀ a b, r = .ok a b → os.length = np) ∧ (∀ a b c, r = .exc a b c → os.length = np))
    (ha : AA X W (e :: es) ma) (hdb : (x == ("__debug__" : Str)) = false := by decide) (he : starEach (e :: es) X.env = (false, eval e X.env) :: starEach es X.env := by rfl) (hpl : (backTo pos (starEach es X.env)).any (·.1) = false := by rfl) :
    AO X W (.Call (.Name x p) (e :: es) [] pos) (mCall run ma) := by
  obtain ⟨ta, pa, sa⟩ := ha
  exact ⟨_, pe_callS F hr hg hm hk hb (fun σ => L2N.passAt tk σ) pa hdb he hpl, sn_call sa hnp⟩
end
end Lf
set_option Elab.async false
set_option linter.all false
set_option maxRecDepth 100000
set_option maxHeartbeats 4000000
/-! The lifting layer: operations on data. -/
namespace Lf
open PySem PySem.Spec PyProof.Rows L2

theorem dp_int {K : Frag} {I : Hp} {v : V} {i : Int} (h : Dq K I v (.int i)) : v = .int i := by cases h; rfl
theorem dp_bool {K : Frag} {I : Hp} {v : V} {b : Bool} (h : Dq K I v (.bool b)) : v = .bl b := by cases h; rfl
theorem dp_str {K : Frag} {I : Hp} {v : V} {s : Str} (h : Dq K I v (.str s)) : v = .str s := by cases h; rfl
theorem dp_none {K : Frag} {I : Hp} {v : V} (h : Dq K I v .none) : v = .non := by cases h; rfl
theorem dp_list {K : Frag} {I : Hp} {v : V} {ds : List D} (h : Dq K I v (.list ds)) : ∃ a vs, v = .ref a ∧ I a = some (.lst vs) ∧ DqAll K I vs ds := by cases h with | lst a b => exact ⟨_, _, rfl, a, b⟩
theorem dp_tup {K : Frag} {I : Hp} {v : V} {ds : List D} (h : Dq K I v (.tuple ds)) : ∃ a vs, v = .ref a ∧ SqT K I a vs ∧ DqAll K I vs ds := by cases h with | tup a b => exact ⟨_, _, rfl, a, b⟩
theorem dps_get {K : Frag} {I : Hp} : ∀ {vs : List V} {ds : List D} {j : Nat} {d : D}, DqAll K I vs ds → ds[j]? = some d → ∃ v, vs[j]? = some v ∧ Dq K I v d
  | _, _, _, _, .nil, e => by simp at e
  | _, _, 0, _, .cons h _, e => by
    have e' := Option.some.inj (show some _ = some _ from e)
    subst e'
    exact ⟨_, rfl, h⟩
  | _, _, j + 1, d, .cons _ hs, e => dps_get (j := j) hs (by simpa using e)
theorem dps_app {K : Frag} {I : Hp} : ∀ {vs us : List V} {ds es : List D}, DqAll K I vs ds → DqAll K I us es → DqAll K I (vs ++ us) (ds ++ es)
  | _, _, _, _, .nil, h => h
  | _, _, _, _, .cons h hs, k => .cons h (dps_app hs k)
theorem dps_drop {K : Frag} {I : Hp} : ∀ {vs : List V} {ds : List D} (n : Nat), DqAll K I vs ds → DqAll K I (vs.drop n) (ds.drop n)
  | _, _, 0, h => h
  | _, _, n + 1, .nil => .nil
  | _, _, n + 1, .cons _ hs => dps_drop n hs
theorem dps_take {K : Frag} {I : Hp} : ∀ {vs : List V} {ds : List D} (n : Nat), DqAll K I vs ds → DqAll K I (vs.take n) (ds.take n)
  | _, _, 0, h => .nil
  | _, _, n + 1, .nil => .nil
  | _, _, n + 1, .cons h hs => .cons h (dps_take n hs)
theorem dps_rev {K : Frag} {I : Hp} {vs : List V} {ds : List D} (h : DqAll K I vs ds) : DqAll K I vs.reverse ds.reverse := by
  induction vs generalizing ds with
  | nil => cases h; exact .nil
  | cons v vs ih =>
    cases h with
    | cons h hs =>
      rw [List.reverse_cons, List.reverse_cons]
      exact dps_app (ih hs) (.cons h .nil)
theorem dps_rep {K : Frag} {I : Hp} {vs : List V} {ds : List D} (h : DqAll K I vs ds) : ∀ n : Nat, DqAll K I (List.replicate n vs).flatten (List.replicate n ds).flatten
  | 0 => .nil
  | n + 1 => by
    rw [List.replicate_succ, List.replicate_succ, List.flatten_cons, List.flatten_cons]
    exact dps_app h (dps_rep h n)
theorem dps_set {K : Frag} {I : Hp} {v : V} {d : D} (r : Dq K I v d) : ∀ {vs : List V} {ds : List D} (n : Nat), DqAll K I vs ds → DqAll K I (vs.set n v) (ds.set n d)
  | _, _, _, .nil => .nil
  | _, _, 0, .cons _ hs => .cons r hs
  | _, _, n + 1, .cons h hs => .cons h (dps_set r n hs)
theorem dps_ints {K : Frag} {I : Hp} : ∀ (ns : List Int), DqAll K I (ns.map V.int) (ns.map .int)
  | [] => .nil
  | n :: ns => .cons (.int n) (dps_ints ns)
def intsD : List D → Option (List Int)
  | [] => some []
  | .int i :: r => (intsD r).map (i :: ·)
  | _ :: _ => none
theorem dps_of_ints {K : Frag} {I : Hp} : ∀ {vs : List V} {ds : List D} {ns : List Int}, DqAll K I vs ds → intsD ds = some ns → vs = ns.map V.int ∧ ds = ns.map .int
  | _, _, _, .nil, e => by cases e; exact ⟨rfl, rfl⟩
  | _, _, ns, @DqAll.cons _ _ v vs d ds h hs, e => by
    cases d with
    | int i =>
      have e' : (intsD ds).map (i :: ·) = some ns := e
      cases q : intsD ds with
      | none => rw [q] at e'; cases e'
      | some ms =>
        rw [q] at e'
        cases e'
        obtain ⟨h1, h2⟩ := dps_of_ints hs q
        rw [dp_int h, h1, h2]
        exact ⟨rfl, rfl⟩
    | _ => cases e
@[simp] theorem intsD_map : ∀ ns : List Int, intsD (ns.map .int) = some ns
  | [] => rfl
  | n :: ns => by
    show (intsD (ns.map .int)).map (n :: ·) = _
    rw [intsD_map ns] <;> rfl
def boolsD : List D → Option (List Bool)
  | [] => some []
  | .bool b :: r => (boolsD r).map (b :: ·)
  | _ :: _ => none
theorem dps_of_bools {K : Frag} {I : Hp} : ∀ {vs : List V} {ds : List D} {bs : List Bool}, DqAll K I vs ds → boolsD ds = some bs → vs = bs.map V.bl ∧ ds = bs.map .bool
  | _, _, _, .nil, e => by cases e; exact ⟨rfl, rfl⟩
  | _, _, ns, @DqAll.cons _ _ v vs d ds h hs, e => by
    cases d with
    | bool i =>
      have e' : (boolsD ds).map (i :: ·) = some ns := e
      cases q : boolsD ds with
      | none => rw [q] at e'; cases e'
      | some ms =>
        rw [q] at e'
        cases e'
        obtain ⟨h1, h2⟩ := dps_of_bools hs q
        rw [dp_bool h, h1, h2]
        exact ⟨rfl, rfl⟩
    | _ => cases e
@[simp] theorem boolsD_map : ∀ ns : List Bool, boolsD (ns.map .bool) = some ns
  | [] => rfl
  | n :: ns => by
    show (boolsD (ns.map .bool)).map (n :: ·) = _
    rw [boolsD_map ns] <;> rfl

/-! ### operations that make no list -/
def pSub : D → D → Option D
  | .int i, .int j => some (.int (i - j))
  | _, _ => none
def pNeg : D → Option D
  | .int i => some (.int (-i))
  | _ => none
def pFdiv : D → D → Option D
  | .int i, .int j => if j ≠ 0 ∧ j.natAbs < 1073741824 then some (.int (i.fdiv j)) else none
  | _, _ => none
def pMod : D → D → Option D
  | .int i, .int j => if j ≠ 0 then some (.int (i.fmod j)) else none
  | _, _ => none
def pPow : D → D → Option D
  | .int i, .int j => if 0 ≤ j ∧ j ≤ 1000000 ∧ i.natAbs < 2 ^ 64 then some (.int (i ^ j.toNat)) else none
  | _, _ => none
def pShl : D → D → Option D
  | .int i, .int j => if 0 ≤ j ∧ j ≤ 1000000 ∧ i.natAbs < 2 ^ 64 then some (.int (i * 2 ^ j.toNat)) else none
  | _, _ => none
def pShr : D → D → Option D
  | .int i, .int j => if 0 ≤ j then some (.int (i / 2 ^ j.toNat)) else none
  | _, _ => none
def pAnd : D → D → Option D
  | .int i, .int j => some (.int (Builtin.bitAnd i j))
  | _, _ => none
def pOr : D → D → Option D
  | .int i, .int j => some (.int (Builtin.bitOr i j))
  | _, _ => none
def pLt : D → D → Option D
  | .int i, .int j => some (.bool (decide (i < j)))
  | _, _ => none
def pLe : D → D → Option D
  | .int i, .int j => some (.bool (decide (i ≤ j)))
  | _, _ => none
def pGt : D → D → Option D
  | .int i, .int j => some (.bool (decide (j < i)))
  | _, _ => none
def pGe : D → D → Option D
  | .int i, .int j => some (.bool (decide (j ≤ i)))
  | _, _ => none
def okD (d : D) : Bool := SeqAt.shaped d && plainD d
theorem ok_sh {d : D} (h : okD d = true) : SeqAt.shaped d = true := (Bool.and_eq_true_iff.mp h).1
theorem ok_pl {d : D} (h : okD d = true) : plainD d = true := (Bool.and_eq_true_iff.mp h).2
def pEq (x y : D) : Option D := if okD x = true ∧ okD y = true then some (.bool (PyData.eqv x y)) else none
def pNe (x y : D) : Option D := if okD x = true ∧ okD y = true then some (.bool (!PyData.eqv x y)) else none
def pIs : D → D → Option D
  | .none, .none => some (.bool true)
  | .dict _, .none => none
  | _, .none => some (.bool false)
  | _, _ => none
def pIsNot : D → D → Option D
  | .none, .none => some (.bool false)
  | .dict _, .none => none
  | _, .none => some (.bool true)
  | _, _ => none
def pIn (x y : D) : Option D := match y with
  | .list ds => if okD x = true ∧ okD y = true then some (.bool (ds.any fun z => PyData.eqv z x)) else none
  | _ => none
def pNotIn (x y : D) : Option D := match y with
  | .list ds => if okD x = true ∧ okD y = true then some (.bool (!ds.any fun z => PyData.eqv z x)) else none
  | _ => none
def pIx : D → D → Option D
  | .list xs, .int i => atI xs i
  | .tuple xs, .int i => atI xs i
  | .str z, .int i => if z.length ≤ sizeLine then (atI z.cps.toList i).map fun c => .str ⟨#[c]⟩ else none
  | _, _ => none
section
variable {K : Frag}
/-- two ints to a plain value -/
theorem od_I {f : D → D → Option D} {C : Int → Int → Prop} {g : Int → Int → V} {gd : Int → Int → D} (hg : ∀ i j I, Dq K I (g i j) (gd i j))
    (hf : ∀ x y d, f x y = some d → ∃ i j, x = .int i ∧ y = .int j ∧ C i j ∧ d = gd i j) : OpD K (rI C g) f := by
  intro w x y dx dy d Q s hx hy e q
  obtain ⟨i, j, rfl, rfl, hc, rfl⟩ := hf _ _ _ e
  exact ⟨i, j, dp_int hx, dp_int hy, hc, q _ _ _ (Gr.refl s) (hg i j _)⟩
theorem od_I0 {f : D → D → Option D} {g : Int → Int → V} {gd : Int → Int → D} (hg : ∀ i j I, Dq K I (g i j) (gd i j))
    (hf : ∀ x y d, f x y = some d → ∃ i j, x = .int i ∧ y = .int j ∧ d = gd i j) : OpD K (rI0 g) f := by
  intro w x y dx dy d Q s hx hy e q
  obtain ⟨i, j, rfl, rfl, rfl⟩ := hf _ _ _ e
  exact ⟨i, j, dp_int hx, dp_int hy, q _ _ _ (Gr.refl s) (hg i j _)⟩
theorem f_int2 {f : D → D → Option D} {gd : Int → Int → D} (h1 : ∀ i j, f (.int i) (.int j) = some (gd i j)) (h2 : ∀ x y d, f x y = some d → ∃ i j, x = .int i ∧ y = .int j) : ∀ x y d, f x y = some d → ∃ i j, x = .int i ∧ y = .int j ∧ d = gd i j := fun x y d e => by
  obtain ⟨i, j, rfl, rfl⟩ := h2 x y d e
  rw [h1] at e
  exact ⟨i, j, rfl, rfl, (Option.some.inj e).symm⟩
theorem f_int2c {f : D → D → Option D} {C : Int → Int → Prop} [∀ i j, Decidable (C i j)] {gd : Int → Int → D} (h1 : ∀ i j, f (.int i) (.int j) = if C i j then some (gd i j) else none) (h2 : ∀ x y d, f x y = some d → ∃ i j, x = .int i ∧ y = .int j) :
    ∀ x y d, f x y = some d → ∃ i j, x = .int i ∧ y = .int j ∧ C i j ∧ d = gd i j := fun x y d e => by
  obtain ⟨i, j, rfl, rfl⟩ := h2 x y d e
  rw [h1] at e
  split at e
  · next c => exact ⟨i, j, rfl, rfl, c, (Option.some.inj e).symm⟩
  · cases e
theorem od_sub : OpD K (rI0 fun i j => .int (i - j)) pSub := od_I0 (gd := fun i j => .int (i - j)) (fun _ _ _ => .int _) (f_int2 (fun _ _ => rfl) fun x y d e => by unfold pSub at e; split at e <;> first | exact ⟨_, _, rfl, rfl⟩ | cases e)
theorem od_fdiv : OpD K (rI CDivN fun i j => .int (i.fdiv j)) pFdiv := od_I (gd := fun i j => .int (i.fdiv j)) (fun _ _ _ => .int _) (f_int2c (C := fun i j => j ≠ 0 ∧ j.natAbs < 1073741824) (fun _ _ => rfl) fun x y d e => by unfold pFdiv at e; split at e <;> first | exact ⟨_, _, rfl, rfl⟩ | cases e)
theorem od_mod : OpD K (rI (fun _ j => j ≠ 0) fun i j => .int (i.fmod j)) pMod := od_I (gd := fun i j => .int (i.fmod j)) (fun _ _ _ => .int _) (f_int2c (C := fun i j => j ≠ 0) (fun _ _ => rfl) fun x y d e => by unfold pMod at e; split at e <;> first | exact ⟨_, _, rfl, rfl⟩ | cases e)
theorem od_pow : OpD K (rI CPow fun i j => .int (i ^ j.toNat)) pPow := od_I (gd := fun i j => .int (i ^ j.toNat)) (fun _ _ _ => .int _) (f_int2c (C := fun i j => 0 ≤ j ∧ j ≤ 1000000 ∧ i.natAbs < 2 ^ 64) (fun _ _ => rfl) fun x y d e => by unfold pPow at e; split at e <;> first | exact ⟨_, _, rfl, rfl⟩ | cases e)
theorem od_shl : OpD K (rI CPow fun i j => .int (i * 2 ^ j.toNat)) pShl := od_I (gd := fun i j => .int (i * 2 ^ j.toNat)) (fun _ _ _ => .int _) (f_int2c (C := fun i j => 0 ≤ j ∧ j ≤ 1000000 ∧ i.natAbs < 2 ^ 64) (fun _ _ => rfl) fun x y d e => by unfold pShl at e; split at e <;> first | exact ⟨_, _, rfl, rfl⟩ | cases e)
theorem od_shr : OpD K (rI (fun _ j => 0 ≤ j) fun i j => .int (i / 2 ^ j.toNat)) pShr := od_I (gd := fun i j => .int (i / 2 ^ j.toNat)) (fun _ _ _ => .int _) (f_int2c (C := fun i j => 0 ≤ j) (fun _ _ => rfl) fun x y d e => by unfold pShr at e; split at e <;> first | exact ⟨_, _, rfl, rfl⟩ | cases e)
theorem od_and : OpD K (rI0 fun i j => .int (Builtin.bitAnd i j)) pAnd := od_I0 (gd := fun i j => .int (Builtin.bitAnd i j)) (fun _ _ _ => .int _) (f_int2 (fun _ _ => rfl) fun x y d e => by unfold pAnd at e; split at e <;> first | exact ⟨_, _, rfl, rfl⟩ | cases e)
theorem od_or : OpD K (rI0 fun i j => .int (Builtin.bitOr i j)) pOr := od_I0 (gd := fun i j => .int (Builtin.bitOr i j)) (fun _ _ _ => .int _) (f_int2 (fun _ _ => rfl) fun x y d e => by unfold pOr at e; split at e <;> first | exact ⟨_, _, rfl, rfl⟩ | cases e)
theorem od_lt : OpD K (rI0 fun i j => .bl (decide (i < j))) pLt := od_I0 (gd := fun i j => .bool (decide (i < j))) (fun _ _ _ => .bl _) (f_int2 (fun _ _ => rfl) fun x y d e => by unfold pLt at e; split at e <;> first | exact ⟨_, _, rfl, rfl⟩ | cases e)
theorem od_le : OpD K (rI0 fun i j => .bl (decide (i ≤ j))) pLe := od_I0 (gd := fun i j => .bool (decide (i ≤ j))) (fun _ _ _ => .bl _) (f_int2 (fun _ _ => rfl) fun x y d e => by unfold pLe at e; split at e <;> first | exact ⟨_, _, rfl, rfl⟩ | cases e)
theorem od_gt : OpD K (rI0 fun i j => .bl (decide (j < i))) pGt := od_I0 (gd := fun i j => .bool (decide (j < i))) (fun _ _ _ => .bl _) (f_int2 (fun _ _ => rfl) fun x y d e => by unfold pGt at e; split at e <;> first | exact ⟨_, _, rfl, rfl⟩ | cases e)
theorem od_ge : OpD K (rI0 fun i j => .bl (decide (j ≤ i))) pGe := od_I0 (gd := fun i j => .bool (decide (j ≤ i))) (fun _ _ _ => .bl _) (f_int2 (fun _ _ => rfl) fun x y d e => by unfold pGe at e; split at e <;> first | exact ⟨_, _, rfl, rfl⟩ | cases e)
theorem od_eq : OpD K (rEqD K) pEq := by
  intro w x y dx dy d Q s hx hy e q
  unfold pEq at e
  split at e
  · next c =>
    cases e
    exact ⟨dx, dy, (dp_mono s _ _ hx).dp (ok_pl c.1), (dp_mono s _ _ hy).dp (ok_pl c.2), ok_sh c.1, ok_sh c.2, q _ _ _ (Gr.refl s) (.bl _)⟩
  · cases e
theorem od_ne : OpD K (rNeD K) pNe := by
  intro w x y dx dy d Q s hx hy e q
  unfold pNe at e
  split at e
  · next c =>
    cases e
    exact ⟨dx, dy, (dp_mono s _ _ hx).dp (ok_pl c.1), (dp_mono s _ _ hy).dp (ok_pl c.2), ok_sh c.1, ok_sh c.2, q _ _ _ (Gr.refl s) (.bl _)⟩
  · cases e
theorem od_is : OpD K (fun x y H Q => y = .non ∧ Q (.bl (decide (x = .non))) H) pIs := by
  intro w x y dx dy d Q s hx hy e q
  unfold pIs at e
  split at e
  · cases e; cases hx; cases hy; exact ⟨rfl, q _ _ _ (Gr.refl s) (.bl _)⟩
  · cases e
  · next h1 h2 =>
    cases e
    cases hy
    refine ⟨rfl, q _ _ _ (Gr.refl s) ?_⟩
    cases hx <;> first | exact absurd rfl h1 | exact .bl _
  · cases e
theorem od_isNot : OpD K (fun x y H Q => y = .non ∧ Q (.bl (!decide (x = .non))) H) pIsNot := by
  intro w x y dx dy d Q s hx hy e q
  unfold pIsNot at e
  split at e
  · cases e; cases hx; cases hy; exact ⟨rfl, q _ _ _ (Gr.refl s) (.bl _)⟩
  · cases e
  · next h1 h2 =>
    cases e
    cases hy
    refine ⟨rfl, q _ _ _ (Gr.refl s) ?_⟩
    cases hx <;> first | exact absurd rfl h1 | exact .bl _
  · cases e
theorem od_in : OpD K (rInD K) pIn := by
  intro w x y dx dy d Q s hx hy e q
  unfold pIn at e
  split at e
  · split at e
    · next c =>
      cases e
      exact ⟨dx, _, (dp_mono s _ _ hx).dp (ok_pl c.1), (dp_mono s _ _ hy).dp (ok_pl c.2), ok_sh c.1, ok_sh c.2, q _ _ _ (Gr.refl s) (.bl _)⟩
    · cases e
  · cases e
theorem od_notIn : OpD K (rNotInD K) pNotIn := by
  intro w x y dx dy d Q s hx hy e q
  unfold pNotIn at e
  split at e
  · split at e
    · next c =>
      cases e
      exact ⟨dx, _, (dp_mono s _ _ hx).dp (ok_pl c.1), (dp_mono s _ _ hy).dp (ok_pl c.2), ok_sh c.1, ok_sh c.2, q _ _ _ (Gr.refl s) (.bl _)⟩
    · cases e
  · cases e
theorem dps_atI {I : Hp} {vs : List V} {ds : List D} {i : Int} {d : D} (h : DqAll K I vs ds) (e : atI ds i = some d) : ∃ v, atI vs i = some v ∧ Dq K I v d := by
  unfold atI at e ⊢
  rw [dps_length h]
  cases q : ixN ds.length i with
  | none => rw [q] at e; cases e
  | some j =>
    rw [q] at e
    exact dps_get h e
theorem od_ix : OpD K (rIx K) pIx := by
  intro w x y dx dy d Q s hx hy e q
  unfold pIx at e
  split at e
  · obtain ⟨a, vs, rfl, hs, hd⟩ := dp_list hx
    obtain ⟨v, hv, r⟩ := dps_atI hd e
    exact .inl ⟨a, vs, _, v, rfl, dp_int hy, SqL.of (s _ _ hs), hv, q _ _ _ (Gr.refl s) r⟩
  · obtain ⟨a, vs, rfl, hs, hd⟩ := dp_tup hx
    obtain ⟨v, hv, r⟩ := dps_atI hd e
    exact .inr (.inl ⟨a, vs, _, v, rfl, dp_int hy, sqT_mono s hs, hv, q _ _ _ (Gr.refl s) r⟩)
  · split at e
    · next z i hl =>
      cases hc : atI z.cps.toList i with
      | none => rw [hc] at e; cases e
      | some c =>
        rw [hc] at e
        cases e
        exact .inr (.inr ⟨z, i, c, dp_str hx, dp_int hy, hl, hc, q _ _ _ (Gr.refl s) (.str _)⟩)
    · cases e
  · cases e
theorem ud_neg : UnD K (rU fun i => .int (-i)) pNeg := by
  intro w x dx d Q s hx e q
  unfold pNeg at e
  split at e
  · cases e
    exact ⟨_, dp_int hx, q _ _ _ (Gr.refl s) (.int _)⟩
  · cases e
end
end Lf
set_option Elab.async false
set_option linter.all false
set_option maxRecDepth 100000
set_option maxHeartbeats 4000000
/-! The lifting layer: what is walked; comprehensions. -/
namespace Lf
open PySem PySem.Spec PyProof.Rows L2

/-! ### one reading for all contexts of a block -/
section
variable {ι : Type} {X : ι → Cx} {K : Frag} {mg : Str → Option Value} {W : WX} {e : Expr}
theorem ao_unif {m : M O} (h : ∀ i, ∃ te : TE, PE (X i) e te ∧ Sn K mg W (RO K mg) te m) : ∃ te : TE, (∀ i, PE (X i) e te) ∧ Sn K mg W (RO K mg) te m :=
  ⟨fun σ H Q => ∀ i, (Classical.choose (h i)) σ H Q, fun i => ⟨fun pins s σ H Q I q => (Classical.choose_spec (h i)).1.run pins s σ H Q I (q i)⟩, fun w σ E Q k po i => (Classical.choose_spec (h i)).2 w σ E Q k po⟩
theorem at_unif {m : M Bool} (h : ∀ i, ∃ te : TT, PT (X i) e te ∧ Sn K mg W RT te m) : ∃ te : TT, (∀ i, PT (X i) e te) ∧ Sn K mg W RT te m :=
  ⟨fun σ H Q => ∀ i, (Classical.choose (h i)) σ H Q, fun i => ⟨fun pins s σ H Q I q => (Classical.choose_spec (h i)).1.run pins s σ H Q I (q i)⟩, fun w σ E Q k po i => (Classical.choose_spec (h i)).2 w σ E Q k po⟩
def AgS (K : Frag) (mg : Str → Option Value) (is : List Nat) (bd : D → En → Option En) (g : TG) : Prop := ∀ w σ E d v (R : L2.St → Hp → Prop), Ok K mg w σ E → Dq K w.I v d →
  (match bd d E with
    | some E' => ∀ w' σ', Ok K mg w' σ' E' → Stp w w' → Agx is σ σ' → R σ' w'.H
    | none => False) → g v σ w.H R
theorem ag_unif {is : List Nat} {bd : D → En → Option En} (h : ∀ i, ∃ g : TG, PG (X i) e g ∧ AgS K mg is bd g) : ∃ g : TG, (∀ i, PG (X i) e g) ∧ AgS K mg is bd g :=
  ⟨fun v σ H Q => ∀ i, (Classical.choose (h i)) v σ H Q, fun i => ⟨fun pins s σ H v u Q I r q => (Classical.choose_spec (h i)).1.run pins s σ H v u Q I r (q i)⟩, fun w σ E d v R k hd po i => (Classical.choose_spec (h i)).2 w σ E d v R k hd po⟩
end
abbrev W0 : WX := fun _ _ _ _ => False

/-! ### slots as they were -/
theorem EO.congr {K : Frag} {mg : Str → Option Value} {I H : Hp} : ∀ {σ : St} {E : En} {FP : List Addr} {σ' : St}, EO K mg I H σ E FP → σ'.length = σ.length → (∀ i : Nat, E[i]? = some none ∨ σ'[i]? = σ[i]?) → EO K mg I H σ' E FP
  | _, _, _, [], .nil, _, _ => .nil
  | _, _, _, _ :: _, .nil, h, _ => absurd h (by simp)
  | _, _, _, [], .cons _ _, h, _ => absurd h (by simp)
  | _, _, _, s' :: σ', @EO.cons _ _ _ _ s σ e E fp FP h hs, hl, k => by
    have r := EO.congr (σ' := σ') hs (by simpa using hl) fun i => by simpa using k (i + 1)
    have z := k 0
    cases h with
    | un => exact .cons .un r
    | ow h =>
      have e := (show s' = some _ by simpa using z)
      rw [e]
      exact .cons (.ow h) r
theorem Ok.congr {K : Frag} {mg : Str → Option Value} {w : Wd} {σ σ' : St} {E : En} (k : Ok K mg w σ E) (hl : σ'.length = σ.length) (h : ∀ i : Nat, E[i]? = some none ∨ σ'[i]? = σ[i]?) : Ok K mg w σ' E := ⟨k.sub, k.env.congr hl h, k.nd⟩
theorem killE_at : ∀ (ks : List Nat) (E : En) (i : Nat), i ∈ ks → i < E.length → (killE ks E)[i]? = some none
  | [], _, _, h, _ => absurd h (by simp)
  | k :: ks, E, i, h, hl => by
    show (killE ks (E.set k none))[i]? = _
    by_cases m : i ∈ ks
    · exact killE_at ks _ i m (by simpa using hl)
    · have e : i = k := by
        rcases List.mem_cons.mp h with e | e
        · exact e
        · exact absurd e m
      subst e
      have out : ∀ (ks : List Nat) (E : En), i ∉ ks → (killE ks E)[i]? = E[i]? := by
        intro ks
        induction ks with
        | nil => intro E _; rfl
        | cons k ks ih =>
          intro E h
          show (killE ks (E.set k none))[i]? = _
          rw [ih _ fun m => h (List.mem_cons_of_mem _ m)]
          exact List.getElem?_set_ne (fun e => h (by rw [← e]; exact List.mem_cons_self))
      rw [out ks _ m, List.getElem?_set_self hl]
theorem killE_len : ∀ (ks : List Nat) (E : En), (killE ks E).length = E.length
  | [], _ => rfl
  | k :: ks, E => (killE_len ks _).trans (by simp)
theorem wipe_at : ∀ (vs : List Nat) (σ : St) (i : Nat), i ∉ vs → (wipe σ vs)[i]? = σ[i]?
  | [], _, _, _ => rfl
  | v :: vs, σ, i, h => by
    show ((wipe σ vs).set v none)[i]? = _
    rw [List.getElem?_set_ne (fun e => h (by rw [← e]; exact List.mem_cons_self))]
    exact wipe_at vs σ i fun m => h (List.mem_cons_of_mem _ m)
theorem wipe_eq {vs is : List Nat} {σ σ' : St} (a : Agx is (wipe σ vs) σ') (h : ∀ i ∈ is, i ∈ vs) : wipe σ' vs = wipe σ vs := by
  have none_in : ∀ (vs : List Nat) (σ : St) (i : Nat), i ∈ vs → i < σ.length → (wipe σ vs)[i]? = some none := by
    intro vs
    induction vs with
    | nil => intro _ _ h; cases h
    | cons v vs ih =>
      intro σ i h hl
      show ((wipe σ vs).set v none)[i]? = _
      by_cases e : i = v
      · subst e
        rw [List.getElem?_set_self (by rw [wipe_length]; exact hl)]
      · rw [List.getElem?_set_ne (fun q => e q.symm)]
        rcases List.mem_cons.mp h with q | q
        · exact absurd q e
        · exact ih σ i q hl
  have hl := a.len
  rw [wipe_length] at hl
  apply List.ext_getElem?
  intro i
  by_cases m : i ∈ vs
  · by_cases hi : i < σ.length
    · rw [none_in vs σ' i m (by omega), none_in vs σ i m hi]
    · rw [List.getElem?_eq_none (by rw [wipe_length]; omega), List.getElem?_eq_none (by rw [wipe_length]; omega)]
  · rw [wipe_at vs σ' i m, wipe_at vs σ i m, a.at_ i fun q => m (h i q), wipe_at vs σ i m]
theorem Ok.wipe {K : Frag} {mg : Str → Option Value} {w : Wd} {σ : St} {E : En} (vs : List Nat) (k : Ok K mg w σ E) : ∃ w', w'.H = w.H ∧ Ok K mg w' (L2.wipe σ vs) (Lf.killE vs E) ∧ Stp w w' := by
  obtain ⟨w', e, k', s⟩ := k.killE (ks := vs)
  refine ⟨w', e, k'.congr (wipe_length σ vs) fun i => ?_, s⟩
  by_cases m : i ∈ vs
  · by_cases hi : i < E.length
    · exact .inl (killE_at vs E i m hi)
    · refine .inr ?_
      have := k.env.len
      rw [List.getElem?_eq_none (by rw [wipe_length]; omega), List.getElem?_eq_none (by omega)]
  · exact .inr (wipe_at vs σ i m)
theorem Ok.unwipe {K : Frag} {mg : Str → Option Value} {w : Wd} {σ : St} {E : En} {vs : List Nat} (k : Ok K mg w (L2.wipe σ vs) E) (h : ∀ i ∈ vs, i < E.length → E[i]? = some none) : Ok K mg w σ E := by
  have hl := k.env.len
  rw [wipe_length] at hl
  refine k.congr (wipe_length σ vs).symm fun i => ?_
  by_cases m : i ∈ vs
  · by_cases hi : i < E.length
    · exact .inl (h i m hi)
    · exact .inr (by rw [List.getElem?_eq_none (by omega), List.getElem?_eq_none (by rw [wipe_length]; omega)])
  · exact .inr (wipe_at vs σ i m).symm

/-! ### a list comprehension -/
def lcL (vs : List Nat) (bd : D → En → Option En) (mt : M Bool) (me : M O) : List D → List O → M O
  | [], acc => fun E => .ok (.lst acc) E
  | d :: ds, acc => fun E => match bd d E with
    | none => .no
    | some E1 => match mt E1 with
      | .ok true E2 => (match me E2 with
        | .ok o E3 => if acc.length < 16777216 then lcL vs bd mt me ds (acc ++ [o]) (killE vs E3) else .no
        | _ => .no)
      | .ok false E2 => lcL vs bd mt me ds acc (killE vs E2)
      | _ => .no
def mLc (vs : List Nat) (mi : M (List D)) (bd : D → En → Option En) (mt : M Bool) (me : M O) : M O := fun E => (mi E).bind fun ds E1 => lcL vs bd mt me ds [] (killE vs E1)
theorem ors_app {K : Frag} {mg : Str → Option Value} {I H : Hp} : ∀ {vs : List V} {os : List O} {fp : List Addr} {v : V} {o : O} {fq : List Addr}, ORs K mg I H vs os fp → OR K mg I H v o fq → ORs K mg I H (vs ++ [v]) (os ++ [o]) (fp ++ fq)
  | _, _, _, _, _, fq, .nil, h => by
    have r := ORs.cons h .nil
    rw [List.append_nil] at r
    exact r
  | _, _, _, _, _, fq, @ORs.cons _ _ _ _ v vs o os fp1 fp2 h1 h2, h => by
    have r := ors_app h2 h
    rw [List.append_assoc]
    exact .cons h1 r
section
variable {X : Cx} {W : WX} {elt tg iter : Expr} {ifs : List Expr} {scope : Scope} {own : List (Str × Nat)} {pos : Pos} {mi : M (List D)} {bd : D → En → Option En} {mt : M Bool} {me : M O} {is : List Nat}
structure Ix5 where
  s : Shared
  H : Hp
  C : Addr
  cl : List (Str × Addr)
  fp : List Addr
/-- between two turns -/
def LcN (K : Frag) (mg : Str → Option Value) (W : WX) (vs : List Nat) (bd : D → En → Option En) (mt : M Bool) (me : M O) (σ : L2.St) (Q : V → Hp → Prop) (w0 w1 : Wd) (A : Addr) (rest : List D) (H : Hp) : Prop :=
  ∃ w E acc oss fpA, w.H = H ∧ Ok K mg w (wipe σ vs) E ∧ Stp w1 w ∧ H A = some (.lst acc) ∧ w.I A = none ∧ ORs K mg w.I w.H acc oss fpA ∧ (A :: fpA ++ w.FP).Nodup ∧ (∀ a ∈ fpA, a ∈ w1.FP ∨ w1.H a = none) ∧ (∀ i ∈ vs, i < E.length → E[i]? = some none) ∧ Po K mg W σ (RO K mg σ Q) w0 (lcL vs bd mt me rest oss E)
theorem lc_sn {wi : TI} {g : TG} {tt : TT} {te : TE} {K : Frag} {mg : Str → Option Value} (vs : List Nat) (si : Sn K mg W (RI K) wi mi)
    (sg : AgS K mg is bd g)
    (st : Sn K mg W0 RT tt mt) (se : Sn K mg W0 (RO K mg) te me) (his : ∀ i ∈ is, i ∈ vs) : Sn K mg W (RO K mg) (tLc wi g tt te vs) (mLc vs mi bd mt me) := fun w0 σ E0 Q k0 po0 => by
  refine si.runw k0 po0 fun ds E1 w1 k1 s1 po1 J yj D hD => ?_
  refine ⟨fun i m H => LcN K mg W vs bd mt me σ Q w0 w1 D (ds.drop i) H ∧ m = ds.length - i ∧ i ≤ ds.length, ?_, ?_⟩
  · obtain ⟨w2, e2, k2, s2⟩ := k1.wipe vs
    have hD2 : w2.H D = none := by rw [e2]; exact hD
    have iD : w2.I D = none := k2.sub.free hD2
    have nD : D ∉ w2.FP := fun m => by
      obtain ⟨_, u, hu⟩ := k2.env.there D m
      rw [hD2] at hu; cases hu
    have sh : Same w2.H (upd w2.H D (.lst [])) := same_new hD2
    refine ⟨ds.length, ⟨⟨w2.I, upd w2.H D (.lst []), w2.FP⟩, _, [], [], [], ?_, ⟨k2.sub.trans sh, k2.env.mono (Same.refl _) fun a m => ?_, k2.nd⟩, ⟨s2.ii, fun a u n h => sh _ _ (s2.fr a u n h), s2.nw, s2.fp⟩, ?_, iD, .nil, ?_, fun a m => absurd m (by simp), fun i m hi => ?_, ?_⟩, by simp, Nat.zero_le _⟩
    · show upd w2.H D (.lst []) = _
      rw [e2]
    · obtain ⟨n, u, hu⟩ := k2.env.there a m
      exact ⟨(sh a u hu).trans hu.symm, n⟩
    · exact upd_same
    · exact List.nodup_cons.mpr ⟨by simpa using nD, k2.nd⟩
    · exact killE_at vs E1 i m (by rw [killE_len] at hi; exact hi)
    · exact po1
  rintro i m H ⟨⟨w, E, acc, oss, fpA, rfl, k, s, hL, iD, hA, nd, nw, hk, po⟩, rfl, hi⟩
  have nD : D ∉ w.FP := fun mm => (List.nodup_append.mp nd).2.2 D List.mem_cons_self D mm rfl
  by_cases hlt : i < ds.length
  · have ed : ds[i]? = some ds[i] := by simp [hlt]
    rw [List.drop_eq_getElem_cons hlt] at po
    refine .inr ⟨yj.go w i s.ii k.sub hlt, LcN K mg W vs bd mt me σ Q w0 w1 D (ds.drop (i + 1)), ?_, ?_⟩
    · intro H' z
      exact ⟨ds.length - (i + 1), by omega, z, rfl, hlt⟩
    intro x H' hy
    obtain ⟨I', gr, hx⟩ := yj.yld w i _ x H' s.ii k.sub ed hy
    have kg := k.gr gr
    -- what stands beside stays: D and the items' own cells
    have step : ∀ {wa wb : Wd}, Stp wa wb → wa.H D = some (.lst acc) → wa.I D = none → ORs K mg wa.I wa.H acc oss fpA → (D :: fpA ++ wa.FP).Nodup →
        wb.H D = some (.lst acc) ∧ wb.I D = none ∧ ORs K mg wb.I wb.H acc oss fpA ∧ (wb.FP.Nodup → (D :: fpA ++ wb.FP).Nodup) := fun {wa wb} sab h1 h2 h3 h4 => by
      have q := List.nodup_append.mp h4
      have outD : D ∉ wa.FP := fun mm => q.2.2 D List.mem_cons_self D mm rfl
      have outA : ∀ a ∈ fpA, a ∉ wa.FP := fun a m mm => q.2.2 a (List.mem_cons_of_mem _ m) a mm rfl
      refine ⟨sab.fr D _ outD h1, sab.nw D _ outD h1 h2, h3.mono sab.ii fun a m => ?_, fun nb => List.nodup_append.mpr ⟨q.1, nb, fun a m b m' e => ?_⟩⟩
      · obtain ⟨n, u, hu⟩ := h3.there a m
        exact ⟨(sab.fr a u (outA a m) hu).trans hu.symm, sab.nw a u (outA a m) hu n⟩
      · subst e
        rcases List.mem_cons.mp m with e | m
        · subst e
          rcases sab.fp a m' with z | z
          · exact outD z
          · rw [h1] at z; cases z
        · obtain ⟨n, u, hu⟩ := h3.there a m
          rcases sab.fp a m' with z | z
          · exact outA a m z
          · rw [hu] at z; cases z
    have sw : Stp w ⟨I', H', w.FP⟩ := gr.stp
    obtain ⟨b1, b2, b3, b4⟩ := step sw hL iD hA nd
    have po2 : Po K mg W σ (RO K mg σ Q) w0 (match bd ds[i] E with
      | none => .no
      | some E1 => match mt E1 with
        | .ok true E2 => (match me E2 with
          | .ok o E3 => if oss.length < 16777216 then lcL vs bd mt me (ds.drop (i + 1)) (oss ++ [o]) (killE vs E3) else .no
          | _ => .no)
        | .ok false E2 => lcL vs bd mt me (ds.drop (i + 1)) oss (killE vs E2)
        | _ => .no) := po
    refine sg ⟨I', H', w.FP⟩ (wipe σ vs) E ds[i] x _ kg hx ?_
    cases rb : bd ds[i] E with
    | none => rw [rb] at po2; exact po2.elim
    | some E2 =>
      rw [rb] at po2
      intro w2 σ2 k2 s2 ax
      obtain ⟨c1, c2, c3, c4⟩ := step s2 b1 b2 b3 (b4 k.nd)
      have ew : wipe σ2 vs = wipe σ vs := wipe_eq ax his
      refine ⟨ew, st w2 σ2 E2 _ k2 ?_⟩
      cases rt : mt E2 with
      | no => simp only [rt] at po2; exact po2.elim
      | exc c fs E3 => simp only [rt] at po2; exact po2.elim
      | ok b E3 =>
        intro w3 k3 s3
        obtain ⟨d1, d2, d3, d4⟩ := step s3 c1 c2 c3 (c4 k2.nd)
        have s13 : Stp w1 w3 := ((s.trans sw).trans s2).trans s3
        cases b with
        | false =>
          simp only [rt] at po2
          show LcN K mg W vs bd mt me σ Q w0 w1 D (ds.drop (i + 1)) w3.H
          obtain ⟨w4, e4, k4, s4⟩ := k3.wipe vs
          obtain ⟨f1, f2, f3, f4⟩ := step s4 d1 d2 d3 (d4 k3.nd)
          rw [ew] at k4
          exact ⟨w4, _, acc, oss, fpA, e4, k4, s13.trans s4, by rw [← e4]; exact f1, f2, f3, f4 k4.nd, nw, fun i m hi => killE_at vs E3 i m (by rw [killE_len] at hi; exact hi), po2⟩
        | true =>
          simp only [rt] at po2
          show te σ2 w3.H fun y H4 => ∃ acc, H4 D = some (.lst acc) ∧ acc.length < sizeLine ∧ LcN K mg W vs bd mt me σ Q w0 w1 D (ds.drop (i + 1)) (upd H4 D (.lst (acc ++ [y])))
          refine se w3 σ2 E3 _ k3 ?_
          cases re : me E3 with
          | no => simp only [re] at po2; exact po2.elim
          | exc c fs E4 => simp only [re] at po2; exact po2.elim
          | ok o E4 =>
            simp only [re] at po2
            intro w4 k4 s4 y fpy by_
            obtain ⟨g1, g2, g3, g4⟩ := step s4 d1 d2 d3 (d4 k3.nd)
            split at po2
            · next hsz =>
              have lenA : acc.length = oss.length := by
                have ll : ∀ {vs : List V} {os : List O} {fp : List Addr} {I H : Hp}, ORs K mg I H vs os fp → vs.length = os.length := by
                  intro vs
                  induction vs with
                  | nil => intro os fp I H h; cases h; rfl
                  | cons v vs ih => intro os fp I H h; cases h with | cons _ h => simp [ih h]
                exact ll g3
              refine ⟨acc, g1, by show acc.length < 2 ^ 24; omega, ?_⟩
              have nd4 := g4 k4.nd
              have q4 := List.nodup_append.mp nd4
              have qy := List.nodup_append.mp by_.nd
              have dne : ∀ a, a ∈ w4.FP → a ≠ D := fun a m e => q4.2.2 D List.mem_cons_self a m e.symm
              have s3' : Stp w3 w4 := s4
              -- the new item's cells are neither D nor the items'
              have yD : ∀ a ∈ fpy, a ≠ D := fun a m e => by
                subst e
                rcases by_.new a m with z | z
                · exact (List.nodup_append.mp (d4 k3.nd)).2.2 a List.mem_cons_self a z rfl
                · rw [d1] at z; cases z
              have yA : ∀ a ∈ fpy, a ∉ fpA := fun a m m' => by
                obtain ⟨n, u, hu⟩ := d3.there a m'
                rcases by_.new a m with z | z
                · exact (List.nodup_append.mp (d4 k3.nd)).2.2 a (List.mem_cons_of_mem _ m') a z rfl
                · rw [hu] at z; cases z
              have aD : ∀ a ∈ fpA, a ≠ D := fun a m e => by
                subst e
                exact (List.nodup_cons.mp q4.1).1 m
              have up : ∀ a, a ≠ D → upd w4.H D (.lst (acc ++ [y])) a = w4.H a := fun a h => upd_ne h
              have kU : Ok K mg ⟨w4.I, upd w4.H D (.lst (acc ++ [y])), w4.FP⟩ σ2 E4 := ⟨fun a u e => by
                show upd w4.H D _ a = some u
                rw [up a fun q => by
                  have e' : w4.I a = some u := e
                  rw [q, g2] at e'
                  cases e']
                exact k4.sub a u e, k4.env.mono (Same.refl _) fun a m => ⟨up a (dne a m), (k4.env.there a m).1⟩, k4.nd⟩
              have sU : Stp w1 ⟨w4.I, upd w4.H D (.lst (acc ++ [y])), w4.FP⟩ := by
                have s14 := s13.trans s4
                refine ⟨s14.ii, fun a u n h => ?_, s14.nw, s14.fp⟩
                show upd w4.H D _ a = some u
                rw [up a fun q => by rw [q, hD] at h; cases h]
                exact s14.fr a u n h
              have rU : ORs K mg w4.I (upd w4.H D (.lst (acc ++ [y]))) (acc ++ [y]) (oss ++ [o]) (fpA ++ fpy) :=
                ors_app (g3.mono (Same.refl _) fun a m => ⟨up a (aD a m), (g3.there a m).1⟩) (by_.rel.mono (Same.refl _) fun a m => ⟨up a (yD a m), (by_.rel.there a m).1⟩)
              have nU : (D :: (fpA ++ fpy) ++ w4.FP).Nodup := by
                have q5 := List.nodup_cons.mp q4.1
                refine List.nodup_append.mpr ⟨List.nodup_cons.mpr ⟨fun m => ?_, List.nodup_append.mpr ⟨q5.2, qy.1, fun a m b m' e => ?_⟩⟩, k4.nd, fun a m b m' e => ?_⟩
                · rcases List.mem_append.mp m with m | m
                  · exact q5.1 m
                  · exact yD D m rfl
                · subst e; exact yA a m' m
                · subst e
                  rcases List.mem_cons.mp m with e | m
                  · exact dne a m' e
                  · rcases List.mem_append.mp m with m | m
                    · exact q4.2.2 a (List.mem_cons_of_mem _ m) a m' rfl
                    · exact qy.2.2 a m a m' rfl
              obtain ⟨w5, e5, k5, s5⟩ := kU.wipe vs
              rw [ew] at k5
              have hh : ∀ a, a ∈ D :: (fpA ++ fpy) → a ∉ w4.FP := fun a m mm => (List.nodup_append.mp nU).2.2 a m a mm rfl
              refine ⟨w5, _, acc ++ [y], oss ++ [o], fpA ++ fpy, e5, k5, sU.trans s5, upd_same, ?_, ?_, ?_, fun a m => ?_, fun i m hi => killE_at vs E4 i m (by rw [killE_len] at hi; exact hi), po2⟩
              · exact s5.nw D _ (hh D List.mem_cons_self) (show upd w4.H D _ D = _ from upd_same) g2
              · refine rU.mono s5.ii fun a m => ?_
                obtain ⟨n, u, hu⟩ := rU.there a m
                have no := hh a (List.mem_cons_of_mem _ m)
                exact ⟨(s5.fr a u no hu).trans hu.symm, s5.nw a u no hu n⟩
              · refine List.nodup_append.mpr ⟨(List.nodup_append.mp nU).1, k5.nd, fun a m b m' e => ?_⟩
                subst e
                rcases s5.fp a m' with z | z
                · exact hh a m z
                · rcases List.mem_cons.mp m with e | m
                  · subst e
                    have z' : upd w4.H a (.lst (acc ++ [y])) a = none := z
                    rw [upd_same] at z'; cases z'
                  · obtain ⟨_, u, hu⟩ := rU.there a m
                    have z' : upd w4.H D (.lst (acc ++ [y])) a = none := z
                    rw [hu] at z'; cases z'
              · rcases List.mem_append.mp m with m | m
                · exact nw a m
                · rcases by_.new a m with z | z
                  · exact s13.fp a z
                  · by_cases m0 : a ∈ w1.FP
                    · exact .inl m0
                    · cases e : w1.H a with
                      | none => exact .inr rfl
                      | some u => rw [s13.fr a u m0 e] at z; cases z
            · exact po2.elim
  · have e : i = ds.length := by omega
    subst e
    rw [List.drop_length] at po
    refine .inl ⟨yj.stop w s.ii k.sub, ?_⟩
    have kk : Ok K mg w σ E := k.unwipe hk
    refine po w kk (s1.trans s) (.ref D) (D :: fpA) ⟨.lst hL iD hA, nd, fun a m => ?_⟩
    have f1 : ∀ a, a ∈ w1.FP ∨ w1.H a = none → a ∈ w0.FP ∨ w0.H a = none := fun a h => by
      rcases h with z | z
      · exact s1.fp a z
      · by_cases m0 : a ∈ w0.FP
        · exact .inl m0
        · cases e : w0.H a with
          | none => exact .inr rfl
          | some u => rw [s1.fr a u m0 e] at z; cases z
    rcases List.mem_cons.mp m with e | m
    · subst e; exact f1 a (.inr hD)
    · exact f1 a (nw a m)
/-- [elt for target in iter if ..] -/
theorem ao_lc (hc : X.calm = true) (hN : X.N.Nodup) (hi : AI X W tg iter mi) (ok : BlkOk X.N X.env.scope scope own)
    (hg : ∀ (s : Shared) (H : Hp) (C : Addr) (cl : List (Str × Addr)) (fp : List Addr), AG (X.blk s H scope (compEnvC scope cl C X.env) fp) is tg bd) (his : ∀ i ∈ is, i ∈ own.map (·.2))
    (he : ∀ (s : Shared) (H : Hp) (C : Addr) (cl : List (Str × Addr)) (fp : List Addr), AO (X.blk s H scope (compEnvC scope cl C X.env) fp) W0 elt me)
    (hs : ∀ x, foldedSetIterable iter X.env x = pure x) : AO X W (.ListComp elt [⟨tg, iter, [], 0⟩] scope pos) (mLc (own.map (·.2)) mi bd (fun E => .ok true E) me) := by
  obtain ⟨wi, pi, si⟩ := hi
  obtain ⟨te, pe, se⟩ := ao_unif (ι := Ix5) (X := fun i => X.blk i.s i.H scope (compEnvC scope i.cl i.C X.env) i.fp) (K := X.K) (mg := X.mg) fun i => he i.s i.H i.C i.cl i.fp
  obtain ⟨g, pg, sg⟩ := ag_unif (ι := Ix5) (X := fun i => X.blk i.s i.H scope (compEnvC scope i.cl i.C X.env) i.fp) (K := X.K) (mg := X.mg) fun i => hg i.s i.H i.C i.cl i.fp
  refine ⟨_, pe_lc hc hN pi ok (fun s H C cl fp => pg ⟨s, H, C, cl, fp⟩) (fun _ _ _ _ _ => pts_nil) (fun s H C cl fp => pe ⟨s, H, C, cl, fp⟩) hs, lc_sn _ si sg (fun w σ E Q k po => po w k (Stp.refl _)) se his⟩
theorem ao_lcIf {cnd : Expr} (hc : X.calm = true) (hN : X.N.Nodup) (hi : AI X W tg iter mi) (ok : BlkOk X.N X.env.scope scope own)
    (hg : ∀ (s : Shared) (H : Hp) (C : Addr) (cl : List (Str × Addr)) (fp : List Addr), AG (X.blk s H scope (compEnvC scope cl C X.env) fp) is tg bd) (his : ∀ i ∈ is, i ∈ own.map (·.2))
    (ht : ∀ (s : Shared) (H : Hp) (C : Addr) (cl : List (Str × Addr)) (fp : List Addr), AT (X.blk s H scope (compEnvC scope cl C X.env) fp) W0 cnd mt)
    (he : ∀ (s : Shared) (H : Hp) (C : Addr) (cl : List (Str × Addr)) (fp : List Addr), AO (X.blk s H scope (compEnvC scope cl C X.env) fp) W0 elt me)
    (hs : ∀ x, foldedSetIterable iter X.env x = pure x) : AO X W (.ListComp elt [⟨tg, iter, [cnd], 0⟩] scope pos) (mLc (own.map (·.2)) mi bd mt me) := by
  obtain ⟨wi, pi, si⟩ := hi
  obtain ⟨te, pe, se⟩ := ao_unif (ι := Ix5) (X := fun i => X.blk i.s i.H scope (compEnvC scope i.cl i.C X.env) i.fp) (K := X.K) (mg := X.mg) fun i => he i.s i.H i.C i.cl i.fp
  obtain ⟨tt, pt, st⟩ := at_unif (ι := Ix5) (X := fun i => X.blk i.s i.H scope (compEnvC scope i.cl i.C X.env) i.fp) (K := X.K) (mg := X.mg) fun i => ht i.s i.H i.C i.cl i.fp
  obtain ⟨g, pg, sg⟩ := ag_unif (ι := Ix5) (X := fun i => X.blk i.s i.H scope (compEnvC scope i.cl i.C X.env) i.fp) (K := X.K) (mg := X.mg) fun i => hg i.s i.H i.C i.cl i.fp
  refine ⟨_, pe_lc hc hN pi ok (fun s H C cl fp => pg ⟨s, H, C, cl, fp⟩) (fun s H C cl fp => pts_one (pt ⟨s, H, C, cl, fp⟩)) (fun s H C cl fp => pe ⟨s, H, C, cl, fp⟩) hs, lc_sn _ si sg st se his⟩
end
end Lf
set_option Elab.async false
set_option linter.all false
set_option maxRecDepth 100000
set_option maxHeartbeats 4000000
/-! The lifting layer: sorted of a tuple of whole numbers. -/
namespace Lf
open PySem PySem.Spec PyProof.Rows L2
section
variable {prog : Program} {w : World} {A : Around} {E : Value → Shared → Prop} {s : Shared}
theorem sorted_tup {t : Addr} {o : Obj} {vs : List Value} {n : Nat} {ltv : Value → Value → Bool} {Q : Value → Shared → Prop} (O : SrtO.Swo ltv)
    (ho : s.heap.get? t = some o) (hc : o.cls = .type "tuple") (hd : o.data = .seq vs.toArray n) (hz : vs.length ≤ sizeLine)
    (hS : 2 ≤ vs.length → ∀ (h₁ : Heap) (a : Addr), SrtO.SortableO prog w A.in1.in1 { s with heap := h₁ } a vs ltv)
    (h : ∀ (out : List Value) (h' : Heap), SrtO.Srtd ltv out → SrtO.Stb ltv out vs → (∀ b u, s.heap.get? b = some u → h'.get? b = some u) →
      Q (.ref h'.objs.size) { s with heap := sortedHeap (h'.push (seqObj "list" vs.toArray 0)) h'.objs.size vs out.toArray }) :
    wpAny (model prog w) A (call (.builtin "sorted") [.ref t]) Q E s := by
  refine Calls.call_function_entry kind_sorted plain_sorted entry_sorted (args_sorted1 _) ?_
  unfold Builtin.«sorted»
  refine wpAny_bind (m := checkCount "sorted" 1 1 _) (wpAny_pure ?_)
  refine wpAny_bind (wpAny_collect_seq t (.inr rfl) ho hc hd (fun h' keep => ?_) (by rw [List.size_toArray]; exact hz))
  have el : vs.toArray.toList = vs := by simp
  rw [el]
  refine wpAny_bind (wpAny_newList ?_ hz)
  have hoL : (h'.push (seqObj "list" vs.toArray 0)).get? h'.objs.size = some (seqObj "list" vs.toArray 0) := Heap.get?_push_size _ rfl
  have fin := fun (out : List Value) hs hb => h out h' hs hb keep
  refine wpAny_bind (wpAny_holding (wpAny_call_entry slot_list_sort ⟨_, hoL, rfl⟩ entry_list_sort
    (SrtO.list_sort_ord O hoL hz (fun h2 => hS h2 _ _) fun out hs hb => ⟨_, rfl, ?_⟩) (args_list_sort _)))
  exact wpAny_pure ⟨_, rfl, fin out hs hb⟩
end
def rSortedTu (K : Frag) : List V → Hp → VK → Prop := fun vs H Q => ∃ (a : Addr) (ns : List Int), vs = [V.ref a] ∧ SqT K H a (ns.map V.int) ∧ ∀ (ns' : List Int) (p : Addr), ns'.Perm ns → ns'.Pairwise (· ≤ ·) → H p = none → Q (.ref p) (upd H p (.lst (ns'.map V.int)))
section
variable {X : Cx}
theorem hnone {pins : List (Addr × Obj)} {σ : L2.St} {H : Hp} {s : Shared} (I : Inv X pins σ H s) {a : Addr} (h : s.heap.get? a = none) : H a = none := by
  cases e : H a with
  | none => rfl
  | some o =>
    obtain ⟨u, hu⟩ := objOk_get (I.hok a o e)
    rw [h] at hu
    cases hu
theorem cr_sortedTu : CallR X (.builtin "sorted") (rSortedTu X.K) := by
  intro pins s σ H vs us Q I r h
  obtain ⟨a, ns, rfl, hs, q⟩ := h
  obtain ⟨its, rv, hl, hz⟩ := I.tuple hs
  rw [Vals.ref1 r]
  have hi := rv.ints
  obtain ⟨o, ho, hc, n, hd⟩ := hl
  have lz : its.length ≤ sizeLine := by rw [← rv.length]; exact hz
  refine sorted_tup SrtO.swo_int ho hc hd lz (fun h2 h₁ a' => SrtO.ints_sortable hi h2) fun out h' h1 h2 keep => ?_
  obtain ⟨k1, k2, k3⟩ := SrtO.ints_out hi h1 h2
  have hoL : (h'.push (seqObj "list" its.toArray 0)).get? h'.objs.size = some (seqObj "list" its.toArray 0) := Heap.get?_push_size _ rfl
  obtain ⟨ep, he'⟩ := sortedHeap_at (out := out.toArray) hoL
  have hlen : ((out.map SrtO.iv).map V.int).length ≤ sizeLine := by
    rw [List.length_map, k2.length_eq, ← List.length_map (f := V.int)]; exact hz
  have old : ∀ b u, s.heap.get? b = some u → (sortedHeap (h'.push (seqObj "list" its.toArray 0)) h'.objs.size its out.toArray).get? b = some u := fun b u e => by
    have e2 := keep b u e
    have lt : b < h'.objs.size := Heap.lt_size e2
    rw [sortedHeap_old (Nat.ne_of_lt lt) (by rw [size_push']; exact Nat.lt_succ_of_lt lt)]
    exact Heap.get?_push_of_some _ e2
  have ng : s.heap.get? h'.objs.size = none := by
    cases e : s.heap.get? h'.objs.size with
    | none => rfl
    | some u => exact absurd (Heap.lt_size (keep _ u e)) (Nat.lt_irrefl _)
  exact ⟨.ref _, upd H h'.objs.size (.lst ((out.map SrtO.iv).map V.int)), I.laidN (t' := s.toks) old ng (hnone I ng) ⟨hlen, out, ep, vals_of_ints k1, he'⟩, rfl, q _ _ k2 k3 (hnone I ng)⟩
def rSorted2 (K : Frag) : List V → Hp → VK → Prop := fun xs H Q => rSortedI K xs H Q ∨ rSortedTu K xs H Q
theorem cr_sorted2 : CallR X (.builtin "sorted") (rSorted2 X.K) := CallR.or cr_sortedI cr_sortedTu
end
end Lf
set_option Elab.async false
set_option linter.all false
set_option maxRecDepth 100000
set_option maxHeartbeats 4000000
/-! The lifting layer: what is walked, operations that make lists, built-ins. -/
namespace Lf
open PySem PySem.Spec PyProof.Rows L2

/-! ### walks -/
def mItems (m : M D) : M (List D) := fun E => (m E).bind fun d E1 => match d with
  | .list ds => .ok ds E1
  | .dict [(.none, .list ds)] => .ok ds E1
  | _ => .no
def mItemsT (m : M D) : M (List D) := fun E => (m E).bind fun d E1 => match d with
  | .tuple ds => .ok ds E1
  | _ => .no
def rangeD (lo : Int) (n : Nat) : List D := (List.range n).map fun i => .int (lo + (i : Nat))
def rangeC (lo c : Int) (n : Nat) : List D := (List.range n).map fun i => .int (lo + (i : Nat) * c)
def rng1 : List D → Option (List D)
  | [.int j] => if -(2 ^ 62) ≤ j ∧ j < 2 ^ 62 then some (rangeD 0 j.toNat) else none
  | _ => none
def rng2 : List D → Option (List D)
  | [.int i, .int j] => if -(2 ^ 62) ≤ i ∧ i < 2 ^ 62 ∧ -(2 ^ 62) ≤ j ∧ j < 2 ^ 62 then some (rangeD i (j - i).toNat) else none
  | _ => none
/-- a step of -1 alone -/
def rng3 : List D → Option (List D)
  | [.int i, .int j, .int c] => if c = -1 ∧ -(2 ^ 62) ≤ i ∧ i < 2 ^ 62 ∧ -(2 ^ 62) ≤ j ∧ j < 2 ^ 62 then some (rangeC i (-1) (i - j).toNat) else none
  | _ => none
def mRng (f : List D → Option (List D)) (m : M (List Arg)) : M (List D) := fun E => (m E).bind fun as E1 => lift ((argsD as).bind f) E1
def enumD : List D → Option (List D)
  | [.list ds] => some ((List.range ds.length).zip ds |>.map fun p => .tuple [.int (p.1 : Nat), p.2])
  | _ => none
def zipD : List D → Option (List D)
  | [.list ds, .list es] => some ((ds.zip es).map fun p => .tuple [p.1, p.2])
  | _ => none
theorem rangeD_at {lo : Int} {n i : Nat} (h : i < n) : (rangeD lo n)[i]? = some (.int (lo + (i : Nat))) := by
  unfold rangeD
  rw [List.getElem?_map, List.getElem?_range h] <;> rfl
@[simp] theorem rangeD_length (lo : Int) (n : Nat) : (rangeD lo n).length = n := by unfold rangeD; simp
theorem rangeC_at {lo c : Int} {n i : Nat} (h : i < n) : (rangeC lo c n)[i]? = some (.int (lo + (i : Nat) * c)) := by
  unfold rangeC
  rw [List.getElem?_map, List.getElem?_range h] <;> rfl
@[simp] theorem rangeC_length (lo c : Int) (n : Nat) : (rangeC lo c n).length = n := by unfold rangeC; simp
section
variable {K : Frag} {I0 : Hp}
theorem yl_list {a : Addr} {vs : List V} {ds : List D} (h : SqL K I0 a vs) (hd : DqAll K I0 vs ds) (uq : ∀ H xs, Same I0 H → SqL K H a xs → ∀ ys, SqL K H a ys → True) : Yields K (Itl K a) I0 ds where
  go := fun w i s1 s2 hi => by
    obtain ⟨v, hv, _⟩ := dps_get hd (show ds[i]? = some ds[i] by simp [hi])
    exact ⟨vs, v, sqL_mono (s1.trans s2) h, hv⟩
  yld := fun w i d x H' s1 s2 e hy => by
    obtain ⟨rfl, hx⟩ := hy
    obtain ⟨v, hv, r⟩ := dps_get hd e
    have q := hx vs (sqL_mono (s1.trans s2) h)
    rw [hv] at q
    cases q
    exact ⟨w.I, Gr.refl s2, dp_mono s1 _ _ r⟩
  stop := fun w s1 s2 => ⟨vs, sqL_mono (s1.trans s2) h, by rw [dps_length hd]; exact Nat.le_refl _⟩
theorem yl_tup {a : Addr} {vs : List V} {ds : List D} (h : SqT K I0 a vs) (hd : DqAll K I0 vs ds) : Yields K (Itt K a) I0 ds where
  go := fun w i s1 s2 hi => by
    obtain ⟨v, hv, _⟩ := dps_get hd (show ds[i]? = some ds[i] by simp [hi])
    exact ⟨vs, v, sqT_mono (s1.trans s2) h, hv⟩
  yld := fun w i d x H' s1 s2 e hy => by
    obtain ⟨rfl, hx⟩ := hy
    obtain ⟨v, hv, r⟩ := dps_get hd e
    have q := hx vs (sqT_mono (s1.trans s2) h)
    rw [hv] at q
    cases q
    exact ⟨w.I, Gr.refl s2, dp_mono s1 _ _ r⟩
  stop := fun w s1 s2 => ⟨vs, sqT_mono (s1.trans s2) h, by rw [dps_length hd]; exact Nat.le_refl _⟩
theorem yl_range {lo : Int} {n : Nat} : Yields K (Itr lo n) I0 (rangeD lo n) where
  go := fun w i _ _ hi => by
    have hi' : i < n := by simpa using hi
    exact hi'
  yld := fun w i d x H' s1 s2 e hy => by
    obtain ⟨rfl, rfl⟩ := hy
    have hi : i < n := by simpa using (List.getElem?_eq_some_iff.mp e).1
    rw [rangeD_at hi] at e
    cases e
    exact ⟨w.I, Gr.refl s2, .int _⟩
  stop := fun w _ _ => by simp [Itr]
theorem yl_rangeC {lo c : Int} {n : Nat} : Yields K (Itc lo c n) I0 (rangeC lo c n) where
  go := fun w i _ _ hi => by
    have hi' : i < n := by simpa using hi
    exact hi'
  yld := fun w i d x H' s1 s2 e hy => by
    obtain ⟨rfl, rfl⟩ := hy
    have hi : i < n := by simpa using (List.getElem?_eq_some_iff.mp e).1
    rw [rangeC_at hi] at e
    cases e
    exact ⟨w.I, Gr.refl s2, .int _⟩
  stop := fun w _ _ => by simp [Itc]
theorem new_tup {w : Wd} {T : Addr} {vs : List V} {ds : List D} (s : Same w.I w.H) (h : w.H T = none) (hd : DqAll K w.I vs ds) : Gr w (upd w.I T (.tup vs)) (upd w.H T (.tup vs)) ∧ Dq K (upd w.I T (.tup vs)) (.ref T) (.tuple ds) := by
  have g := Gr.new s (.tup vs) h
  exact ⟨g, .tup (SqT.of upd_same) (dps_mono g.ii _ _ hd)⟩
theorem yl_enum {a : Addr} {vs : List V} {ds : List D} (h : I0 a = some (.lst vs)) (hd : DqAll K I0 vs ds) : Yields K (Ite K a) I0 ((List.range ds.length).zip ds |>.map fun p => .tuple [.int (p.1 : Nat), p.2]) where
  go := fun w i s1 s2 hi => by
    have hi' : i < ds.length := by simpa using hi
    obtain ⟨v, hv, _⟩ := dps_get hd (show ds[i]? = some ds[i] by simp [hi'])
    exact ⟨vs, v, SqL.of ((s1.trans s2) _ _ h), hv⟩
  yld := fun w i d x H' s1 s2 e hy => by
    obtain ⟨T, x', rfl, hT, rfl, hx⟩ := hy
    have hi : i < ds.length := by
      have := (List.getElem?_eq_some_iff.mp e).1
      simpa using this
    obtain ⟨v, hv, r⟩ := dps_get hd (show ds[i]? = some ds[i] by simp [hi])
    have q := hx vs (SqL.of ((s1.trans s2) _ _ h))
    rw [hv] at q
    cases q
    have e2 : ((List.range ds.length).zip ds |>.map fun p => PyData.tuple [.int (p.1 : Nat), p.2])[i]? = some (.tuple [.int (i : Nat), ds[i]]) := by
      rw [List.getElem?_map, List.getElem?_eq_getElem (by simpa using hi)]
      simp
    rw [e2] at e
    cases e
    obtain ⟨g, hh⟩ := new_tup s2 hT (.cons (.int (i : Nat)) (.cons (dp_mono s1 _ _ r) .nil))
    exact ⟨_, g, hh⟩
  stop := fun w s1 s2 => ⟨vs, SqL.of ((s1.trans s2) _ _ h), by rw [dps_length hd]; simp⟩
theorem yl_zip {a b : Addr} {vs us : List V} {ds es : List D} (h : I0 a = some (.lst vs)) (h2 : I0 b = some (.lst us)) (hd : DqAll K I0 vs ds) (he : DqAll K I0 us es) : Yields K (Itz K a b) I0 ((ds.zip es).map fun p => .tuple [p.1, p.2]) where
  go := fun w i s1 s2 hi => by
    have hi' : i < ds.length ∧ i < es.length := by
      simp only [List.length_map, List.length_zip] at hi
      omega
    obtain ⟨v, hv, _⟩ := dps_get hd (show ds[i]? = some (ds[i]'hi'.1) by simp [hi'.1])
    obtain ⟨u, hu, _⟩ := dps_get he (show es[i]? = some (es[i]'hi'.2) by simp [hi'.2])
    exact ⟨vs, us, v, u, SqL.of ((s1.trans s2) _ _ h), SqL.of ((s1.trans s2) _ _ h2), hv, hu⟩
  yld := fun w i d x H' s1 s2 e hy => by
    obtain ⟨T, x', y', rfl, hT, rfl, hx, hy'⟩ := hy
    have hi : i < ds.length ∧ i < es.length := by
      have := (List.getElem?_eq_some_iff.mp e).1
      simp only [List.length_map, List.length_zip] at this
      omega
    obtain ⟨v, hv, r⟩ := dps_get hd (show ds[i]? = some (ds[i]'hi.1) by simp [hi.1])
    obtain ⟨u, hu, r2⟩ := dps_get he (show es[i]? = some (es[i]'hi.2) by simp [hi.2])
    have q := hx vs (SqL.of ((s1.trans s2) _ _ h))
    rw [hv] at q
    cases q
    have q2 := hy' us (SqL.of ((s1.trans s2) _ _ h2))
    rw [hu] at q2
    cases q2
    have e2 : ((ds.zip es).map fun p => PyData.tuple [p.1, p.2])[i]? = some (.tuple [ds[i]'hi.1, es[i]'hi.2]) := by
      rw [List.getElem?_map, List.getElem?_eq_getElem (by simp [List.length_zip]; omega)]
      simp
    rw [e2] at e
    cases e
    obtain ⟨g, hh⟩ := new_tup s2 hT (.cons (dp_mono s1 _ _ r) (.cons (dp_mono s1 _ _ r2) .nil))
    exact ⟨_, g, hh⟩
  stop := fun w s1 s2 => ⟨vs, us, SqL.of ((s1.trans s2) _ _ h), SqL.of ((s1.trans s2) _ _ h2), by
    rw [dps_length hd, dps_length he]
    simp only [List.length_map, List.length_zip]
    omega⟩
end
section
variable {X : Cx} {W : WX} {tg e e2 e3 : Expr} {p pos tpos : Pos} {ma : M D} {m : M (List Arg)} {elts : List Expr} {kk : Nat}
theorem ai_list (h : AD X W e ma) : AI X W tg e (mItems ma) := by
  obtain ⟨te, pe, s⟩ := h
  refine ⟨_, pi_list pe, fun w σ E R k po => s.run k po back_I fun d E1 w1 k1 s1 po1 v hv => ?_⟩
  split at po1
  · obtain ⟨a, vs, rfl, h1, h2⟩ := dp_list hv
    exact ⟨a, rfl, ⟨vs, SqL.of (k1.sub _ _ h1)⟩, po1 w1 k1 (Stp.refl _) _ (yl_list (SqL.of h1) h2 fun _ _ _ _ _ _ => trivial)⟩
  · cases hv with
    | @scr a vs ds h1 h2 => exact ⟨a, rfl, ⟨vs, sqL_mono k1.sub h1⟩, po1 w1 k1 (Stp.refl _) _ (yl_list h1 h2 fun _ _ _ _ _ _ => trivial)⟩
  · exact po1.elim
theorem ai_tup (h : AD X W e ma) : AI X W tg e (mItemsT ma) := by
  obtain ⟨te, pe, s⟩ := h
  refine ⟨_, pi_tup pe, fun w σ E R k po => s.run k po back_I fun d E1 w1 k1 s1 po1 v hv => ?_⟩
  split at po1
  · obtain ⟨a, vs, rfl, h1, h2⟩ := dp_tup hv
    exact ⟨a, rfl, ⟨vs, sqT_mono k1.sub h1⟩, po1 w1 k1 (Stp.refl _) _ (yl_tup h1 h2)⟩
  · exact po1.elim
theorem ai_rng1 (hg : Gl X "range") (hm : X.mg "range" = none) (h : AA X W [e] m) (hs : starEach [e] X.env = [(false, eval e X.env)] := by rfl) : AI X W tg (.Call (.Name "range" p) [e] [] pos) (mRng rng1 m) := by
  obtain ⟨ta, pa, s⟩ := h
  refine ⟨_, pi_range1 hg hm pa hs, fun w σ E R k po => s.run k po back_I fun as E1 w1 k1 s1 po1 vs hv => ?_⟩
  obtain ⟨ds, hd, q⟩ := po1.lift
  cases ea : argsD as with
  | none => rw [ea] at hd; cases hd
  | some xs =>
    rw [ea] at hd
    have hx := hv.data ea
    have hd' : rng1 xs = some ds := hd
    unfold rng1 at hd'
    split at hd'
    · split at hd'
      · next j hc =>
        cases hd'
        cases hx with
        | cons h1 h2 =>
          cases h2
          exact ⟨j, by rw [dp_int h1], hc.1, hc.2, q w1 k1 (Stp.refl _) _ yl_range⟩
      · cases hd'
    · cases hd'
theorem ai_rng2 (hg : Gl X "range") (hm : X.mg "range" = none) (h : AA X W [e, e2] m) (hs : starEach [e, e2] X.env = [(false, eval e X.env), (false, eval e2 X.env)] := by rfl) (hs2 : starEach [e2] X.env = [(false, eval e2 X.env)] := by rfl) : AI X W tg (.Call (.Name "range" p) [e, e2] [] pos) (mRng rng2 m) := by
  obtain ⟨ta, pa, s⟩ := h
  refine ⟨_, pi_range2 hg hm pa hs hs2, fun w σ E R k po => s.run k po back_I fun as E1 w1 k1 s1 po1 vs hv => ?_⟩
  obtain ⟨ds, hd, q⟩ := po1.lift
  cases ea : argsD as with
  | none => rw [ea] at hd; cases hd
  | some xs =>
    rw [ea] at hd
    have hx := hv.data ea
    have hd' : rng2 xs = some ds := hd
    unfold rng2 at hd'
    split at hd'
    · split at hd'
      · next i j hc =>
        cases hd'
        cases hx with
        | cons h1 h2 =>
          cases h2 with
          | cons h3 h4 =>
            cases h4
            exact ⟨i, j, by rw [dp_int h1, dp_int h3], hc, q w1 k1 (Stp.refl _) _ yl_range⟩
      · cases hd'
    · cases hd'
theorem ai_rng3 (hg : Gl X "range") (hm : X.mg "range" = none) (h : AA X W [e, e2, e3] m) (hs : starEach [e, e2, e3] X.env = (false, eval e X.env) :: starEach [e2, e3] X.env := by rfl) (hs2 : (backTo pos (starEach [e2, e3] X.env)).any (·.1) = false := by rfl) : AI X W tg (.Call (.Name "range" p) [e, e2, e3] [] pos) (mRng rng3 m) := by
  obtain ⟨ta, pa, s⟩ := h
  refine ⟨_, pi_range3 hg hm pa hs hs2, fun w σ E R k po => s.run k po back_I fun as E1 w1 k1 s1 po1 vs hv => ?_⟩
  obtain ⟨ds, hd, q⟩ := po1.lift
  cases ea : argsD as with
  | none => rw [ea] at hd; cases hd
  | some xs =>
    rw [ea] at hd
    have hx := hv.data ea
    have hd' : rng3 xs = some ds := hd
    unfold rng3 at hd'
    split at hd'
    · split at hd'
      · next i j c hc =>
        obtain ⟨rfl, h1, h2, h3, h4⟩ := hc
        cases hd'
        cases hx with
        | cons g1 g2 =>
          cases g2 with
          | cons g3 g4 =>
            cases g4 with
            | cons g5 g6 =>
              cases g6
              exact ⟨i, j, -1, (i - j).toNat, by rw [dp_int g1, dp_int g3, dp_int g5], RgC.neg h1 h2 h3 h4, q w1 k1 (Stp.refl _) _ yl_rangeC⟩
      · cases hd'
    · cases hd'
theorem ai_enum (hg : Gl X "enumerate") (hm : X.mg "enumerate" = none) (h : AA X W [e] m) (hs : starEach [e] X.env = [(false, eval e X.env)] := by rfl) : AI X W (.Tuple elts kk tpos) (.Call (.Name "enumerate" p) [e] [] pos) (mRng enumD m) := by
  obtain ⟨ta, pa, s⟩ := h
  refine ⟨_, pi_enum hg hm pa hs, fun w σ E R k po => s.run k po back_I fun as E1 w1 k1 s1 po1 vs hv => ?_⟩
  obtain ⟨ds, hd, q⟩ := po1.lift
  cases ea : argsD as with
  | none => rw [ea] at hd; cases hd
  | some xs =>
    rw [ea] at hd
    have hx := hv.data ea
    have hd' : enumD xs = some ds := hd
    unfold enumD at hd'
    split at hd'
    · cases hd'
      cases hx with
      | cons h1 h2 =>
        cases h2
        obtain ⟨a, us, rfl, g1, g2⟩ := dp_list h1
        exact ⟨a, us, rfl, SqL.of (k1.sub _ _ g1), q w1 k1 (Stp.refl _) _ (yl_enum g1 g2)⟩
    · cases hd'
theorem ai_zip (hg : Gl X "zip") (hm : X.mg "zip" = none) (h : AA X W [e, e2] m) (hs : starEach [e, e2] X.env = (false, eval e X.env) :: starEach [e2] X.env := by rfl) (hpl : (backTo pos (starEach [e2] X.env)).any (·.1) = false := by rfl) : AI X W (.Tuple elts kk tpos) (.Call (.Name "zip" p) [e, e2] [] pos) (mRng zipD m) := by
  obtain ⟨ta, pa, s⟩ := h
  refine ⟨_, pi_zip hg hm pa hs hpl, fun w σ E R k po => s.run k po back_I fun as E1 w1 k1 s1 po1 vs hv => ?_⟩
  obtain ⟨ds, hd, q⟩ := po1.lift
  cases ea : argsD as with
  | none => rw [ea] at hd; cases hd
  | some xs =>
    rw [ea] at hd
    have hx := hv.data ea
    have hd' : zipD xs = some ds := hd
    unfold zipD at hd'
    split at hd'
    · cases hd'
      cases hx with
      | cons h1 h2 =>
        cases h2 with
        | cons h3 h4 =>
          cases h4
          obtain ⟨a, us, rfl, g1, g2⟩ := dp_list h1
          obtain ⟨b, ws, rfl, g3, g4⟩ := dp_list h3
          exact ⟨a, b, us, ws, rfl, SqL.of (k1.sub _ _ g1), SqL.of (k1.sub _ _ g3), q w1 k1 (Stp.refl _) _ (yl_zip g1 g3 g2 g4)⟩
    · cases hd'
end

/-! ### operations that make a new list -/
/-- what is wanted of a new list -/
def NewL (K : Frag) (w : Wd) (ds : List D) (Q : VK) : Prop := ∀ p vs, w.H p = none → DqAll K w.I vs ds → Q (.ref p) (upd w.H p (.lst vs))
def OpL (K : Frag) (r : R2) (f : D → D → Option (List D)) : Prop := ∀ (w : Wd) (x y : V) (dx dy : D) (ds : List D) (Q : VK), Same w.I w.H → Dq K w.I x dx → Dq K w.I y dy → f dx dy = some ds → NewL K w ds Q → r x y w.H Q
def CallL (K : Frag) (r : List V → Hp → VK → Prop) (f : List D → Option (List D)) : Prop := ∀ (w : Wd) (vs : List V) (xs ds : List D) (Q : VK), Same w.I w.H → DqAll K w.I vs xs → f xs = some ds → NewL K w ds Q → r vs w.H Q
def CallD (K : Frag) (r : List V → Hp → VK → Prop) (f : List D → Option D) : Prop := ∀ (w : Wd) (vs : List V) (xs : List D) (d : D) (Q : VK), Same w.I w.H → DqAll K w.I vs xs → f xs = some d → (∀ I' H' v, Gr w I' H' → Dq K I' v d → Q v H') → r vs w.H Q
theorem newL_D {K : Frag} {w : Wd} {ds : List D} {Q : VK} (s : Same w.I w.H) (q : ∀ I' H' v, Gr w I' H' → Dq K I' v (.list ds) → Q v H') : NewL K w ds Q := fun p vs hp hd => by
  have g := Gr.new s (.lst vs) hp
  exact q _ _ _ g (.lst upd_same (dps_mono g.ii _ _ hd))
theorem OpL.toD {K : Frag} {r : R2} {f : D → D → Option (List D)} (h : OpL K r f) : OpD K r fun x y => (f x y).map .list := fun w x y dx dy d Q s hx hy e q => by
  have e' : (f dx dy).map .list = some d := e
  cases z : f dx dy with
  | none => rw [z] at e'; cases e'
  | some ds => rw [z] at e'; cases e'; exact h w x y dx dy ds Q s hx hy z (newL_D s q)
def lstO (ds : List D) : O := .lst (ds.map .dt)
def m2O (f : D → D → Option (List D)) (ma mb : M D) : M O := fun E => (ma E).bind fun x E1 => (mb E1).bind fun y E2 => lift ((f x y).map lstO) E2
def mCallO (f : List D → Option (List D)) (ma : M (List Arg)) : M O := fun E => (ma E).bind fun as E1 => lift (((argsD as).bind f).map lstO) E1
def mCallD (f : List D → Option D) (ma : M (List Arg)) : M D := fun E => (ma E).bind fun as E1 => lift ((argsD as).bind f) E1
section
variable {X : Cx} {W : WX} {a b e : Expr} {es : List Expr} {p pos : Pos} {ma mb : M D} {m : M (List Arg)} {x : Str} {id T : String}
theorem ao_op {op : Operator} {r : R2} {f : D → D → Option (List D)} (hr : OpR X (binaryOp op) r) (ho : OpL X.K r f) (ha : AD X W a ma) (hb : AD X W b mb) : AO X W (.BinOp a op b pos) (m2O f ma mb) := by
  obtain ⟨ta, pa, sa⟩ := ha
  obtain ⟨tb, pb, sb⟩ := hb
  refine ⟨_, pe_op hr pa pb, fun w σ E Q k po => sa.runw k po fun d1 E1 w1 k1 s1 po1 v1 h1 => sb.run k1 (po1.from back_O s1) back_O fun d2 E2 w2 k2 s2 po2 v2 h2 => ?_⟩
  obtain ⟨z, hz, q⟩ := po2.lift
  cases hf : f d1 d2 with
  | none => rw [hf] at hz; cases hz
  | some ds =>
    rw [hf] at hz
    cases hz
    refine ho w2 v1 v2 d1 d2 ds Q k2.sub (dp_mono s2.ii _ _ h1) h2 hf fun pp vs hp hd => ?_
    obtain ⟨k3, s3, bb⟩ := bes_new k2 (Stp.refl w2) hp hd
    exact q _ k3 s3 _ _ bb
theorem ao_callB {r : List V → Hp → VK → Prop} {f : List D → Option (List D)} (hc : CallR X (.builtin id) r) (ho : CallL X.K r f) (hg : Gl X x) (hm : X.mg x = none) (hv : bootBuiltins x = some (.builtin id)) (ha : AA X W (e :: es) m) (hn : x ≠ "__name__" := by decide) (hdb : (x == ("__debug__" : Str)) = false := by decide)
    (he : starEach (e :: es) X.env = (false, eval e X.env) :: starEach es X.env := by rfl) (hpl : (backTo pos (starEach es X.env)).any (·.1) = false := by rfl) : AO X W (.Call (.Name x p) (e :: es) [] pos) (mCallO f m) := by
  obtain ⟨ta, pa, sa⟩ := ha
  refine ⟨_, pe_callB hc hg hm hv pa hn hdb he hpl, fun w σ E Q k po => sa.run k po back_O fun as E1 w1 k1 s1 po1 vs h1 => ?_⟩
  obtain ⟨z, hz, q⟩ := po1.lift
  cases ea : argsD as with
  | none => rw [ea] at hz; cases hz
  | some xs =>
    rw [ea] at hz
    cases hf : f xs with
    | none =>
      have hz' : (f xs).map lstO = some z := hz
      rw [hf] at hz'; cases hz'
    | some ds =>
      have hz' : (f xs).map lstO = some z := hz
      rw [hf] at hz'
      cases hz'
      refine ho w1 vs xs ds Q k1.sub (h1.data ea) hf fun pp us hp hd => ?_
      obtain ⟨k3, s3, bb⟩ := bes_new k1 (Stp.refl w1) hp hd
      exact q _ k3 s3 _ _ bb
theorem ao_callTy {r : List V → Hp → VK → Prop} {f : List D → Option (List D)} (hc : CallR X (.type T) r) (ho : CallL X.K r f) (hg : Gl X x) (hm : X.mg x = none) (hv : bootBuiltins x = some (.type T)) (ha : AA X W (e :: es) m) (hn : x ≠ "__name__" := by decide) (hdb : (x == ("__debug__" : Str)) = false := by decide)
    (he : starEach (e :: es) X.env = (false, eval e X.env) :: starEach es X.env := by rfl) (hpl : (backTo pos (starEach es X.env)).any (·.1) = false := by rfl) : AO X W (.Call (.Name x p) (e :: es) [] pos) (mCallO f m) := by
  obtain ⟨ta, pa, sa⟩ := ha
  refine ⟨_, pe_callTy hc hg hm hv pa hn hdb he hpl, fun w σ E Q k po => sa.run k po back_O fun as E1 w1 k1 s1 po1 vs h1 => ?_⟩
  obtain ⟨z, hz, q⟩ := po1.lift
  cases ea : argsD as with
  | none => rw [ea] at hz; cases hz
  | some xs =>
    rw [ea] at hz
    cases hf : f xs with
    | none =>
      have hz' : (f xs).map lstO = some z := hz
      rw [hf] at hz'; cases hz'
    | some ds =>
      have hz' : (f xs).map lstO = some z := hz
      rw [hf] at hz'
      cases hz'
      refine ho w1 vs xs ds Q k1.sub (h1.data ea) hf fun pp us hp hd => ?_
      obtain ⟨k3, s3, bb⟩ := bes_new k1 (Stp.refl w1) hp hd
      exact q _ k3 s3 _ _ bb
theorem ad_callB {r : List V → Hp → VK → Prop} {f : List D → Option D} (hc : CallR X (.builtin id) r) (ho : CallD X.K r f) (hg : Gl X x) (hm : X.mg x = none) (hv : bootBuiltins x = some (.builtin id)) (ha : AA X W (e :: es) m) (hn : x ≠ "__name__" := by decide) (hdb : (x == ("__debug__" : Str)) = false := by decide)
    (he : starEach (e :: es) X.env = (false, eval e X.env) :: starEach es X.env := by rfl) (hpl : (backTo pos (starEach es X.env)).any (·.1) = false := by rfl) : AD X W (.Call (.Name x p) (e :: es) [] pos) (mCallD f m) := by
  obtain ⟨ta, pa, sa⟩ := ha
  refine ⟨_, pe_callB hc hg hm hv pa hn hdb he hpl, fun w σ E Q k po => sa.run k po back_D fun as E1 w1 k1 s1 po1 vs h1 => ?_⟩
  obtain ⟨z, hz, q⟩ := po1.lift
  cases ea : argsD as with
  | none => rw [ea] at hz; cases hz
  | some xs =>
    rw [ea] at hz
    exact ho w1 vs xs z Q k1.sub (h1.data ea) hz fun I' H' v g hv => q ⟨I', H', w1.FP⟩ (k1.gr g) g.stp v hv
theorem ad_callTy {r : List V → Hp → VK → Prop} {f : List D → Option D} (hc : CallR X (.type T) r) (ho : CallD X.K r f) (hg : Gl X x) (hm : X.mg x = none) (hv : bootBuiltins x = some (.type T)) (ha : AA X W (e :: es) m) (hn : x ≠ "__name__" := by decide) (hdb : (x == ("__debug__" : Str)) = false := by decide)
    (he : starEach (e :: es) X.env = (false, eval e X.env) :: starEach es X.env := by rfl) (hpl : (backTo pos (starEach es X.env)).any (·.1) = false := by rfl) : AD X W (.Call (.Name x p) (e :: es) [] pos) (mCallD f m) := by
  obtain ⟨ta, pa, sa⟩ := ha
  refine ⟨_, pe_callTy hc hg hm hv pa hn hdb he hpl, fun w σ E Q k po => sa.run k po back_D fun as E1 w1 k1 s1 po1 vs h1 => ?_⟩
  obtain ⟨z, hz, q⟩ := po1.lift
  cases ea : argsD as with
  | none => rw [ea] at hz; cases hz
  | some xs =>
    rw [ea] at hz
    exact ho w1 vs xs z Q k1.sub (h1.data ea) hz fun I' H' v g hv => q ⟨I', H', w1.FP⟩ (k1.gr g) g.stp v hv
end

/-! ### +, * -/
def catL : D → D → Option (List D)
  | .list xs, .list ys => if xs.length + ys.length ≤ 16777216 then some (xs ++ ys) else none
  | _, _ => none
def repL : D → D → Option (List D)
  | .list xs, .int k => if -(2 ^ 63) ≤ k ∧ k < 2 ^ 63 ∧ xs.length * k.toNat ≤ 16777216 then some (List.replicate k.toNat xs).flatten else none
  | _, _ => none
def pAdd : D → D → Option D
  | .int i, .int j => some (.int (i + j))
  | .list xs, .list ys => if xs.length + ys.length ≤ 16777216 then some (.list (xs ++ ys)) else none
  | .str a, .str b => if a.length + b.length ≤ 16777216 then some (.str (a ++ b)) else none
  | .tuple (x :: xs), .tuple ys => if xs.length + 1 + ys.length ≤ 16777216 then some (.tuple (x :: xs ++ ys)) else none
  | _, _ => none
def pMul : D → D → Option D
  | .int i, .int j => if (-(2 ^ 64) < i ∧ i < 2 ^ 64) ∨ (-(2 ^ 64) < j ∧ j < 2 ^ 64) then some (.int (i * j)) else none
  | .list xs, .int k => if -(2 ^ 63) ≤ k ∧ k < 2 ^ 63 ∧ xs.length * k.toNat ≤ 16777216 then some (.list (List.replicate k.toNat xs).flatten) else none
  | _, _ => none
def rAdd4 (K : Frag) : R2 := fun x y H Q => rI0 (fun i j => .int (i + j)) x y H Q ∨ (rCat x y H Q ∨ ((∃ i j, x = .str i ∧ y = .str j ∧ i.length + j.length ≤ sizeLine ∧ Q (.str (i ++ j)) H) ∨ rCatT K x y H Q))
def rMul2 : R2 := fun x y H Q => rI CMul (fun i j => .int (i * j)) x y H Q ∨ rRep x y H Q
section
variable {X : Cx} {K : Frag}
theorem or_add : OpR X (binaryOp .Add) (rAdd4 X.K) := OpR.or op_add (OpR.or op_cat (OpR.or op_add_str op_catT))
theorem or_mul : OpR X (binaryOp .Mult) rMul2 := OpR.or op_mul op_rep
theorem dps_len0 {I : Hp} {vs : List V} {ds : List D} (h : DqAll K I vs ds) : (vs = [] ↔ ds = []) := by
  cases h with
  | nil => simp
  | cons _ _ => simp
theorem od_add : OpD K (rAdd4 K) pAdd := by
  intro w x y dx dy d Q s hx hy e q
  unfold pAdd at e
  split at e
  · cases e
    exact .inl ⟨_, _, dp_int hx, dp_int hy, q _ _ _ (Gr.refl s) (.int _)⟩
  · split at e
    · next hl =>
      cases e
      obtain ⟨a, us, rfl, h1, h2⟩ := dp_list hx
      obtain ⟨b, vs, rfl, h3, h4⟩ := dp_list hy
      refine .inr (.inl ⟨a, b, us, vs, rfl, rfl, s _ _ h1, s _ _ h3, by rw [dps_length h2, dps_length h4]; exact hl, fun p hp => ?_⟩)
      have g := Gr.new s (.lst (us ++ vs)) hp
      exact q _ _ _ g (.lst upd_same (dps_mono g.ii _ _ (dps_app h2 h4)))
    · cases e
  · split at e
    · next hl =>
      cases e
      exact .inr (.inr (.inl ⟨_, _, dp_str hx, dp_str hy, hl, q _ _ _ (Gr.refl s) (.str _)⟩))
    · cases e
  · split at e
    · next hl =>
      cases e
      obtain ⟨a, us, rfl, h1, h2⟩ := dp_tup hx
      obtain ⟨b, vs, rfl, h3, h4⟩ := dp_tup hy
      refine .inr (.inr (.inr ⟨a, b, us, vs, rfl, rfl, sqT_mono s h1, sqT_mono s h3, fun z => ?_, by rw [dps_length h2, dps_length h4]; exact hl, fun z => ?_, fun z p hp => ?_⟩))
      · have := (dps_len0 h2).mp z
        cases this
      · have e0 := (dps_len0 h4).mp z
        subst e0
        rw [List.append_nil] at q
        exact q _ _ _ (Gr.refl s) (.tup h1 h2)
      · have g := Gr.new s (.tup (us ++ vs)) hp
        exact q _ _ _ g (.tup (SqT.of upd_same) (dps_mono g.ii _ _ (dps_app h2 h4)))
    · cases e
  · cases e
theorem od_mul : OpD K rMul2 pMul := by
  intro w x y dx dy d Q s hx hy e q
  unfold pMul at e
  split at e
  · split at e
    · next hc =>
      cases e
      exact .inl ⟨_, _, dp_int hx, dp_int hy, hc, q _ _ _ (Gr.refl s) (.int _)⟩
    · cases e
  · next zs kz =>
    split at e
    · next hc =>
      cases e
      obtain ⟨a, us, rfl, h1, h2⟩ := dp_list hx
      refine .inr ⟨a, _, us, rfl, dp_int hy, s _ _ h1, hc.1, hc.2.1, by rw [dps_length h2]; exact hc.2.2, fun p hp => ?_⟩
      have g := Gr.new s (.lst (List.replicate kz.toNat us).flatten) hp
      exact q _ _ _ g (.lst upd_same (dps_mono g.ii _ _ (dps_rep h2 _)))
    · cases e
  · cases e
theorem ol_cat : OpL K (rAdd4 K) catL := by
  intro w x y dx dy ds Q s hx hy e q
  unfold catL at e
  split at e
  · split at e
    · next hl =>
      cases e
      obtain ⟨a, us, rfl, h1, h2⟩ := dp_list hx
      obtain ⟨b, vs, rfl, h3, h4⟩ := dp_list hy
      exact .inr (.inl ⟨a, b, us, vs, rfl, rfl, s _ _ h1, s _ _ h3, by rw [dps_length h2, dps_length h4]; exact hl, fun p hp => q p _ hp (dps_app h2 h4)⟩)
    · cases e
  · cases e
theorem ol_rep : OpL K rMul2 repL := by
  intro w x y dx dy ds Q s hx hy e q
  unfold repL at e
  split at e
  · split at e
    · next hc =>
      cases e
      obtain ⟨a, us, rfl, h1, h2⟩ := dp_list hx
      exact .inr ⟨a, _, us, rfl, dp_int hy, s _ _ h1, hc.1, hc.2.1, by rw [dps_length h2]; exact hc.2.2, fun p hp => q p _ hp (dps_rep h2 _)⟩
    · cases e
  · cases e
end

/-! ### built-ins -/
def cLen : List D → Option D
  | [.list xs] => some (.int xs.length)
  | [.tuple xs] => some (.int xs.length)
  | [.str z] => if z.length ≤ 16777216 then some (.int z.length) else none
  | _ => none
def rLen3 (K : Frag) : List V → Hp → VK → Prop := fun xs H Q => (∃ p ys, xs = [.ref p] ∧ (SqL K H p ys ∨ SqT K H p ys) ∧ Q (.int ys.length) H) ∨ (∃ z, xs = [.str z] ∧ z.length ≤ sizeLine ∧ Q (.int z.length) H)
def cAbs : List D → Option D
  | [.int i] => some (.int (if i < 0 then -i else i))
  | _ => none
def cMax2 : List D → Option D
  | [.int i, .int j] => some (.int (if j > i then j else i))
  | _ => none
def cMin2 : List D → Option D
  | [.int i, .int j] => some (.int (if j < i then j else i))
  | _ => none
def cInt : List D → Option D
  | [.int i] => some (.int i)
  | [.bool k] => some (.int (if k then 1 else 0))
  | _ => none
def cSum : List D → Option D
  | [.list xs] => (intsD xs).map fun ns => .int ns.sum
  | _ => none
def cAll : List D → Option D
  | [.list xs] => (boolsD xs).map fun bs => .bool (bs.all id)
  | _ => none
def cAny : List D → Option D
  | [.list xs] => (boolsD xs).map fun bs => .bool (bs.any id)
  | _ => none
def insI (x : Int) : List Int → List Int
  | [] => [x]
  | y :: ys => if x ≤ y then x :: y :: ys else y :: insI x ys
def sortI : List Int → List Int
  | [] => []
  | x :: xs => insI x (sortI xs)
def cSorted : List D → Option (List D)
  | [.list xs] => (intsD xs).map fun ns => (sortI ns).map .int
  | [.tuple xs] => (intsD xs).map fun ns => (sortI ns).map .int
  | _ => none
def cList : List D → Option (List D)
  | [.list xs] => some xs
  | [.tuple xs] => some xs
  | _ => none
def cTuple : List D → Option D
  | [.list xs] => some (.tuple xs)
  | [.tuple xs] => some (.tuple xs)
  | _ => none
theorem insI_perm (x : Int) : ∀ l : List Int, (insI x l).Perm (x :: l)
  | [] => List.Perm.refl _
  | y :: ys => by
    show (if x ≤ y then x :: y :: ys else y :: insI x ys).Perm (x :: y :: ys)
    split
    · exact List.Perm.refl _
    · exact (List.Perm.cons y (insI_perm x ys)).trans (List.Perm.swap x y ys)
theorem sortI_perm : ∀ l : List Int, (sortI l).Perm l
  | [] => List.Perm.refl _
  | x :: xs => (insI_perm x _).trans (List.Perm.cons x (sortI_perm xs))
theorem insI_pw (x : Int) : ∀ l : List Int, l.Pairwise (· ≤ ·) → (insI x l).Pairwise (· ≤ ·)
  | [], _ => by simp [insI]
  | y :: ys, h => by
    have h' := List.pairwise_cons.mp h
    show (if x ≤ y then x :: y :: ys else y :: insI x ys).Pairwise (· ≤ ·)
    split
    · next c =>
      refine List.pairwise_cons.mpr ⟨fun z m => ?_, h⟩
      rcases List.mem_cons.mp m with e | m
      · omega
      · exact Int.le_trans c (h'.1 z m)
    · next c =>
      refine List.pairwise_cons.mpr ⟨fun z m => ?_, insI_pw x ys h'.2⟩
      rcases List.mem_cons.mp ((insI_perm x ys).mem_iff.mp m) with e | m
      · omega
      · exact h'.1 z m
theorem sortI_pw : ∀ l : List Int, (sortI l).Pairwise (· ≤ ·)
  | [] => List.Pairwise.nil
  | x :: xs => insI_pw x _ (sortI_pw xs)
theorem sort_one : ∀ {a b : List Int}, a.Perm b → a.Pairwise (· ≤ ·) → b.Pairwise (· ≤ ·) → a = b
  | [], b, p, _, _ => by rw [List.nil_perm.mp p]
  | x :: xs, [], p, _, _ => by cases List.perm_nil.mp p
  | x :: xs, y :: ys, p, h1, h2 => by
    have g1 := List.pairwise_cons.mp h1
    have g2 := List.pairwise_cons.mp h2
    have e : x = y := by
      have m1 : x ∈ y :: ys := p.mem_iff.mp List.mem_cons_self
      have m2 : y ∈ x :: xs := p.mem_iff.mpr List.mem_cons_self
      rcases List.mem_cons.mp m1 with e | m1
      · exact e
      · rcases List.mem_cons.mp m2 with e | m2
        · exact e.symm
        · exact Int.le_antisymm (g1.1 y m2) (g2.1 x m1)
    subst e
    rw [sort_one (List.Perm.cons_inv p) g1.2 g2.2]
section
variable {X : Cx} {K : Frag}
theorem cr_len : CallR X (.builtin "len") (rLen3 X.K) := CallR.or call_len_seq call_len_str
theorem dps1 {I : Hp} {vs : List V} {d : D} (h : DqAll K I vs [d]) : ∃ v, vs = [v] ∧ Dq K I v d := by
  cases h with
  | cons h1 h2 => cases h2; exact ⟨_, rfl, h1⟩
theorem dps2 {I : Hp} {vs : List V} {d e : D} (h : DqAll K I vs [d, e]) : ∃ v u, vs = [v, u] ∧ Dq K I v d ∧ Dq K I u e := by
  cases h with
  | cons h1 h2 =>
    obtain ⟨u, rfl, h3⟩ := dps1 h2
    exact ⟨_, u, rfl, h1, h3⟩
theorem cd_len : CallD K (rLen3 K) cLen := by
  intro w vs xs d Q s hx e q
  unfold cLen at e
  split at e
  · cases e
    obtain ⟨v, rfl, h⟩ := dps1 hx
    obtain ⟨a, us, rfl, h1, h2⟩ := dp_list h
    refine .inl ⟨a, us, rfl, .inl (SqL.of (s _ _ h1)), ?_⟩
    rw [dps_length h2]
    exact q _ _ _ (Gr.refl s) (.int _)
  · cases e
    obtain ⟨v, rfl, h⟩ := dps1 hx
    obtain ⟨a, us, rfl, h1, h2⟩ := dp_tup h
    refine .inl ⟨a, us, rfl, .inr (sqT_mono s h1), ?_⟩
    rw [dps_length h2]
    exact q _ _ _ (Gr.refl s) (.int _)
  · split at e
    · next hl =>
      cases e
      obtain ⟨v, rfl, h⟩ := dps1 hx
      exact .inr ⟨_, by rw [dp_str h], hl, q _ _ _ (Gr.refl s) (.int _)⟩
    · cases e
  · cases e
theorem cd_abs : CallD K (fun xs H Q => ∃ i, xs = [.int i] ∧ Q (.int (if i < 0 then -i else i)) H) cAbs := by
  intro w vs xs d Q s hx e q
  unfold cAbs at e
  split at e
  · cases e
    obtain ⟨v, rfl, h⟩ := dps1 hx
    exact ⟨_, by rw [dp_int h], q _ _ _ (Gr.refl s) (.int _)⟩
  · cases e
theorem cd_max2 : CallD K (fun xs H Q => ∃ i j, xs = [.int i, .int j] ∧ Q (.int (if j > i then j else i)) H) cMax2 := by
  intro w vs xs d Q s hx e q
  unfold cMax2 at e
  split at e
  · cases e
    obtain ⟨v, u, rfl, h, h'⟩ := dps2 hx
    exact ⟨_, _, by rw [dp_int h, dp_int h'], q _ _ _ (Gr.refl s) (.int _)⟩
  · cases e
theorem cd_min2 : CallD K (fun xs H Q => ∃ i j, xs = [.int i, .int j] ∧ Q (.int (if j < i then j else i)) H) cMin2 := by
  intro w vs xs d Q s hx e q
  unfold cMin2 at e
  split at e
  · cases e
    obtain ⟨v, u, rfl, h, h'⟩ := dps2 hx
    exact ⟨_, _, by rw [dp_int h, dp_int h'], q _ _ _ (Gr.refl s) (.int _)⟩
  · cases e
theorem cd_int : CallD K (fun xs H Q => (∃ i, xs = [.int i] ∧ Q (.int i) H) ∨ ∃ k, xs = [.bl k] ∧ Q (.int (if k then 1 else 0)) H) cInt := by
  intro w vs xs d Q s hx e q
  unfold cInt at e
  split at e
  · cases e
    obtain ⟨v, rfl, h⟩ := dps1 hx
    exact .inl ⟨_, by rw [dp_int h], q _ _ _ (Gr.refl s) (.int _)⟩
  · cases e
    obtain ⟨v, rfl, h⟩ := dps1 hx
    exact .inr ⟨_, by rw [dp_bool h], q _ _ _ (Gr.refl s) (.int _)⟩
  · cases e
theorem cd_sum : CallD K (rSum K) cSum := by
  intro w vs xs d Q s hx e q
  unfold cSum at e
  split at e
  · next ds =>
    cases z : intsD ds with
    | none => rw [z] at e; cases e
    | some ns =>
      rw [z] at e
      cases e
      obtain ⟨v, rfl, h⟩ := dps1 hx
      obtain ⟨a, us, rfl, h1, h2⟩ := dp_list h
      obtain ⟨e1, _⟩ := dps_of_ints h2 z
      exact ⟨a, ns, rfl, SqL.of (e1 ▸ s _ _ h1), q _ _ _ (Gr.refl s) (.int _)⟩
  · cases e
theorem cd_all : CallD K (rAll K) cAll := by
  intro w vs xs d Q s hx e q
  unfold cAll at e
  split at e
  · next ds =>
    cases z : boolsD ds with
    | none => rw [z] at e; cases e
    | some ns =>
      rw [z] at e
      cases e
      obtain ⟨v, rfl, h⟩ := dps1 hx
      obtain ⟨a, us, rfl, h1, h2⟩ := dp_list h
      obtain ⟨e1, _⟩ := dps_of_bools h2 z
      exact ⟨a, ns, rfl, SqL.of (e1 ▸ s _ _ h1), q _ _ _ (Gr.refl s) (.bl _)⟩
  · cases e
theorem cd_any : CallD K (rAny K) cAny := by
  intro w vs xs d Q s hx e q
  unfold cAny at e
  split at e
  · next ds =>
    cases z : boolsD ds with
    | none => rw [z] at e; cases e
    | some ns =>
      rw [z] at e
      cases e
      obtain ⟨v, rfl, h⟩ := dps1 hx
      obtain ⟨a, us, rfl, h1, h2⟩ := dp_list h
      obtain ⟨e1, _⟩ := dps_of_bools h2 z
      exact ⟨a, ns, rfl, SqL.of (e1 ▸ s _ _ h1), q _ _ _ (Gr.refl s) (.bl _)⟩
  · cases e
theorem cl_sorted : CallL K (rSorted2 K) cSorted := by
  have key : ∀ (w : Wd) (ns ds : List Int) (Q : VK), NewL K w ((sortI ns).map .int) Q → ∀ ns' p, List.Perm ns' ns → ns'.Pairwise (· ≤ ·) → w.H p = none → Q (.ref p) (upd w.H p (.lst (ns'.map V.int))) := by
    intro w ns _ Q q ns' p hp hs hn
    have e : ns' = sortI ns := sort_one (hp.trans (sortI_perm ns).symm) hs (sortI_pw ns)
    rw [e]
    exact q p _ hn (dps_ints _)
  intro w vs xs ds Q s hx e q
  unfold cSorted at e
  split at e
  · next zs =>
    cases z : intsD zs with
    | none => rw [z] at e; cases e
    | some ns =>
      rw [z] at e
      cases e
      obtain ⟨v, rfl, h⟩ := dps1 hx
      obtain ⟨a, us, rfl, h1, h2⟩ := dp_list h
      obtain ⟨e1, _⟩ := dps_of_ints h2 z
      subst e1
      exact .inl ⟨a, ns, rfl, SqL.of (s _ _ h1), key w ns [] Q q⟩
  · next zs =>
    cases z : intsD zs with
    | none => rw [z] at e; cases e
    | some ns =>
      rw [z] at e
      cases e
      obtain ⟨v, rfl, h⟩ := dps1 hx
      obtain ⟨a, us, rfl, h1, h2⟩ := dp_tup h
      obtain ⟨e1, _⟩ := dps_of_ints h2 z
      subst e1
      exact .inr ⟨a, ns, rfl, sqT_mono s h1, key w ns [] Q q⟩
  · cases e
theorem cl_list : CallL K (fun xs H Q => ∃ p ys, xs = [.ref p] ∧ (SqL K H p ys ∨ SqT K H p ys) ∧ ∀ l, H l = none → Q (.ref l) (upd H l (.lst ys))) cList := by
  intro w vs xs ds Q s hx e q
  unfold cList at e
  split at e
  · cases e
    obtain ⟨v, rfl, h⟩ := dps1 hx
    obtain ⟨a, us, rfl, h1, h2⟩ := dp_list h
    exact ⟨a, us, rfl, .inl (SqL.of (s _ _ h1)), fun l hl => q l us hl h2⟩
  · cases e
    obtain ⟨v, rfl, h⟩ := dps1 hx
    obtain ⟨a, us, rfl, h1, h2⟩ := dp_tup h
    exact ⟨a, us, rfl, .inr (sqT_mono s h1), fun l hl => q l us hl h2⟩
  · cases e
theorem cd_tuple : CallD K (fun xs H Q => ∃ p ys, xs = [.ref p] ∧ ((SqL K H p ys ∧ ∀ l, H l = none → Q (.ref l) (upd H l (.tup ys))) ∨ (SqT K H p ys ∧ Q (.ref p) H))) cTuple := by
  intro w vs xs d Q s hx e q
  unfold cTuple at e
  split at e
  · cases e
    obtain ⟨v, rfl, h⟩ := dps1 hx
    obtain ⟨a, us, rfl, h1, h2⟩ := dp_list h
    refine ⟨a, us, rfl, .inl ⟨SqL.of (s _ _ h1), fun l hl => ?_⟩⟩
    obtain ⟨g, hh⟩ := new_tup s hl h2
    exact q _ _ _ g hh
  · cases e
    obtain ⟨v, rfl, h⟩ := dps1 hx
    obtain ⟨a, us, rfl, h1, h2⟩ := dp_tup h
    exact ⟨a, us, rfl, .inr ⟨sqT_mono s h1, q _ _ _ (Gr.refl s) (.tup h1 h2)⟩⟩
  · cases e
end
end Lf
set_option Elab.async false
set_option linter.all false
set_option maxRecDepth 100000
set_option maxHeartbeats 4000000
/-! The lifting layer: cells of one's own, read and written. -/
namespace Lf
open PySem PySem.Spec PyProof.Rows L2

/-! ### slices -/
def cutL {α : Type} (xs : List α) (lo hi : Option Int) : List α := (xs.drop (HT.sIx xs.length 0 lo)).take (HT.sIx xs.length xs.length hi - HT.sIx xs.length 0 lo)
def pSl : D → Option Int → Option Int → Option D
  | .list xs, lo, hi => some (.list (cutL xs lo hi))
  | .tuple xs, lo, hi => if HT.sIx xs.length 0 lo = 0 ∧ HT.sIx xs.length xs.length hi = xs.length then some (.tuple xs) else some (.tuple (cutL xs lo hi))
  | .str z, lo, hi => if z.length ≤ 16777216 then some (.str (cutS z lo hi)) else none
  | _, _, _ => none
def mNoPart : M (Option Int) := fun E => .ok none E
def mPart (m : M D) : M (Option Int) := fun E => (m E).bind fun d E1 => match d with
  | .int i => .ok (some i) E1
  | _ => .no
def mSl (m : M D) (ml mh : M (Option Int)) : M D := fun E => (m E).bind fun x E1 => (ml E1).bind fun lo E2 => (mh E2).bind fun hi E3 => lift (pSl x lo hi) E3
def RP (_ : L2.St) (Q : Option Int → Hp → Prop) : Wd → Wd → Option Int → Prop := fun _ w' o => Q o w'.H
theorem back_P {σ : L2.St} {Q : Option Int → Hp → Prop} : Back (RP σ Q) := fun _ _ _ _ _ h => h
def AP (X : Cx) (W : WX) (e : Option Expr) (m : M (Option Int)) : Prop := ∃ tp : TO, PO X e tp ∧ Sn X.K X.mg W RP tp m
def rSl3 (K : Frag) : V → Option Int → Option Int → Hp → VK → Prop := fun x lo hi H Q => rSlL K x lo hi H Q ∨ (rSlA K x lo hi H Q ∨ rSlS x lo hi H Q)
section
variable {X : Cx} {W : WX} {e : Expr} {lo hi : Option Expr} {pos p2 : Pos} {ma : M D} {ml mh : M (Option Int)}
theorem ap_none : AP X W none mNoPart := ⟨_, po_none, fun w σ E Q k po => po w k (Stp.refl _)⟩
theorem ap_some (h : AD X W e ma) : AP X W (some e) (mPart ma) := by
  obtain ⟨te, p, s⟩ := h
  refine ⟨_, po_some p, fun w σ E Q k po => s.run k po back_P fun d E1 w1 k1 s1 po1 v h1 => ?_⟩
  cases d with
  | int i => exact ⟨i, dp_int h1, po1 w1 k1 (Stp.refl _)⟩
  | _ => exact po1.elim
theorem sl3_ok : SlR X (rSl3 X.K) := SlR.or sl_list (SlR.or sl_tupA sl_str)
theorem ad_sl (he : AD X W e ma) (hl : AP X W lo ml) (hh : AP X W hi mh) : AD X W (.Subscript e (.Slice lo hi none p2) pos) (mSl ma ml mh) := by
  obtain ⟨te, p, s⟩ := he
  obtain ⟨tl, pl, sl⟩ := hl
  obtain ⟨th, ph, sh⟩ := hh
  refine ⟨_, pe_slice sl3_ok p pl ph, fun w σ E Q k po => s.run k po back_D fun d E1 w1 k1 s1 po1 v h1 => sl.run k1 po1 back_D fun l E2 w2 k2 s2 po2 => sh.run k2 po2 back_D fun u E3 w3 k3 s3 po3 => ?_⟩
  obtain ⟨z, hz, q⟩ := po3.lift
  have hv := dp_mono (s2.trans s3).ii _ _ h1
  unfold pSl at hz
  split at hz
  · cases hz
    obtain ⟨a, vs, rfl, g1, g2⟩ := dp_list hv
    refine .inl ⟨a, vs, rfl, SqL.of (k3.sub _ _ g1), fun pp hp => ?_⟩
    have g := Gr.new k3.sub (.lst (cutV vs l u)) hp
    refine q ⟨_, _, w3.FP⟩ (k3.gr g) g.stp _ (.lst upd_same (dps_mono g.ii _ _ ?_))
    unfold cutV cutL
    rw [dps_length g2]
    exact dps_take _ (dps_drop _ g2)
  · next xs =>
    obtain ⟨a, vs, rfl, g1, g2⟩ := dp_tup hv
    refine .inr (.inl ⟨a, vs, rfl, sqT_mono k3.sub g1, ?_⟩)
    split at hz
    · next c =>
      cases hz
      refine ⟨fun _ => q w3 k3 (Stp.refl _) _ (.tup g1 g2), fun hne => absurd ?_ hne⟩
      rw [dps_length g2]
      exact c
    · next c =>
      cases hz
      refine ⟨fun hw => absurd ?_ c, fun hne pp hp => ?_⟩
      · rw [dps_length g2] at hw
        exact hw
      · have g := Gr.new k3.sub (.tup (cutV vs l u)) hp
        refine q ⟨_, _, w3.FP⟩ (k3.gr g) g.stp _ (.tup (SqT.of upd_same) (dps_mono g.ii _ _ ?_))
        unfold cutV cutL
        rw [dps_length g2]
        exact dps_take _ (dps_drop _ g2)
  · split at hz
    · next hl =>
      cases hz
      exact .inr (.inr ⟨_, dp_str hv, hl, q w3 k3 (Stp.refl _) _ (.str _)⟩)
    · cases hz
  · cases hz
/-- xs[::-1] -/
def pRev : D → Option D
  | .list xs => some (.list xs.reverse)
  | _ => none
theorem ad_rev {k : Nat} {p1 p3 p4 : Pos} (he : AD X W e ma) : AD X W (.Subscript e (.Slice none none (some (.UnaryOp .USub (.Constant (.int 1) k p1) p3)) p4) pos) (m1 pRev ma) := by
  obtain ⟨te, p, s⟩ := he
  refine ⟨_, pe_revL p, fun w σ E Q k po => s.run k po back_D fun d E1 w1 k1 s1 po1 v h1 => ?_⟩
  obtain ⟨z, hz, q⟩ := po1.lift
  unfold pRev at hz
  split at hz
  · cases hz
    obtain ⟨a, vs, rfl, g1, g2⟩ := dp_list h1
    refine ⟨a, vs, rfl, SqL.of (k1.sub _ _ g1), fun pp hp => ?_⟩
    have g := Gr.new k1.sub (.lst vs.reverse) hp
    exact q ⟨_, _, w1.FP⟩ (k1.gr g) g.stp _ (.lst upd_same (dps_mono g.ii _ _ (dps_rev g2)))
  · cases hz
end

/-! ### an expression that sees no cells: what it makes may be kept -/
def hideE (E : En) : En := E.map fun e => match e with
  | some (.dt d) => some (.dt d)
  | _ => none
def mHide (m : M D) : M D := fun E => match m (hideE E) with
  | .ok d _ => .ok d E
  | _ => .no
theorem EO.hide {K : Frag} {mg : Str → Option Value} {I H : Hp} : ∀ {σ : L2.St} {E : En} {FP : List Addr}, EO K mg I H σ E FP → EO K mg I H σ (hideE E) []
  | _, _, _, .nil => .nil
  | _, _, _, @EO.cons _ _ _ _ s σ e E fp FP h hs => by
    have r := EO.hide hs
    cases h with
    | un => exact .cons (fp := []) .un r
    | @ow v o _ h =>
      cases o with
      | dt d =>
        cases h with
        | dt h => exact .cons (fp := []) (.ow (.dt h)) r
      | _ => exact .cons (fp := []) .un r
/-- the world of a pure reading: nothing that stands changes -/
structure Pure (w w' : Wd) : Prop where
  ii : Same w.I w'.I
  hh : Same w.H w'.H
  nw : ∀ a o, w.H a = some o → w.I a = none → w'.I a = none
  fp : w'.FP = w.FP
theorem Pure.refl (w : Wd) : Pure w w := ⟨Same.refl _, Same.refl _, fun _ _ _ h => h, rfl⟩
theorem Pure.trans {w w1 w2 : Wd} (a : Pure w w1) (b : Pure w1 w2) : Pure w w2 := ⟨a.ii.trans b.ii, a.hh.trans b.hh, fun x o h i => b.nw x o (a.hh _ _ h) (a.nw x o h i), b.fp.trans a.fp⟩
theorem Pure.stp {w w' : Wd} (p : Pure w w') : Stp w w' := ⟨p.ii, fun a o _ h => p.hh a o h, fun a o _ h i => p.nw a o h i, fun a m => .inl (by rw [p.fp] at m; exact m)⟩
theorem Gr.pure {w : Wd} {I' H' : Hp} (g : Gr w I' H') : Pure w ⟨I', H', w.FP⟩ := ⟨g.ii, g.hh, g.nw, rfl⟩
theorem Ok.pure {K : Frag} {mg : Str → Option Value} {w w' : Wd} {σ : L2.St} {E : En} (k : Ok K mg w σ E) (p : Pure w w') (s : Same w'.I w'.H) : Ok K mg w' σ E := ⟨s, by
  rw [p.fp]
  exact k.env.mono p.ii fun a m => by
    obtain ⟨n, u, hu⟩ := k.env.there a m
    exact ⟨(p.hh a u hu).trans hu.symm, p.nw a u hu n⟩, by rw [p.fp]; exact k.nd⟩
/-- a pure reading: the slots stay, nothing that stands changes -/
def APu (X : Cx) (e : Expr) (f : En → Option D) : Prop := ∃ te : TE, PE X e te ∧ ∀ w σ E Q, Ok X.K X.mg w σ E → ∀ d, f E = some d → (∀ w' v, Ok X.K X.mg w' σ E → Pure w w' → Dq X.K w'.I v d → Q v w'.H) → te σ w.H Q
def uEye (m : M D) (E : En) : Option D := match m (frzE E) with
  | .ok d _ => if scalD d then some d else none
  | _ => none
def uHide (m : M D) (E : En) : Option D := match m (hideE E) with
  | .ok d _ => some d
  | _ => none
section
variable {X : Cx} {W : WX} {e : Expr} {ma : M D}
theorem pu_eye (h : AD X W e ma) : APu X e (uEye ma) := by
  obtain ⟨te, p, s⟩ := h
  refine ⟨te, p, fun w σ E Q k d hd po => ?_⟩
  refine s ⟨Lf.frz w.I w.H w.FP, w.H, []⟩ σ (frzE E) Q k.frz ?_
  unfold uEye at hd
  cases e : ma (frzE E) with
  | ok d' E1 =>
    rw [e] at hd
    simp only at hd
    split at hd
    · next q =>
      cases hd
      intro w' k' s' v hv
      obtain ⟨k2, s2⟩ := k.thaw s' k'.sub
      exact po ⟨w.I, w'.H, w.FP⟩ v k2 ⟨Same.refl _, fun a o h => s'.fr a o (by intro m; cases m) h, fun _ _ _ h => h, rfl⟩ (dp_scal hv q)
    · cases hd
  | exc c fs E1 => rw [e] at hd; cases hd
  | no => rw [e] at hd; cases hd
theorem pu_hide (h : AD X W e ma) : APu X e (uHide ma) := by
  obtain ⟨te, p, s⟩ := h
  refine ⟨te, p, fun w σ E Q k d hd po => ?_⟩
  refine s ⟨w.I, w.H, []⟩ σ (hideE E) Q ⟨k.sub, k.env.hide, List.nodup_nil⟩ ?_
  unfold uHide at hd
  cases e : ma (hideE E) with
  | ok d' E1 =>
    rw [e] at hd
    cases hd
    intro w' k' s' v hv
    have pp : Pure w ⟨w'.I, w'.H, w.FP⟩ := ⟨s'.ii, fun a o h => s'.fr a o (by intro m; cases m) h, fun a o h i => s'.nw a o (by intro m; cases m) h i, rfl⟩
    exact po ⟨w'.I, w'.H, w.FP⟩ v (k.pure pp k'.sub) pp hv
  | exc c fs E1 => rw [e] at hd; cases hd
  | no => rw [e] at hd; cases hd
def mPu (f : En → Option D) : M D := fun E => lift (f E) E
theorem ad_pu {f : En → Option D} (h : APu X e f) : AD X W e (mPu f) := by
  obtain ⟨te, p, s⟩ := h
  refine ⟨te, p, fun w σ E Q k po => ?_⟩
  obtain ⟨d, hd, q⟩ := po.lift
  exact s w σ E Q k d hd fun w' v k' pp hv => q w' k' pp.stp v hv
end

/-! ### a place in a tree -/
inductive PSt where
  | ix (j : Nat) | fld (f : Str)
def fGet (f : Str) : List (Str × O) → Option O
  | [] => none
  | (g, o) :: r => if f = g then some o else fGet f r
def fPut (f : Str) (x : O) : List (Str × O) → List (Str × O)
  | [] => []
  | (g, o) :: r => if f = g then (g, x) :: r else (g, o) :: fPut f x r
def O.get : O → List PSt → Option O
  | o, [] => some o
  | .lst xs, .ix j :: π => match xs[j]? with
    | some o => O.get o π
    | none => none
  | .ins _ fs, .fld f :: π => match fGet f fs with
    | some o => O.get o π
    | none => none
  | _, _ => none
def O.put : O → List PSt → O → O
  | _, [], x => x
  | .lst xs, .ix j :: π, x => match xs[j]? with
    | some o => .lst (xs.set j (O.put o π x))
    | none => .lst xs
  | .ins c fs, .fld f :: π, x => match fGet f fs with
    | some o => .ins c (fPut f (O.put o π x) fs)
    | none => .ins c fs
  | o, _, _ => o
/-- u stands at the place π below v -/
inductive VAt (H : Hp) : V → List PSt → V → Prop
  | nil {v : V} : VAt H v [] v
  | ix {a : Addr} {vs : List V} {j : Nat} {v u : V} {π : List PSt} : H a = some (.lst vs) → vs[j]? = some v → VAt H v π u → VAt H (.ref a) (.ix j :: π) u
  | fld {a C dx : Addr} {fs : List (Str × V)} {f : Str} {v u : V} {π : List PSt} : H a = some (.ins C dx fs) → fs.lookup f = some v → VAt H v π u → VAt H (.ref a) (.fld f :: π) u
section
variable {K : Frag} {mg : Str → Option Value} {I I' H H' : Hp}
theorem ors_at : ∀ {vs : List V} {os : List O} {fp : List Addr} {j : Nat} {o : O}, ORs K mg I H vs os fp → os[j]? = some o →
    ∃ v fpj FR, vs[j]? = some v ∧ OR K mg I H v o fpj ∧ fp.Perm (fpj ++ FR) ∧ ∀ I' H' v' o' fp', Same I I' → (∀ a ∈ FR, H' a = H a ∧ I' a = none) → OR K mg I' H' v' o' fp' → ∃ fq, fq.Perm (fp' ++ FR) ∧ ORs K mg I' H' (vs.set j v') (os.set j o') fq
  | _, _, _, _, _, .nil, h => by simp at h
  | _, _, _, 0, o, @ORs.cons _ _ _ _ v vs o0 os fp fq h hs, e => by
    have e' : o0 = o := Option.some.inj (show some o0 = some o from e)
    subst e'
    exact ⟨v, fp, fq, rfl, h, List.Perm.refl _, fun I' H' v' o' fp' s k h' => ⟨fp' ++ fq, List.Perm.refl _, .cons h' (hs.mono s k)⟩⟩
  | _, _, _, j + 1, o, @ORs.cons _ _ _ _ v0 vs o0 os fp0 fq h hs, e => by
    obtain ⟨v, fpj, FR, h1, h2, h3, h4⟩ := ors_at (j := j) hs (by simpa using e)
    have sw : ∀ (x y : List Addr), (fp0 ++ (x ++ y)).Perm (x ++ (fp0 ++ y)) := fun x y => by
      rw [← List.append_assoc, ← List.append_assoc]
      exact List.Perm.append_right y List.perm_append_comm
    refine ⟨v, fpj, fp0 ++ FR, by simpa using h1, h2, (List.Perm.append_left fp0 h3).trans (sw _ _), fun I' H' v' o' fp' s k h' => ?_⟩
    obtain ⟨fq', p, r⟩ := h4 I' H' v' o' fp' s (fun a m => k a (List.mem_append_right _ m)) h'
    exact ⟨fp0 ++ fq', (List.Perm.append_left fp0 p).trans (sw _ _), .cons (h.mono s fun a m => k a (List.mem_append_left _ m)) r⟩
theorem field_at : ∀ {fs : List (Str × V)} {fos : List (Str × O)} {f : Str} {o : O}, fs.map (·.1) = fos.map (·.1) → fGet f fos = some o →
    ∃ j v, fs.lookup f = (fs.map (·.2))[j]? ∧ (fos.map (·.2))[j]? = some o ∧ (fs.map (·.2))[j]? = some v ∧ (∀ x : O, (fPut f x fos).map (·.2) = (fos.map (·.2)).set j x ∧ (fPut f x fos).map (·.1) = fos.map (·.1)) ∧ (∀ x : V, (putF f x fs).map (·.2) = (fs.map (·.2)).set j x ∧ (putF f x fs).map (·.1) = fs.map (·.1))
  | [], [], _, _, _, h => by cases h
  | [], _ :: _, _, _, q, _ => by simp at q
  | _ :: _, [], _, _, q, _ => by simp at q
  | (g, v) :: fs, (g', o') :: fos, f, o, q, h => by
    have q1 : g = g' := by simpa using (List.cons.inj q).1
    have q2 : fs.map (·.1) = fos.map (·.1) := (List.cons.inj q).2
    subst q1
    have h' : (if f = g then some o' else fGet f fos) = some o := h
    by_cases c : f = g
    · rw [if_pos c] at h'
      cases h'
      subst c
      refine ⟨0, v, ?_, rfl, rfl, fun x => ?_, fun x => ?_⟩
      · simp [List.lookup]
      · show (List.map (·.2) (if f = f then (f, x) :: fos else (f, o') :: fPut f x fos) = _) ∧ _ = _
        constructor
        · rw [if_pos rfl] <;> rfl
        · show List.map (·.1) (if f = f then (f, x) :: fos else (f, o') :: fPut f x fos) = _
          rw [if_pos rfl] <;> rfl
      · constructor
        · show List.map (·.2) (if f = f then (f, x) :: fs else (f, v) :: putF f x fs) = _
          rw [if_pos rfl] <;> rfl
        · show List.map (·.1) (if f = f then (f, x) :: fs else (f, v) :: putF f x fs) = _
          rw [if_pos rfl] <;> rfl
    · rw [if_neg c] at h'
      obtain ⟨j, u, a1, a2, a3, a4, a5⟩ := field_at q2 h'
      refine ⟨j + 1, u, ?_, by simpa using a2, by simpa using a3, fun x => ?_, fun x => ?_⟩
      · have cb : (f == g) = false := by simpa using c
        simp only [List.lookup, cb, List.map_cons, List.getElem?_cons_succ]
        exact a1
      · constructor
        · show List.map (·.2) (if f = g then (g, x) :: fos else (g, o') :: fPut f x fos) = _
          rw [if_neg c]
          simp [(a4 x).1]
        · show List.map (·.1) (if f = g then (g, x) :: fos else (g, o') :: fPut f x fos) = _
          rw [if_neg c]
          simp [(a4 x).2]
      · constructor
        · show List.map (·.2) (if g = f then (g, x) :: fs else (g, v) :: putF f x fs) = _
          rw [if_neg (fun e => c e.symm)]
          simp [(a5 x).1]
        · show List.map (·.1) (if g = f then (g, x) :: fs else (g, v) :: putF f x fs) = _
          rw [if_neg (fun e => c e.symm)]
          simp [(a5 x).2]
end
end Lf
set_option Elab.async false
set_option linter.all false
set_option maxRecDepth 100000
set_option maxHeartbeats 4000000
/-! The lifting layer: places, stores, methods that change a list. -/
namespace Lf
open PySem PySem.Spec PyProof.Rows L2

section
variable {K : Frag} {mg : Str → Option Value}
theorem VAt.snoc {H : Hp} {p : PSt} {x y : V} (hxy : VAt H x [p] y) : ∀ {v : V} {π : List PSt}, VAt H v π x → VAt H v (π ++ [p]) y
  | _, _, .nil => hxy
  | _, _, .ix h e r => .ix h e (VAt.snoc hxy r)
  | _, _, .fld h e r => .fld h e (VAt.snoc hxy r)
theorem VAt.mono {H H' : Hp} (s : Same H H') : ∀ {v u : V} {π : List PSt}, VAt H v π u → VAt H' v π u
  | _, _, _, .nil => .nil
  | _, _, _, .ix h e r => .ix (s _ _ h) e (VAt.mono s r)
  | _, _, _, .fld h e r => .fld (s _ _ h) e (VAt.mono s r)
theorem VAt.inj {H : Hp} : ∀ {v u u' : V} {π : List PSt}, VAt H v π u → VAt H v π u' → u = u'
  | _, _, _, _, .nil, .nil => rfl
  | _, _, _, _, .ix h e r, .ix h' e' r' => by
    rw [h] at h'
    cases h'
    rw [e] at e'
    cases e'
    exact VAt.inj r r'
  | _, _, _, _, .fld h e r, .fld h' e' r' => by
    rw [h] at h'
    cases h'
    rw [e] at e'
    cases e'
    exact VAt.inj r r'
/-- the tree's node at a place -/
theorem OR.node {I H : Hp} : ∀ {π : List PSt} {v : V} {o n : O} {fp : List Addr}, OR K mg I H v o fp → o.get π = some n →
    ∃ u fpn FR, VAt H v π u ∧ OR K mg I H u n fpn ∧ fp.Perm (fpn ++ FR) ∧ ∀ I' H' n' fpn', Same I I' → (∀ a ∈ FR, H' a = H a ∧ I' a = none) → OR K mg I' H' u n' fpn' → ∃ fp', fp'.Perm (fpn' ++ FR) ∧ OR K mg I' H' v (o.put π n') fp'
  | [], v, o, n, fp, h, e => by
    have e' : o = n := by
      have q : some o = some n := by
        cases o <;> exact e
      exact Option.some.inj q
    subst e'
    refine ⟨v, fp, [], .nil, h, by simp, fun I' H' n' fpn' s k h' => ⟨fpn', by simp, ?_⟩⟩
    have e2 : o.put [] n' = n' := by cases o <;> rfl
    rw [e2]
    exact h'
  | p :: π, v, o, n, fp, h, e => by
    cases h with
    | dt h => cases p <;> cases e
    | tup _ _ _ => cases p <;> cases e
    | dic _ _ _ _ => cases p <;> cases e
    | dct _ _ _ _ => cases p <;> cases e
    | @lst a vs xs fp0 h1 h2 h3 =>
      cases p with
      | fld f => cases e
      | ix j =>
        have e' : (match xs[j]? with
          | some o => O.get o π
          | none => none) = some n := e
        cases ej : xs[j]? with
        | none => rw [ej] at e'; cases e'
        | some o1 =>
          rw [ej] at e'
          obtain ⟨v1, fpj, FRj, b1, b2, b3, b4⟩ := ors_at h3 ej
          obtain ⟨u, fpn, FR, c1, c2, c3, c4⟩ := OR.node (π := π) b2 e'
          have sw : (a :: (fpn ++ FR ++ FRj)).Perm (fpn ++ (a :: (FR ++ FRj))) := by
            rw [List.append_assoc]
            exact List.perm_middle.symm
          refine ⟨u, fpn, a :: (FR ++ FRj), .ix h1 b1 c1, c2, ((b3.trans (List.Perm.append_right FRj c3)).cons a).trans sw, fun I' H' n' fpn' s k h' => ?_⟩
          obtain ⟨fp1, d1, d2⟩ := c4 I' H' n' fpn' s (fun x m => k x (List.mem_cons_of_mem _ (List.mem_append_left _ m))) h'
          obtain ⟨fq, f1, f2⟩ := b4 I' H' v1 (o1.put π n') fp1 s (fun x m => k x (List.mem_cons_of_mem _ (List.mem_append_right _ m))) d2
          rw [set_self b1] at f2
          refine ⟨a :: fq, ((f1.trans (List.Perm.append_right FRj d1)).cons a).trans ?_, ?_⟩
          · rw [List.append_assoc]
            exact List.perm_middle.symm
          · have ep : (O.lst xs).put (.ix j :: π) n' = .lst (xs.set j (o1.put π n')) := by
              show (match xs[j]? with
                | some o => O.lst (xs.set j (O.put o π n'))
                | none => O.lst xs) = _
              rw [ej]
            rw [ep]
            exact .lst ((k a List.mem_cons_self).1.trans h1) (k a List.mem_cons_self).2 f2
    | @ins a C dx c fs fos fp0 h0 h1 h2 hk h3 =>
      cases p with
      | ix j => cases e
      | fld f =>
        have e' : (match fGet f fos with
          | some o => O.get o π
          | none => none) = some n := e
        cases ej : fGet f fos with
        | none => rw [ej] at e'; cases e'
        | some o1 =>
          rw [ej] at e'
          obtain ⟨j, v0, g1, g2, g3, g4, g5⟩ := field_at hk ej
          obtain ⟨v1, fpj, FRj, b1, b2, b3, b4⟩ := ors_at h3 g2
          obtain ⟨u, fpn, FR, c1, c2, c3, c4⟩ := OR.node (π := π) b2 e'
          have sw : (a :: (fpn ++ FR ++ FRj)).Perm (fpn ++ (a :: (FR ++ FRj))) := by
            rw [List.append_assoc]
            exact List.perm_middle.symm
          refine ⟨u, fpn, a :: (FR ++ FRj), .fld h1 (by rw [g1]; exact b1) c1, c2, ((b3.trans (List.Perm.append_right FRj c3)).cons a).trans sw, fun I' H' n' fpn' s k h' => ?_⟩
          obtain ⟨fp1, d1, d2⟩ := c4 I' H' n' fpn' s (fun x m => k x (List.mem_cons_of_mem _ (List.mem_append_left _ m))) h'
          obtain ⟨fq, f1, f2⟩ := b4 I' H' v1 (o1.put π n') fp1 s (fun x m => k x (List.mem_cons_of_mem _ (List.mem_append_right _ m))) d2
          rw [set_self b1] at f2
          refine ⟨a :: fq, ((f1.trans (List.Perm.append_right FRj d1)).cons a).trans ?_, ?_⟩
          · rw [List.append_assoc]
            exact List.perm_middle.symm
          · have ep : (O.ins c fos).put (.fld f :: π) n' = .ins c (fPut f (o1.put π n') fos) := by
              show (match fGet f fos with
                | some o => O.ins c (fPut f (O.put o π n') fos)
                | none => O.ins c fos) = _
              rw [ej]
            rw [ep]
            refine .ins h0 ((k a List.mem_cons_self).1.trans h1) (k a List.mem_cons_self).2 ?_ ?_
            · rw [(g4 _).2]; exact hk
            · rw [(g4 _).1]; exact f2
/-- a slot's node: what it may become -/
theorem Ok.node {w : Wd} {σ : L2.St} {E : En} {k : Nat} {o n : O} {π : List PSt} (ok : Ok K mg w σ E) (e : E[k]? = some (some o)) (g : o.get π = some n) :
    ∃ v u fpn, σ[k]? = some (some v) ∧ VAt w.H v π u ∧ OR K mg w.I w.H u n fpn ∧ fpn.Nodup ∧ (∀ a ∈ fpn, a ∈ w.FP) ∧
      ∀ (w0 : Wd) (ex : List Addr) (H' : Hp) (n' : O) (fpn' : List Addr), Stp w0 w → (ex ++ w.FP).Nodup → (∀ a ∈ ex, a ∈ w0.FP ∨ w0.H a = none) → (∀ a, a ∉ fpn → H' a = w.H a) → Same w.I H' → OR K mg w.I H' u n' fpn' → fpn'.Nodup → (∀ a ∈ fpn', a ∈ fpn ∨ a ∈ ex) →
        ∃ w', w'.H = H' ∧ w'.I = w.I ∧ Ok K mg w' σ (E.set k (some (o.put π n'))) ∧ Stp w0 w' := by
  have hk : k < E.length := (List.getElem?_eq_some_iff.mp e).1
  obtain ⟨s, e', fp, FR, f1, f2, f3, f4, f5⟩ := ok.env.focus hk
  rw [e] at f2
  cases f2
  cases f3 with
  | @ow v _ _ f3 =>
    obtain ⟨u, fpn, FN, g1, g2, g3, g4⟩ := f3.node g
    have ndF := List.nodup_append.mp (f4.nodup_iff.mp ok.nd)
    have ndN := List.nodup_append.mp (g3.nodup_iff.mp ndF.1)
    have inN : ∀ a ∈ FN, a ∉ fpn := fun a m m' => ndN.2.2 a m' a m rfl
    have inR : ∀ a ∈ FR, a ∉ fpn := fun a m m' => ndF.2.2 a (g3.mem_iff.mpr (List.mem_append_left _ m')) a m rfl
    refine ⟨v, u, fpn, f1, g1, g2, ndN.1, fun a m => f4.mem_iff.mpr (List.mem_append_left _ (g3.mem_iff.mpr (List.mem_append_left _ m))), fun w0 ex H' n' fpn' s0 hex hnew hH hI hn hnd hsub => ?_⟩
    have there := ok.env.there
    have inFP : ∀ a, a ∈ fp ∨ a ∈ FR → a ∈ w.FP := fun a m => f4.mem_iff.mpr (List.mem_append.mpr m)
    obtain ⟨fp', p1, p2⟩ := g4 w.I H' n' fpn' (Same.refl _) (fun a m => ⟨hH a (inN a m), (there a (inFP a (.inl (g3.mem_iff.mpr (List.mem_append_right _ m))))).1⟩) hn
    obtain ⟨FP', p3, p4⟩ := f5 w.I H' (some v) (some (o.put π n')) fp' (Same.refl _) (fun a m => ⟨hH a (inR a m), (there a (inFP a (.inr m))).1⟩) (.ow p2)
    rw [set_self f1] at p4
    have exout : ∀ a ∈ ex, a ∉ w.FP := fun a m m' => (List.nodup_append.mp hex).2.2 a m a m' rfl
    have inP : ∀ a ∈ FP', a ∈ w.FP ∨ a ∈ ex := fun a m => by
      rcases List.mem_append.mp (p3.mem_iff.mp m) with m | m
      · rcases List.mem_append.mp (p1.mem_iff.mp m) with m | m
        · rcases hsub a m with z | z
          · exact .inl (inFP a (.inl (g3.mem_iff.mpr (List.mem_append_left _ z))))
          · exact .inr z
        · exact .inl (inFP a (.inl (g3.mem_iff.mpr (List.mem_append_right _ m))))
      · exact .inl (inFP a (.inr m))
    have nd' : FP'.Nodup := p3.nodup_iff.mpr (by
      refine List.nodup_append.mpr ⟨p1.nodup_iff.mpr (List.nodup_append.mpr ⟨hnd, ndN.2.1, fun a m b m' e => ?_⟩), ndF.2.1, fun a m b m' e => ?_⟩
      · subst e
        rcases hsub a m with z | z
        · exact inN a m' z
        · exact exout a z (inFP a (.inl (g3.mem_iff.mpr (List.mem_append_right _ m'))))
      · subst e
        rcases List.mem_append.mp (p1.mem_iff.mp m) with m | m
        · rcases hsub a m with z | z
          · exact inR a m' z
          · exact exout a z (inFP a (.inr m'))
        · exact ndF.2.2 a (g3.mem_iff.mpr (List.mem_append_right _ m)) a m' rfl)
    have fpsub : ∀ a ∈ fpn, a ∈ w.FP := fun a m => inFP a (.inl (g3.mem_iff.mpr (List.mem_append_left _ m)))
    refine ⟨⟨w.I, H', FP'⟩, rfl, rfl, ⟨hI, p4, nd'⟩, ⟨s0.ii, fun a x n h => ?_, s0.nw, fun a m => ?_⟩⟩
    · show H' a = some x
      rw [hH a fun m => ?_]
      · exact s0.fr a x n h
      · rcases s0.fp a (fpsub a m) with z | z
        · exact n z
        · rw [h] at z; cases z
    · rcases inP a m with z | z
      · exact s0.fp a z
      · exact hnew a z
/-- .. a list cell gets other items -/
theorem Ok.cell {w : Wd} {σ : L2.St} {E : En} {k : Nat} {o : O} {os : List O} {π : List PSt} (ok : Ok K mg w σ E) (e : E[k]? = some (some o)) (g : o.get π = some (.lst os)) :
    ∃ v a vs fp, σ[k]? = some (some v) ∧ VAt w.H v π (.ref a) ∧ w.H a = some (.lst vs) ∧ w.I a = none ∧ ORs K mg w.I w.H vs os fp ∧ a ∉ fp ∧ fp.Nodup ∧ a ∈ w.FP ∧ (∀ b ∈ fp, b ∈ w.FP) ∧
      ∀ (w0 : Wd) (ex : List Addr) (vs' : List V) (os' : List O) (fp' : List Addr), Stp w0 w → (ex ++ w.FP).Nodup → (∀ a ∈ ex, a ∈ w0.FP ∨ w0.H a = none) → ORs K mg w.I w.H vs' os' fp' → fp'.Nodup → (∀ b ∈ fp', b ∈ fp ∨ b ∈ ex) →
        ∃ w', w'.H = upd w.H a (.lst vs') ∧ w'.I = w.I ∧ Ok K mg w' σ (E.set k (some (o.put π (.lst os')))) ∧ Stp w0 w' := by
  obtain ⟨v, u, fpn, h1, h2, h3, h4, h5, h6⟩ := ok.node e g
  cases h3 with
  | @lst a vs _ fp g1 g2 g3 =>
    have nd := List.nodup_cons.mp h4
    refine ⟨v, a, vs, fp, h1, h2, g1, g2, g3, nd.1, nd.2, h5 a List.mem_cons_self, fun b m => h5 b (List.mem_cons_of_mem _ m), fun w0 ex vs' os' fp' s0 hex hnew hr hnd hsub => ?_⟩
    have exa : a ∉ ex := fun m => (List.nodup_append.mp hex).2.2 a m a (h5 a List.mem_cons_self) rfl
    have na : ∀ b ∈ fp', b ≠ a := fun b m q => by
      subst q
      rcases hsub b m with z | z
      · exact nd.1 z
      · exact exa z
    refine h6 w0 ex (upd w.H a (.lst vs')) (.lst os') (a :: fp') s0 hex hnew (fun b n => upd_ne fun q => n (by rw [q]; exact List.mem_cons_self)) (fun b x q => ?_)
      (.lst upd_same g2 (hr.mono (Same.refl _) fun b m => ⟨upd_ne (na b m), (hr.there b m).1⟩)) (List.nodup_cons.mpr ⟨fun m => na a m rfl, hnd⟩) fun b m => ?_
    · rw [upd_ne fun z => by rw [z, g2] at q; cases q]
      exact ok.sub b x q
    · rcases List.mem_cons.mp m with z | m
      · exact .inl (by rw [z]; exact List.mem_cons_self)
      · rcases hsub b m with z | z
        · exact .inl (List.mem_cons_of_mem _ z)
        · exact .inr z
theorem ors_len : ∀ {I H : Hp} {vs : List V} {os : List O} {fp : List Addr}, ORs K mg I H vs os fp → vs.length = os.length
  | _, _, _, _, _, .nil => rfl
  | _, _, _, _, _, .cons _ h => by simp [ors_len h]
theorem ors_set {I H : Hp} {vs : List V} {os : List O} {fp : List Addr} {j : Nat} {v : V} {d : D} (h : ORs K mg I H vs os fp) (hj : j < os.length) (hd : Dq K I v d) (nd : fp.Nodup) : ∃ fp', fp'.Nodup ∧ (∀ b ∈ fp', b ∈ fp) ∧ ORs K mg I H (vs.set j v) (os.set j (.dt d)) fp' := by
  obtain ⟨v0, fpj, FR, h1, h2, h3, h4⟩ := ors_at h (show os[j]? = some os[j] by simp [hj])
  obtain ⟨fq, p, r⟩ := h4 I H v (.dt d) [] (Same.refl _) (fun a m => ⟨rfl, (h.there a (h3.mem_iff.mpr (List.mem_append_right _ m))).1⟩) (.dt hd)
  refine ⟨fq, p.nodup_iff.mpr (List.nodup_append.mp (h3.nodup_iff.mp nd)).2.1, fun b m => h3.mem_iff.mpr (List.mem_append_right _ (p.mem_iff.mp m)), r⟩
theorem ors_dropLast {I H : Hp} : ∀ {vs : List V} {os : List O} {fp : List Addr}, ORs K mg I H vs os fp → ∃ fp', fp'.Sublist fp ∧ ORs K mg I H vs.dropLast os.dropLast fp'
  | _, _, _, .nil => ⟨[], List.nil_sublist _, .nil⟩
  | _, _, _, @ORs.cons _ _ _ _ v vs o os fp fq h hs => by
    cases hs with
    | nil => exact ⟨[], List.nil_sublist _, .nil⟩
    | @cons v2 vs2 o2 os2 fp2 fq2 a b =>
      obtain ⟨fp', p, r⟩ := ors_dropLast (ORs.cons a b)
      exact ⟨fp ++ fp', List.Sublist.append_left p fp, .cons h r⟩
end

/-! ### places -/
def APl (X : Cx) (e : Expr) (mp : En → Option (Nat × List PSt)) : Prop := ∃ te : TE, PE X e te ∧ ∀ w σ E Q, Ok X.K X.mg w σ E → ∀ k π, mp E = some (k, π) → (∀ w' u, Ok X.K X.mg w' σ E → Pure w w' → (∃ v, σ[k]? = some (some v) ∧ VAt w'.H v π u) → Q u w'.H) → te σ w.H Q
def plV (k : Nat) : En → Option (Nat × List PSt) := fun E => match E[k]? with
  | some (some _) => some (k, [])
  | _ => none
def nodeE (E : En) (k : Nat) (π : List PSt) : Option O := match E[k]? with
  | some (some o) => o.get π
  | _ => none
def plIx (mp : En → Option (Nat × List PSt)) (f : En → Option D) : En → Option (Nat × List PSt) := fun E => match mp E, f E with
  | some (k, π), some (.int i) => (match nodeE E k π with
    | some (.lst os) => (ixN os.length i).map fun j => (k, π ++ [.ix j])
    | _ => none)
  | _, _ => none
def plFld (mp : En → Option (Nat × List PSt)) (c f : Str) : En → Option (Nat × List PSt) := fun E => match mp E with
  | some (k, π) => (match nodeE E k π with
    | some (.ins c' fs) => if c' = c then (fGet f fs).map fun _ => (k, π ++ [.fld f]) else none
    | _ => none)
  | _ => none
/-- a class of the text whose instances have the field f -/
def ClsF (X : Cx) (c f : Str) : Prop := ∀ C, X.mg c = some (.ref C) → Cls X.K C ∧ NoAttr X.K C f
section
variable {X : Cx} {W : WX} {e e2 : Expr} {pos : Pos} {mp : En → Option (Nat × List PSt)} {f : En → Option D}
theorem nodeE_some {E : En} {k : Nat} {π : List PSt} {n : O} (h : nodeE E k π = some n) : ∃ o, E[k]? = some (some o) ∧ o.get π = some n := by
  unfold nodeE at h
  split at h
  · next o e => exact ⟨o, e, h⟩
  · cases h
theorem pl_var (k : Nat) {x : Str} (h : PE X (.Name x pos) (tVar k)) : APl X (.Name x pos) (plV k) := ⟨_, h, fun w σ E Q ok k' π hm po => by
  unfold plV at hm
  split at hm
  · next o e =>
    cases hm
    obtain ⟨v, fp, h1, h2, _⟩ := ok.env.get e
    exact ⟨v, h1, po w v ok (Pure.refl w) ⟨v, h1, .nil⟩⟩
  · cases hm⟩
theorem pl_ix (h : APl X e mp) (hi : APu X e2 f) (hb : ∀ {ta tb : TE}, PE X e ta → PE X e2 tb → PE X (.Subscript e e2 pos) (tOp (rIx X.K) ta tb)) : APl X (.Subscript e e2 pos) (plIx mp f) := by
  obtain ⟨ta, pa, sa⟩ := h
  obtain ⟨ti, pi, si⟩ := hi
  refine ⟨_, hb pa pi, fun w σ E Q ok k' π' hm po => ?_⟩
  unfold plIx at hm
  cases em : mp E with
  | none => rw [em] at hm; cases hm
  | some kp =>
    obtain ⟨k, π⟩ := kp
    cases ef : f E with
    | none => rw [em, ef] at hm; cases hm
    | some d =>
      rw [em, ef] at hm
      cases d with
      | int i =>
        simp only at hm
        split at hm
        · next os en =>
          cases ei : ixN os.length i with
          | none => rw [ei] at hm; cases hm
          | some j =>
            rw [ei] at hm
            have hm2 := Option.some.inj hm
            injection hm2 with q1 q2
            subst q1 q2
            refine sa w σ E _ ok k π em fun w1 u ok1 p1 hu => ?_
            refine si w1 σ E _ ok1 (.int i) ef fun w2 vi ok2 p2 hvi => ?_
            obtain ⟨v, hv, hat⟩ := hu
            obtain ⟨o, eo, eg⟩ := nodeE_some en
            obtain ⟨v', a, vs, fp, c1, c2, c3, c4, c5, _⟩ := ok2.cell eo eg
            rw [hv] at c1
            cases c1
            have hat2 := VAt.mono p2.hh hat
            have eu := hat2.inj c2
            subst eu
            have hlen : vs.length = os.length := ors_len c5
            have hj : j < vs.length := by
              unfold ixN at ei
              split at ei
              · split at ei
                · cases ei; omega
                · cases ei
              · split at ei
                · cases ei; omega
                · cases ei
            have at1 : atI vs i = some vs[j] := by
              unfold atI
              rw [hlen, ei]
              simp [hj]
            refine .inl ⟨a, vs, i, vs[j], rfl, dp_int hvi, SqL.of c3, at1, po w2 vs[j] ok2 (p1.trans p2) ⟨v, hv, VAt.snoc (.ix c3 (by simp [hj]) .nil) c2⟩⟩
        · cases hm
      | _ => cases hm
theorem pl_fld {c g : Str} (h : APl X e mp) (hc : ClsF X c g) (hb : ∀ {ta : TE}, PE X e ta → PE X (.Attribute e g pos) (tFld X.K ta g)) : APl X (.Attribute e g pos) (plFld mp c g) := by
  obtain ⟨ta, pa, sa⟩ := h
  refine ⟨_, hb pa, fun w σ E Q ok k' π' hm po => ?_⟩
  unfold plFld at hm
  cases em : mp E with
  | none => rw [em] at hm; cases hm
  | some kp =>
    obtain ⟨k, π⟩ := kp
    rw [em] at hm
    simp only at hm
    split at hm
    · next c' fos en =>
      split at hm
      · next ec =>
        subst ec
        cases ei : fGet g fos with
        | none => rw [ei] at hm; cases hm
        | some o1 =>
          rw [ei] at hm
          have hm2 := Option.some.inj hm
          injection hm2 with q1 q2
          subst q1 q2
          refine sa w σ E _ ok k π em fun w1 u ok1 p1 hu => ?_
          obtain ⟨v, hv, hat⟩ := hu
          obtain ⟨o, eo, eg⟩ := nodeE_some en
          obtain ⟨v', u', fpn, c1, c2, c3, _⟩ := ok1.node eo eg
          rw [hv] at c1
          cases c1
          have eu := hat.inj c2
          subst eu
          cases c3 with
          | @ins a C dx _ fs _ fp g0 g1 g2 gk g3 =>
            obtain ⟨j, v0, a1, a2, a3, a4, a5⟩ := field_at gk ei
            have hl : fs.lookup g = some v0 := a1.trans a3
            exact ⟨a, C, dx, fs, v0, rfl, g1, (hc C g0).1, (hc C g0).2, hl, po w1 v0 ok1 p1 ⟨v, hv, VAt.snoc (.fld g1 hl .nil) c2⟩⟩
      · cases hm
    · cases hm
/-- data read at a place -/
def uLoad (mp : En → Option (Nat × List PSt)) : En → Option D := fun E => match mp E with
  | some (k, π) => (match nodeE E k π with
    | some (.dt d) => some d
    | _ => none)
  | none => none
theorem pu_load (h : APl X e mp) : APu X e (uLoad mp) := by
  obtain ⟨te, p, s⟩ := h
  refine ⟨te, p, fun w σ E Q ok d hd po => ?_⟩
  unfold uLoad at hd
  cases em : mp E with
  | none => rw [em] at hd; cases hd
  | some kp =>
    obtain ⟨k, π⟩ := kp
    rw [em] at hd
    simp only at hd
    split at hd
    · next d' en =>
      cases hd
      refine s w σ E Q ok k π em fun w1 u ok1 p1 hu => ?_
      obtain ⟨v, hv, hat⟩ := hu
      obtain ⟨o, eo, eg⟩ := nodeE_some en
      obtain ⟨v', u', fpn, c1, c2, c3, _⟩ := ok1.node eo eg
      rw [hv] at c1
      cases c1
      have eu := hat.inj c2
      subst eu
      cases c3 with
      | dt hd => exact po w1 u ok1 p1 hd
    · cases hd

/-! ### methods that change a list -/
def putE (E : En) (k : Nat) (π : List PSt) (x : O) : En := match E[k]? with
  | some (some o) => E.set k (some (o.put π x))
  | _ => E
theorem ty_list {K : Frag} {H : Hp} {a : Addr} {vs : List V} (h : H a = some (.lst vs)) : tyV K "list" (.ref a) H := .inl ⟨rfl, vs, SqL.of h⟩
/-- xs.append(e): the place first, then a pure argument -/
def mAppend (mp : En → Option (Nat × List PSt)) (f : En → Option D) : M Out := fun E => match mp E, f E with
  | some (k, π), some d => (match nodeE E k π with
    | some (.lst os) => if os.length < 16777216 then .ok .nx (putE E k π (.lst (os ++ [.dt d]))) else .no
    | _ => .no)
  | _, _ => .no
theorem append_ok {w : Wd} {σ : L2.St} {E : En} {k : Nat} {π : List PSt} {os : List O} {d : D} {y : V} {pz : List Nat} {D : Ends} {u v : V} (ok : Ok X.K X.mg w σ E) (en : nodeE E k π = some (.lst os)) (hl : os.length < 16777216) (hy : Dq X.K w.I y d)
    (hv : σ[k]? = some (some v)) (hat : VAt w.H v π u) (po : PoS X.K X.mg W pz σ D w (.ok .nx (putE E k π (.lst (os ++ [.dt d]))))) :
    tyV X.K "list" u w.H ∧ rAppend u [y] w.H fun _ H1 => D.nx σ H1 := by
  obtain ⟨o, eo, eg⟩ := nodeE_some en
  obtain ⟨v', a, vs, fp, c1, c2, c3, c4, c5, c6, c7, c8, c9, c10⟩ := ok.cell eo eg
  rw [hv] at c1
  cases c1
  have eu := hat.inj c2
  subst eu
  have r := ors_app c5 (OR.dt (mg := X.mg) (H := w.H) hy)
  rw [List.append_nil] at r
  obtain ⟨w', e1, e2, k', s'⟩ := c10 w [] (vs ++ [y]) (os ++ [.dt d]) fp (Stp.refl w) (by simpa using ok.nd) (fun _ m => absurd m (by simp)) r c7 fun b m => .inl m
  refine ⟨ty_list c3, a, vs, y, rfl, rfl, c3, by rw [ors_len c5]; exact hl, ?_⟩
  rw [← e1]
  refine po w' σ ?_ s' (Ag.refl _ _)
  unfold putE
  rw [eo]
  exact k'
end
section
variable {X : Cx} {W : WX} {pz : List Nat} {e o : Expr} {es : List Expr} {pos apos cpos : Pos} {mp : En → Option (Nat × List PSt)} {f : En → Option D} {ma : M D}
theorem as_append (ho : APl X o mp) (ha : APu X e f) (hp : ∀ {to te : TE}, PE X o to → PE X e te → PS X (.Expr (.Call (.Attribute o "append" apos) [e] [] cpos) pos) (tDrop (tBM X.K "list" rAppend to (tCons te tNil)))) :
    AS X W pz (.Expr (.Call (.Attribute o "append" apos) [e] [] cpos) pos) (mAppend mp f) := by
  obtain ⟨to, po_, so⟩ := ho
  obtain ⟨te, pe, se⟩ := ha
  refine ⟨_, hp po_ pe, fun w σ E D ok po => ?_⟩
  unfold mAppend at po
  cases em : mp E with
  | none => rw [em] at po; exact po.elim
  | some kp =>
    obtain ⟨k, π⟩ := kp
    cases ef : f E with
    | none => rw [em, ef] at po; exact po.elim
    | some d =>
      rw [em, ef] at po
      simp only at po
      split at po
      · next os en =>
        split at po
        · next hl =>
          refine so w σ E _ ok k π em fun w1 u ok1 p1 hu => ?_
          obtain ⟨v, hv, hat⟩ := hu
          have ty1 : tyV X.K "list" u w1.H := by
            obtain ⟨o, eo, eg⟩ := nodeE_some en
            obtain ⟨v', a, vs, fp, c1, c2, c3, _⟩ := ok1.cell eo eg
            rw [hv] at c1
            cases c1
            have eu := hat.inj c2
            subst eu
            exact ty_list c3
          refine ⟨ty1, se w1 σ E _ ok1 d ef fun w2 y ok2 p2 hy => ?_⟩
          exact (append_ok (W := W) ok2 en hl hy hv (VAt.mono p2.hh hat) (po.from (p1.trans p2).stp (Ag.refl _ _))).2
        · exact po.elim
      · exact po.elim
/-- a name's list: the argument may be any reading -/
def mAppendV (k : Nat) (ma : M D) : M Out := fun E => match E[k]? with
  | some (some (.lst _)) => (ma E).bind fun d E1 => (match E1[k]? with
    | some (some (.lst os)) => if os.length < 16777216 then .ok .nx (E1.set k (some (.lst (os ++ [.dt d])))) else .no
    | _ => .no)
  | _ => .no
theorem as_appendV (k : Nat) {x : Str} {xp : Pos} (hx : PE X (.Name x xp) (tVar k)) (ha : AD X W e ma) (hp : ∀ {to te : TE}, PE X (.Name x xp) to → PE X e te → PS X (.Expr (.Call (.Attribute (.Name x xp) "append" apos) [e] [] cpos) pos) (tDrop (tBM X.K "list" rAppend to (tCons te tNil)))) :
    AS X W pz (.Expr (.Call (.Attribute (.Name x xp) "append" apos) [e] [] cpos) pos) (mAppendV k ma) := by
  obtain ⟨te, pe, se⟩ := ha
  refine ⟨_, hp hx pe, fun w σ E D ok po => ?_⟩
  unfold mAppendV at po
  split at po
  · next os0 e0 =>
    obtain ⟨v, a, vs, fp, c1, c2, c3, _⟩ := ok.cell e0 (show (O.lst os0).get [] = some (.lst os0) from rfl)
    cases c2
    refine ⟨.ref a, c1, ty_list c3, ?_⟩
    refine se.runS ok po fun d E1 w1 k1 s1 po1 y hy => ?_
    split at po1
    · next os e1 =>
      split at po1
      · next hl =>
        have q := append_ok (X := X) (W := W) (pz := pz) (D := D) (π := []) (u := .ref a) (v := .ref a) k1 (show nodeE E1 k [] = some (.lst os) by unfold nodeE; rw [e1]; rfl) hl hy c1 .nil (by
          have z := po1.from s1 (Ag.refl _ _)
          unfold putE
          rw [e1]
          exact z)
        exact q.2
      · exact po1.elim
    · exact po1.elim
  · exact po.elim
/-- xs.pop(), a statement or a value -/
def mPop (mp : En → Option (Nat × List PSt)) : M D := fun E => match mp E with
  | some (k, π) => (match nodeE E k π with
    | some (.lst os) => (match os[os.length - 1]? with
      | some (.dt d) => .ok d (putE E k π (.lst os.dropLast))
      | _ => .no)
    | _ => .no)
  | none => .no
theorem ad_pop (ho : APl X o mp) (hp : ∀ {to : TE}, PE X o to → PE X (.Call (.Attribute o "pop" apos) [] [] cpos) (tBM0 X.K "list" rPop to)) : AD X W (.Call (.Attribute o "pop" apos) [] [] cpos) (mPop mp) := by
  obtain ⟨to, po_, so⟩ := ho
  refine ⟨_, hp po_, fun w σ E Q ok po => ?_⟩
  unfold mPop at po
  cases em : mp E with
  | none => rw [em] at po; exact po.elim
  | some kp =>
    obtain ⟨k, π⟩ := kp
    rw [em] at po
    simp only at po
    split at po
    · next os en =>
      split at po
      · next d ed =>
        refine so w σ E _ ok k π em fun w1 u ok1 p1 hu => ?_
        obtain ⟨v, hv, hat⟩ := hu
        obtain ⟨oo, eo, eg⟩ := nodeE_some en
        obtain ⟨v', a, vs, fp, c1, c2, c3, c4, c5, c6, c7, c8, c9, c10⟩ := ok1.cell eo eg
        rw [hv] at c1
        cases c1
        have eu := hat.inj c2
        subst eu
        obtain ⟨fp', q1, q2⟩ := ors_dropLast c5
        obtain ⟨y, fpj, FR, y1, y2, _⟩ := ors_at c5 ed
        cases y2 with
        | dt y2 =>
          obtain ⟨w', e1, e2, k', s'⟩ := c10 w1 [] _ _ fp' (Stp.refl w1) (by simpa using ok1.nd) (fun _ m => absurd m (by simp)) q2 (q1.nodup c7) fun b m => .inl (q1.subset m)
          refine ⟨ty_list c3, a, vs, y, rfl, rfl, c3, by rw [ors_len c5]; exact y1, ?_⟩
          rw [← e1]
          refine po w' ?_ (p1.stp.trans s') y (by rw [e2]; exact y2)
          unfold putE
          rw [eo]
          exact k'
      · exact po.elim
    · exact po.elim
/-- xs[i] = e at a place; the value may be any reading -/
def mSetIx (mp : En → Option (Nat × List PSt)) (f : En → Option D) (ma : M D) : M Out := fun E => (ma E).bind fun d E1 => match mp E1, f E1 with
  | some (k, π), some (.int i) => (match nodeE E1 k π with
    | some (.lst os) => (match ixN os.length i with
      | some j => .ok .nx (putE E1 k π (.lst (os.set j (.dt d))))
      | none => .no)
    | _ => .no)
  | _, _ => .no
theorem set_ok {w : Wd} {σ : L2.St} {E : En} {k : Nat} {π : List PSt} {os : List O} {d : D} {y : V} {u v : V} {i : Int} {j : Nat} (ok : Ok X.K X.mg w σ E) (en : nodeE E k π = some (.lst os)) (hj : ixN os.length i = some j) (hy : Dq X.K w.I y d)
    (hv : σ[k]? = some (some v)) (hat : VAt w.H v π u) {R : Hp → Prop} (po : ∀ w', Ok X.K X.mg w' σ (putE E k π (.lst (os.set j (.dt d)))) → Stp w w' → R w'.H) : rSetL u (.int i) y w.H R := by
  obtain ⟨o, eo, eg⟩ := nodeE_some en
  obtain ⟨v', a, vs, fp, c1, c2, c3, c4, c5, c6, c7, c8, c9, c10⟩ := ok.cell eo eg
  rw [hv] at c1
  cases c1
  have eu := hat.inj c2
  subst eu
  have hlt : j < os.length := by
    unfold ixN at hj
    split at hj
    · split at hj
      · cases hj; omega
      · cases hj
    · split at hj
      · cases hj; omega
      · cases hj
  obtain ⟨fp', n1, n2, r⟩ := ors_set c5 hlt hy c7
  obtain ⟨w', e1, e2, k', s'⟩ := c10 w [] _ _ fp' (Stp.refl w) (by simpa using ok.nd) (fun _ m => absurd m (by simp)) r n1 fun b m => .inl (n2 b m)
  refine ⟨a, vs, i, j, rfl, rfl, c3, by rw [ors_len c5]; exact hj, ?_⟩
  rw [← e1]
  refine po w' ?_ s'
  unfold putE
  rw [eo]
  exact k'
theorem as_setIx {i : Expr} {spos : Pos} (ho : APl X o mp) (hi : APu X i f) (he : AD X W e ma)
    (hp : ∀ {to ti te : TE}, PE X o to → PE X i ti → PE X e te → PS X (.Assign [.Subscript o i spos] e pos) (tAsg te (gSub to ti rSetL))) : AS X W pz (.Assign [.Subscript o i spos] e pos) (mSetIx mp f ma) := by
  obtain ⟨to, po_, so⟩ := ho
  obtain ⟨ti, pi, si⟩ := hi
  obtain ⟨te, pe, se⟩ := he
  refine ⟨_, hp po_ pi pe, fun w σ E D ok po => se.runS ok po fun d E1 w1 k1 s1 po1 y hy => ?_⟩
  cases em : mp E1 with
  | none => rw [em] at po1; exact po1.elim
  | some kp =>
    obtain ⟨k, π⟩ := kp
    cases ef : f E1 with
    | none => rw [em, ef] at po1; exact po1.elim
    | some di =>
      rw [em, ef] at po1
      cases di with
      | int z =>
        simp only at po1
        split at po1
        · next os en =>
          split at po1
          · next j hj =>
            refine so w1 σ E1 _ k1 k π em fun w2 u ok2 p2 hu => ?_
            refine si w2 σ E1 _ ok2 (.int z) ef fun w3 vi ok3 p3 hvi => ?_
            obtain ⟨v, hv, hat⟩ := hu
            rw [dp_int hvi]
            refine set_ok ok3 en hj (dp_mono (p2.trans p3).ii _ _ hy) hv (VAt.mono p3.hh hat) fun w' k' s' => ?_
            exact po1 w' σ k' (s1.trans ((p2.trans p3).stp.trans s')) (Ag.refl _ _)
          · exact po1.elim
        · exact po1.elim
      | _ => exact po1.elim
/-- xs[i] op= e at a place: the item, then a pure value -/
def mAugIx (g : D → D → Option D) (mp : En → Option (Nat × List PSt)) (f fe : En → Option D) : M Out := fun E => match mp E, f E, fe E with
  | some (k, π), some (.int i), some d => (match nodeE E k π with
    | some (.lst os) => (match ixN os.length i with
      | some j => (match os[j]? with
        | some (.dt x) => (match g x d with
          | some z => if scalD z then .ok .nx (putE E k π (.lst (os.set j (.dt z)))) else .no
          | none => .no)
        | _ => .no)
      | none => .no)
    | _ => .no)
  | _, _, _ => .no
theorem as_augIx {op : Operator} {i : Expr} {spos : Pos} {r : R2} {g : D → D → Option D} {fe : En → Option D} (hg : OpD X.K r g) (ho : APl X o mp) (hi : APu X i f) (he : APu X e fe)
    (hp : ∀ {to ti te : TE}, PE X o to → PE X i ti → PE X e te → PS X (.AugAssign (.Subscript o i spos) op e pos) (tAugS to ti te (rIxL X.K) r rSetL)) : AS X W pz (.AugAssign (.Subscript o i spos) op e pos) (mAugIx g mp f fe) := by
  obtain ⟨to, po_, so⟩ := ho
  obtain ⟨ti, pi, si⟩ := hi
  obtain ⟨te, pe, se⟩ := he
  refine ⟨_, hp po_ pi pe, fun w σ E D ok po => ?_⟩
  unfold mAugIx at po
  cases em : mp E with
  | none => rw [em] at po; exact po.elim
  | some kp =>
    obtain ⟨k, π⟩ := kp
    cases ef : f E with
    | none => rw [em, ef] at po; exact po.elim
    | some di =>
      cases efe : fe E with
      | none => rw [em, ef, efe] at po; cases di <;> exact po.elim
      | some d =>
        rw [em, ef, efe] at po
        cases di with
        | int z =>
          simp only at po
          split at po
          · next os en =>
            split at po
            · next j hj =>
              split at po
              · next x ex =>
                split at po
                · next zz hz =>
                  split at po
                  · next hsc =>
                    refine so w σ E _ ok k π em fun w2 u ok2 p2 hu => ?_
                    refine si w2 σ E _ ok2 (.int z) ef fun w3 vi ok3 p3 hvi => ?_
                    obtain ⟨v, hv, hat⟩ := hu
                    rw [dp_int hvi]
                    obtain ⟨oo, eo, eg⟩ := nodeE_some en
                    obtain ⟨v', a, vs, fp, c1, c2, c3, c4, c5, _⟩ := ok3.cell eo eg
                    rw [hv] at c1
                    cases c1
                    have hat3 := VAt.mono p3.hh hat
                    have eu := hat3.inj c2
                    subst eu
                    obtain ⟨y, fpj, FR, y1, y2, _⟩ := ors_at c5 ex
                    cases y2 with
                    | dt y2 =>
                      refine ⟨a, vs, z, y, rfl, rfl, SqL.of c3, ?_, ?_⟩
                      · unfold atI
                        rw [ors_len c5, hj]
                        exact y1
                      refine se w3 σ E _ ok3 d efe fun w4 vd ok4 p4 hvd => ?_
                      refine hg w4 y vd x d zz _ ok4.sub (dp_mono p4.ii _ _ y2) hvd hz fun I' H' vz gz hvz => ?_
                      have p5 : Pure w4 ⟨I', H', w4.FP⟩ := gz.pure
                      have ok5 := ok4.gr gz
                      refine set_ok ok5 en hj hvz hv (VAt.mono (p4.trans p5).hh hat3) fun w' k' s' => ?_
                      exact po w' σ k' ((((p2.trans p3).trans p4).trans p5).stp.trans s') (Ag.refl _ _)
                  · exact po.elim
                · exact po.elim
              · exact po.elim
            · exact po.elim
          · exact po.elim
        | _ => exact po.elim
end
end Lf
set_option Elab.async false
set_option linter.all false
set_option maxRecDepth 100000
set_option maxHeartbeats 4000000
/-! The lifting layer: several values, several targets; own displays; moving out of a slot. -/
namespace Lf
open PySem PySem.Spec PyProof.Rows L2

theorem Sn.runz {α β γ : Type} {K : Frag} {mg : Str → Option Value} {W : WX} {RR : L2.St → (γ → Hp → Prop) → Wd → Wd → α → Prop} {t : L2.St → Hp → (γ → Hp → Prop) → Prop} {m : M α} (sa : Sn K mg W RR t m) {w0 w : Wd} {σ : L2.St} {E : En} {Q : γ → Hp → Prop} (k : Ok K mg w σ E) (s0 : Stp w0 w)
    {R' : Wd → Wd → β → Prop} {κ : α → En → Rs β} (po : Po K mg W σ R' w0 ((m E).bind κ)) (h : ∀ a E1 w1, Ok K mg w1 σ E1 → Stp w w1 → Po K mg W σ R' w0 (κ a E1) → RR σ Q w w1 a) : t σ w.H Q := by
  refine sa w σ E Q k ?_
  cases e : m E with
  | ok a E1 =>
    rw [e] at po
    exact fun w1 k1 s1 => h a E1 w1 k1 s1 po
  | exc c fs E1 =>
    rw [e] at po
    exact fun w' cls dd k' s' z => po w' cls dd k' (s0.trans s') z
  | no =>
    rw [e] at po
    exact po
/-! ### several owned values -/
structure BesL (K : Frag) (mg : Str → Option Value) (w w' : Wd) (vs : List V) (os : List O) (fp : List Addr) : Prop where
  rel : ORs K mg w'.I w'.H vs os fp
  nd : (fp ++ w'.FP).Nodup
  new : ∀ a ∈ fp, a ∈ w.FP ∨ w.H a = none
def RAO (K : Frag) (mg : Str → Option Value) (_ : L2.St) (Q : List V → Hp → Prop) : Wd → Wd → List O → Prop := fun w w' os => ∀ vs fp, BesL K mg w w' vs os fp → Q vs w'.H
theorem new_back {w w1 : Wd} (s : Stp w w1) {a : Addr} (h : a ∈ w1.FP ∨ w1.H a = none) : a ∈ w.FP ∨ w.H a = none := by
  rcases h with z | z
  · exact s.fp a z
  · by_cases m0 : a ∈ w.FP
    · exact .inl m0
    · cases e : w.H a with
      | none => exact .inr rfl
      | some u => rw [s.fr a u m0 e] at z; cases z
theorem back_AO {K : Frag} {mg : Str → Option Value} {σ : L2.St} {Q : List V → Hp → Prop} : Back (RAO K mg σ Q) := fun w w1 w' o s h vs fp b => h vs fp ⟨b.rel, b.nd, fun a m => new_back s (b.new a m)⟩
def AAO (X : Cx) (W : WX) (es : List Expr) (m : M (List O)) : Prop := ∃ ta : TA, PA X es ta ∧ Sn X.K X.mg W (RAO X.K X.mg) ta m
def mNilO : M (List O) := fun E => .ok [] E
def mConsO (a : M O) (r : M (List O)) : M (List O) := fun E => (a E).bind fun o E1 => (r E1).bind fun os E2 => .ok (o :: os) E2
/-- cells beside stay while the world goes on -/
theorem beside_stay {K : Frag} {mg : Str → Option Value} {w1 w2 : Wd} {fp : List Addr} (s : Stp w1 w2) (nd : (fp ++ w1.FP).Nodup) (th : ∀ a ∈ fp, w1.I a = none ∧ ∃ u, w1.H a = some u) : (∀ a ∈ fp, w2.H a = w1.H a ∧ w2.I a = none) ∧ (∀ a ∈ fp, a ∉ w2.FP) := by
  have out : ∀ a ∈ fp, a ∉ w1.FP := fun a m m' => (List.nodup_append.mp nd).2.2 a m a m' rfl
  refine ⟨fun a m => ?_, fun a m m' => ?_⟩
  · obtain ⟨n, u, hu⟩ := th a m
    exact ⟨(s.fr a u (out a m) hu).trans hu.symm, s.nw a u (out a m) hu n⟩
  · obtain ⟨n, u, hu⟩ := th a m
    rcases s.fp a m' with z | z
    · exact out a m z
    · rw [hu] at z; cases z
theorem besL_cons {K : Frag} {mg : Str → Option Value} {w w1 w2 : Wd} {v : V} {vs : List V} {o : O} {os : List O} {fp fp2 : List Addr} (s1 : Stp w w1) (s2 : Stp w1 w2) (b : Bes K mg w w1 v o fp) (b2 : BesL K mg w1 w2 vs os fp2) : BesL K mg w w2 (v :: vs) (o :: os) (fp ++ fp2) := by
  obtain ⟨h1, h2⟩ := beside_stay (K := K) (mg := mg) s2 b.nd b.rel.there
  have q := List.nodup_append.mp b.nd
  refine ⟨.cons (b.rel.mono s2.ii h1) b2.rel, ?_, fun a m => ?_⟩
  · rw [List.append_assoc]
    refine List.nodup_append.mpr ⟨q.1, b2.nd, fun a m a' m' e => ?_⟩
    subst e
    rcases List.mem_append.mp m' with z | z
    · rcases b2.new a z with y | y
      · exact q.2.2 a m a y rfl
      · obtain ⟨_, u, hu⟩ := b.rel.there a m
        rw [hu] at y; cases y
    · exact h2 a m z
  · rcases List.mem_append.mp m with m | m
    · exact b.new a m
    · exact new_back s1 (b2.new a m)
section
variable {X : Cx} {W : WX} {e : Expr} {es : List Expr} {pos : Pos} {mo : M O} {mr : M (List O)} {pz : List Nat}
theorem aao_nil : AAO X W [] mNilO := ⟨_, pa_nil, fun w σ E Q k po => po w k (Stp.refl _) [] [] ⟨.nil, k.nd, fun _ m => absurd m (by simp)⟩⟩
theorem aao_cons (ha : AO X W e mo) (hr : AAO X W es mr) (hs : starEach (e :: es) X.env = (false, eval e X.env) :: starEach es X.env := by rfl) : AAO X W (e :: es) (mConsO mo mr) := by
  obtain ⟨te, p, s⟩ := ha
  obtain ⟨tr, q, s2⟩ := hr
  refine ⟨_, pa_cons p q hs, fun w σ E Q k po => s.runz k (Stp.refl _) po fun o E1 w1 k1 s1 po1 v fp b => s2.runz k1 s1 po1 fun os E2 w2 k2 s12 po2 vs fp2 b2 => ?_⟩
  exact po2 w2 k2 (s1.trans s12) _ _ (besL_cons s1 s12 b b2)
/-- a new cell with owned items -/
theorem bes_cell {K : Frag} {mg : Str → Option Value} {w w1 : Wd} {σ : L2.St} {E : En} {p : Addr} {vs : List V} {os : List O} {fp : List Addr} {h : HO} {o : O} (k1 : Ok K mg w1 σ E) (s1 : Stp w w1) (hp : w1.H p = none) (b : BesL K mg w w1 vs os fp)
    (mk : ∀ H, H p = some h → ORs K mg w1.I H vs os fp → OR K mg w1.I H (.ref p) o (p :: fp)) :
    Ok K mg ⟨w1.I, upd w1.H p h, w1.FP⟩ σ E ∧ Stp w ⟨w1.I, upd w1.H p h, w1.FP⟩ ∧ Bes K mg w ⟨w1.I, upd w1.H p h, w1.FP⟩ (.ref p) o (p :: fp) := by
  have na : p ∉ w1.FP := fun m => by
    obtain ⟨_, u, hu⟩ := k1.env.there p m
    rw [hp] at hu; cases hu
  have nf : p ∉ fp := fun m => by
    obtain ⟨_, u, hu⟩ := b.rel.there p m
    rw [hp] at hu; cases hu
  have sh : Same w1.H (upd w1.H p h) := same_new hp
  have keep : ∀ a, (w1.I a = none ∧ ∃ u, w1.H a = some u) → upd w1.H p h a = w1.H a ∧ w1.I a = none := fun a q => by
    obtain ⟨n, u, hu⟩ := q
    exact ⟨(sh a u hu).trans hu.symm, n⟩
  refine ⟨⟨k1.sub.trans sh, k1.env.mono (Same.refl _) fun a m => keep a (k1.env.there a m), k1.nd⟩, ⟨s1.ii, fun b u n h => sh _ _ (s1.fr b u n h), s1.nw, s1.fp⟩, ⟨mk _ upd_same (b.rel.mono (Same.refl _) fun a m => keep a (b.rel.there a m)), ?_, fun a m => ?_⟩⟩
  · show (p :: (fp ++ w1.FP)).Nodup
    refine List.nodup_cons.mpr ⟨fun m => ?_, b.nd⟩
    rcases List.mem_append.mp m with m | m
    · exact nf m
    · exact na m
  · rcases List.mem_cons.mp m with q | m
    · subst q
      exact new_back s1 (.inr hp)
    · exact b.new a m
def mLstOO (m : M (List O)) : M O := fun E => (m E).bind fun os E1 => if os.length ≤ 16777216 then .ok (.lst os) E1 else .no
def mTupOO (m : M (List O)) : M O := fun E => (m E).bind fun os E1 => if os.length ≤ 16777216 then .ok (.tup os) E1 else .no
theorem ao_lstO {m : M (List O)} (h : AAO X W es m) : AO X W (.List es pos) (mLstOO m) := by
  obtain ⟨te, p, s⟩ := h
  refine ⟨_, pe_lst p, fun w σ E Q k po => s.runz k (Stp.refl _) po fun os E1 w1 k1 s1 po1 vs fp b => ?_⟩
  split at po1
  · next hl =>
    refine ⟨by rw [ors_len b.rel]; exact hl, fun a ha => ?_⟩
    obtain ⟨k2, s2, b2⟩ := bes_cell k1 s1 ha b fun H e r => .lst e (k1.sub.free ha) r
    exact po1 _ k2 s2 _ _ b2
  · exact po1.elim
theorem ao_tupO {x1} {m : M (List O)} (h : AAO X W es m) : AO X W (.Tuple es x1 pos) (mTupOO m) := by
  obtain ⟨te, p, s⟩ := h
  refine ⟨_, pe_tup p, fun w σ E Q k po => s.runz k (Stp.refl _) po fun os E1 w1 k1 s1 po1 vs fp b => ?_⟩
  split at po1
  · next hl =>
    refine ⟨by rw [ors_len b.rel]; exact hl, fun a ha => ?_⟩
    obtain ⟨k2, s2, b2⟩ := bes_cell k1 s1 ha b fun H e r => .tup e (k1.sub.free ha) r
    exact po1 _ k2 s2 _ _ b2
  · exact po1.elim

/-! ### a slot's tree is handed on -/
def mMv (i : Nat) : M O := fun E => match E[i]? with
  | some (some o) => .ok o (E.set i none)
  | _ => .no
theorem Ok.mv {K : Frag} {mg : Str → Option Value} {w : Wd} {σ : L2.St} {E : En} {i : Nat} {o : O} (k : Ok K mg w σ E) (e : E[i]? = some (some o)) : ∃ w' v fp, w'.H = w.H ∧ w'.I = w.I ∧ σ[i]? = some (some v) ∧ Ok K mg w' σ (E.set i none) ∧ Stp w w' ∧ Bes K mg w w' v o fp := by
  have hi : i < E.length := (List.getElem?_eq_some_iff.mp e).1
  obtain ⟨s, e', fp, FR, h1, h2, h3, h4, h5⟩ := k.env.focus hi
  rw [e] at h2
  cases h2
  cases h3 with
  | @ow v _ _ h3 =>
    obtain ⟨FP', p, r⟩ := h5 w.I w.H (some v) none [] (Same.refl _) (fun a m => ⟨rfl, (k.env.there a (h4.mem_iff.mpr (List.mem_append_right _ m))).1⟩) .un
    rw [set_self h1] at r
    have ndF := h4.nodup_iff.mp k.nd
    have ndA := List.nodup_append.mp ndF
    refine ⟨⟨w.I, w.H, FP'⟩, v, fp, rfl, rfl, h1, ⟨k.sub, r, p.nodup_iff.mpr ndA.2.1⟩, ⟨Same.refl _, fun _ _ _ h => h, fun _ _ _ _ h => h, fun a m => .inl (h4.mem_iff.mpr (List.mem_append_right _ (p.mem_iff.mp m)))⟩, ⟨h3, ?_, fun a m => .inl (h4.mem_iff.mpr (List.mem_append_left _ m))⟩⟩
    exact List.nodup_append.mpr ⟨ndA.1, p.nodup_iff.mpr ndA.2.1, fun a m b m' q => ndA.2.2 a m b (p.mem_iff.mp m') q⟩
theorem ao_mv (i : Nat) {x : Str} (h : PE X (.Name x pos) (tVar i)) : AO X W (.Name x pos) (mMv i) := by
  refine ⟨_, h, fun w σ E Q k po => ?_⟩
  unfold mMv at po
  split at po
  · next o e =>
    obtain ⟨w', v, fp, e1, e2, e3, k', s', b⟩ := k.mv e
    refine ⟨v, e3, ?_⟩
    rw [← e1]
    exact po w' k' s' v fp b
  · exact po.elim

/-! ### several targets -/
def bNameO (i : Nat) : O → En → Option En := fun o E => if i < E.length then some (E.set i (some o)) else none
def setB : List (O → En → Option En) → List O → En → Option En
  | [], [], E => some E
  | b :: bs, o :: os, E => (b o E).bind (setB bs os)
  | _, _, _ => none
theorem Ok.putA {K : Frag} {mg : Str → Option Value} {w : Wd} {σ : L2.St} {E : En} {i : Nat} {v : V} {o : O} {fp : List Addr} (k : Ok K mg w σ E) (h : OR K mg w.I w.H v o fp) (nd : (fp ++ w.FP).Nodup) (hi : i < E.length) :
    ∃ w', w'.H = w.H ∧ w'.I = w.I ∧ Ok K mg w' (σ.set i (some v)) (E.set i (some o)) ∧ Stp ⟨w.I, w.H, fp ++ w.FP⟩ w' := by
  obtain ⟨w', h1, h2, h3, h4, _⟩ := k.putX (w0 := ⟨w.I, w.H, fp ++ w.FP⟩) (i := i) (v := v) (o := o) (fp := fp) ⟨h, nd, fun a m => .inl (List.mem_append_left _ m)⟩ hi ⟨Same.refl _, fun _ _ _ h => h, fun _ _ _ _ h => h, fun a m => .inl (List.mem_append_right _ m)⟩
  exact ⟨w', h1, h4, h2, h3⟩
def AGO (X : Cx) (is : List Nat) (tg : Expr) (bd : O → En → Option En) : Prop := ∃ g : TG, PG X tg g ∧ ∀ w σ E o v fp (R : L2.St → Hp → Prop), Ok X.K X.mg w σ E → OR X.K X.mg w.I w.H v o fp → (fp ++ w.FP).Nodup →
  (match bd o E with
    | some E' => ∀ w' σ', Ok X.K X.mg w' σ' E' → Stp ⟨w.I, w.H, fp ++ w.FP⟩ w' → Agx is σ σ' → R σ' w'.H
    | none => False) → g v σ w.H R
def AGOs (X : Cx) (is : List Nat) (ts : List Expr) (bs : List (O → En → Option En)) : Prop := ∃ g : TGs, PGs X ts g ∧ ∀ w σ E os vs fp (R : L2.St → Hp → Prop), Ok X.K X.mg w σ E → ORs X.K X.mg w.I w.H vs os fp → (fp ++ w.FP).Nodup →
  (match setB bs os E with
    | some E' => ∀ w' σ', Ok X.K X.mg w' σ' E' → Stp ⟨w.I, w.H, fp ++ w.FP⟩ w' → Agx is σ σ' → R σ' w'.H
    | none => False) → g vs σ w.H R
theorem ago_name (i : Nat) {x : Str} (h : PG X (.Name x pos) (gName i)) : AGO X [i] (.Name x pos) (bNameO i) := by
  refine ⟨_, h, fun w σ E o v fp R k ho nd po => ?_⟩
  unfold bNameO at po
  split at po
  · next E' e =>
    split at e
    · next hl =>
      cases e
      obtain ⟨w', e1, e2, k', s'⟩ := k.putA ho nd hl
      show R _ _
      rw [← e1]
      exact po w' _ k' s' Agx.set
    · cases e
  · exact po.elim
theorem agos_nil : AGOs X [] [] [] := ⟨_, pgs_nil, fun w σ E os vs fp R k hd nd po => by
  cases hd with
  | nil => exact ⟨rfl, po w σ k (by simpa using Stp.refl _) (Agx.refl _ _)⟩
  | cons _ _ => exact po.elim⟩
theorem agos_cons {t : Expr} {ts : List Expr} {is js : List Nat} {b : O → En → Option En} {bs : List (O → En → Option En)} (h : AGO X is t b) (hr : AGOs X js ts bs)
    (hs : (assignEach (t :: ts) X.env).map (·.2) = assign t X.env :: (assignEach ts X.env).map (·.2) := by rfl) : AGOs X (is ++ js) (t :: ts) (b :: bs) := by
  obtain ⟨g, p, s⟩ := h
  obtain ⟨gs, ps, ss⟩ := hr
  refine ⟨_, pgs_cons p ps hs, fun w σ E os vs fp R k hd nd po => ?_⟩
  cases hd with
  | nil => exact po.elim
  | @cons v vs o os fp1 fp2 h1 h2 =>
    refine ⟨v, vs, rfl, ?_⟩
    have po' : (match (b o E).bind (setB bs os) with
      | some E' => ∀ w' σ', Ok X.K X.mg w' σ' E' → Stp ⟨w.I, w.H, (fp1 ++ fp2) ++ w.FP⟩ w' → Agx (is ++ js) σ σ' → R σ' w'.H
      | none => False) := po
    have nd' : (fp1 ++ (fp2 ++ w.FP)).Nodup := by rw [List.append_assoc] at nd; exact nd
    have n1 := List.nodup_append.mp nd'
    have n2 := List.nodup_append.mp n1.2.1
    refine s w σ E o v fp1 _ k h1 (List.nodup_append.mpr ⟨n1.1, n2.2.1, fun a m a' m' => n1.2.2 a m a' (List.mem_append_right _ m')⟩) ?_
    cases e : b o E with
    | none => rw [e] at po'; exact po'.elim
    | some E1 =>
      rw [e] at po'
      have po2 : (match setB bs os E1 with
        | some E' => ∀ w' σ', Ok X.K X.mg w' σ' E' → Stp ⟨w.I, w.H, (fp1 ++ fp2) ++ w.FP⟩ w' → Agx (is ++ js) σ σ' → R σ' w'.H
        | none => False) := po'
      intro w1 σ1 k1 s1 a1
      have out : ∀ a ∈ fp2, a ∉ fp1 ++ w.FP := fun a m m' => by
        rcases List.mem_append.mp m' with z | z
        · exact n1.2.2 a z a (List.mem_append_left _ m) rfl
        · exact n2.2.2 a m a z rfl
      have st : ∀ a ∈ fp2, w1.H a = w.H a ∧ w1.I a = none := fun a m => by
        obtain ⟨n, u, hu⟩ := h2.there a m
        exact ⟨(s1.fr a u (out a m) hu).trans hu.symm, s1.nw a u (out a m) hu n⟩
      have nF : ∀ a ∈ fp2, a ∉ w1.FP := fun a m m' => by
        obtain ⟨n, u, hu⟩ := h2.there a m
        rcases s1.fp a m' with z | z
        · exact out a m z
        · have z' : w.H a = none := z
          rw [hu] at z'; cases z'
      refine ss w1 σ1 E1 os vs fp2 R k1 (h2.mono s1.ii st) (List.nodup_append.mpr ⟨n2.1, k1.nd, fun a m a' m' q => nF a m (q ▸ m')⟩) ?_
      cases e2 : setB bs os E1 with
      | none => rw [e2] at po2; exact po2.elim
      | some E2 =>
        rw [e2] at po2
        intro w2 σ2 k2 s2 a2
        refine po2 w2 σ2 k2 ⟨s1.ii.trans s2.ii, fun a u n h => ?_, fun a u n h i => ?_, fun a m => ?_⟩ (a1.trans a2)
        · have n' : a ∉ fp1 ++ w.FP := fun m => n (by
            rcases List.mem_append.mp m with z | z
            · exact List.mem_append_left _ (List.mem_append_left _ z)
            · exact List.mem_append_right _ z)
          have h1' : w1.H a = some u := s1.fr a u n' h
          refine s2.fr a u (fun m => ?_) h1'
          rcases List.mem_append.mp m with z | z
          · exact n (List.mem_append_left _ (List.mem_append_right _ z))
          · rcases s1.fp a z with y | y
            · exact n' y
            · have y' : w.H a = none := y
              have h' : w.H a = some u := h
              rw [h'] at y'; cases y'
        · have n' : a ∉ fp1 ++ w.FP := fun m => n (by
            rcases List.mem_append.mp m with z | z
            · exact List.mem_append_left _ (List.mem_append_left _ z)
            · exact List.mem_append_right _ z)
          have h1' : w1.H a = some u := s1.fr a u n' h
          have i1' : w1.I a = none := s1.nw a u n' h i
          refine s2.nw a u (fun m => ?_) h1' i1'
          rcases List.mem_append.mp m with z | z
          · exact n (List.mem_append_left _ (List.mem_append_right _ z))
          · rcases s1.fp a z with y | y
            · exact n' y
            · have y' : w.H a = none := y
              have h' : w.H a = some u := h
              rw [h'] at y'; cases y'
        · have f1 : a ∈ w1.FP → a ∈ (fp1 ++ fp2) ++ w.FP ∨ w.H a = none := fun m => by
            rcases s1.fp a m with z | z
            · rcases List.mem_append.mp z with z | z
              · exact .inl (List.mem_append_left _ (List.mem_append_left _ z))
              · exact .inl (List.mem_append_right _ z)
            · exact .inr z
          rcases s2.fp a m with z | z
          · rcases List.mem_append.mp z with z | z
            · exact .inl (List.mem_append_left _ (List.mem_append_right _ z))
            · exact f1 z
          · have z' : w1.H a = none := z
            by_cases m0 : a ∈ (fp1 ++ fp2) ++ w.FP
            · exact .inl m0
            · cases q : w.H a with
              | none => exact .inr rfl
              | some u =>
                have n' : a ∉ fp1 ++ w.FP := fun m => m0 (by
                  rcases List.mem_append.mp m with z | z
                  · exact List.mem_append_left _ (List.mem_append_left _ z)
                  · exact List.mem_append_right _ z)
                rw [s1.fr a u n' q] at z'; cases z'
def mPar (bs : List (O → En → Option En)) (m : M (List O)) : M Out := fun E => (m E).bind fun os E1 => match setB bs os E1 with
  | some E2 => .ok .nx E2
  | none => .no
/-- the world with cells beside -/
theorem besL_stp {K : Frag} {mg : Str → Option Value} {w w1 w2 : Wd} {vs : List V} {os : List O} {fp : List Addr} (s : Stp w w1) (b : BesL K mg w w1 vs os fp) (s2 : Stp ⟨w1.I, w1.H, fp ++ w1.FP⟩ w2) : Stp w w2 := by
  refine Stp.trans (w1 := ⟨w1.I, w1.H, fp ++ w1.FP⟩) ⟨s.ii, s.fr, s.nw, fun a m => ?_⟩ s2
  rcases List.mem_append.mp m with m | m
  · exact b.new a m
  · exact s.fp a m
/-- t1, t2, .. = e1, e2, ..: the tuple is laid and taken apart -/
theorem as_asgT {ts : List Expr} {k1 k2 : Nat} {p1 p2 : Pos} {is : List Nat} {bs : List (O → En → Option En)} {m : M (List O)} (hc : X.calm = true) (he : AAO X W es m) (hg : AGOs X is ts bs) (hd : ∀ j ∈ pz, j ∉ is)
    (hlen : bs.length = ts.length := by rfl) (hsz : ts.length ≤ 16777216 := by decide) (hn : (assignEach ts X.env).length = ts.length := by rfl) (hst : (assignEach ts X.env).findIdx? (·.1) = none := by rfl)
    (hs : swapsWithSole [.Tuple ts k1 p1] (.Tuple es k2 p2) pos.line X.env = pure false := by rfl) (hw : swappedStores [.Tuple ts k1 p1] (.Tuple es k2 p2) X.env = pure none := by rfl) : AS X W pz (.Assign [.Tuple ts k1 p1] (.Tuple es k2 p2) pos) (mPar bs m) := by
  obtain ⟨te, p, s⟩ := he
  obtain ⟨g, pg, sg⟩ := hg
  refine ⟨_, ps_asg (pe_tup p) (pg_tup (n := ts.length) hc pg hn hst) hs hw, fun w σ E D k po => s.runS k po fun os E1 w1 k1 s1 po1 vs fp b => ?_⟩
  have lb : ∀ (bs : List (O → En → Option En)) (os : List O) (E E' : En), setB bs os E = some E' → os.length = bs.length := by
    intro bs
    induction bs with
    | nil =>
      intro os E E' q
      cases os with
      | nil => rfl
      | cons _ _ => cases q
    | cons b bs ih =>
      intro os E E' q
      cases os with
      | nil => cases q
      | cons o os =>
        have q' : (b o E).bind (setB bs os) = some E' := q
        cases e : b o E with
        | none => rw [e] at q'; cases q'
        | some E1 =>
          rw [e] at q'
          simp [ih os E1 E' q']
  cases e : setB bs os E1 with
  | none => simp only [e] at po1; exact po1.elim
  | some E2 =>
    simp only [e] at po1
    have lo := (ors_len b.rel).trans ((lb _ _ _ _ e).trans hlen)
    by_cases hz : vs.length ≤ 16777216
    · refine ⟨hz, fun a ha => ?_⟩
      refine ⟨a, vs, rfl, SqT.of upd_same, lo, ?_⟩
      have sh : Same w1.H (upd w1.H a (.tup vs)) := same_new ha
      have keep : ∀ c, (w1.I c = none ∧ ∃ u, w1.H c = some u) → upd w1.H a (.tup vs) c = w1.H c ∧ w1.I c = none := fun c q => by
        obtain ⟨n, u, hu⟩ := q
        exact ⟨(sh c u hu).trans hu.symm, n⟩
      have kk : Ok X.K X.mg ⟨w1.I, upd w1.H a (.tup vs), w1.FP⟩ σ E1 := ⟨k1.sub.trans sh, k1.env.mono (Same.refl _) fun c m => keep c (k1.env.there c m), k1.nd⟩
      refine sg ⟨w1.I, upd w1.H a (.tup vs), w1.FP⟩ σ E1 os vs fp _ kk (b.rel.mono (Same.refl _) fun c m => keep c (b.rel.there c m)) b.nd ?_
      rw [e]
      intro w2 σ2 k2 s2 a2
      refine po1 w2 σ2 k2 (besL_stp s1 b ?_) (a2.ag hd)
      refine Stp.trans (w1 := ⟨w1.I, upd w1.H a (.tup vs), fp ++ w1.FP⟩) ⟨Same.refl _, fun c u _ h => sh c u h, fun _ _ _ _ h => h, fun c m => .inl m⟩ s2
    · exact absurd (show vs.length ≤ 16777216 by rw [lo]; exact hsz) hz
end
end Lf
set_option Elab.async false
set_option linter.all false
set_option maxRecDepth 100000
set_option maxHeartbeats 4000000
/-! The lifting layer: names at once, constants, isinstance, chains, truth, ranges as lists. -/
namespace Lf
open PySem PySem.Spec PyProof.Rows L2

/-! ### a, b = e1, e2 over local names -/
def setVs : L2.St → List Nat → List V → L2.St
  | σ, i :: is, v :: vs => setVs (σ.set i (some v)) is vs
  | σ, _, _ => σ
theorem setVs_agx : ∀ (is : List Nat) (vs : List V) (σ : L2.St), Agx is σ (setVs σ is vs)
  | [], vs, σ => by cases vs <;> exact Agx.refl _ _
  | i :: is, [], σ => ⟨rfl, fun _ _ => rfl⟩
  | i :: is, v :: vs, σ => (Agx.set (i := i)).trans (setVs_agx is vs _)
theorem ok_setVs {K : Frag} {mg : Str → Option Value} : ∀ {is : List Nat} {vs : List V} {os : List O} {fp : List Addr} {w : Wd} {σ : L2.St} {E E' : En}, Ok K mg w σ E → ORs K mg w.I w.H vs os fp → (fp ++ w.FP).Nodup → setB (is.map bNameO) os E = some E' →
    ∃ w', w'.H = w.H ∧ w'.I = w.I ∧ Ok K mg w' (setVs σ is vs) E' ∧ Stp ⟨w.I, w.H, fp ++ w.FP⟩ w'
  | [], _, _, fp, w, σ, E, E', k, h, nd, e => by
    cases h with
    | nil => cases e; exact ⟨w, rfl, rfl, k, by simpa using Stp.refl _⟩
    | cons _ _ => cases e
  | i :: is, _, _, fp, w, σ, E, E', k, h, nd, e => by
    cases h with
    | nil => cases e
    | @cons v vs o os fp1 fp2 h1 h2 =>
      have e' : (bNameO i o E).bind (setB (is.map bNameO) os) = some E' := e
      unfold bNameO at e'
      by_cases hl : i < E.length
      · rw [if_pos hl] at e'
        have nd' : (fp1 ++ (fp2 ++ w.FP)).Nodup := by rw [List.append_assoc] at nd; exact nd
        have n1 := List.nodup_append.mp nd'
        have n2 := List.nodup_append.mp n1.2.1
        obtain ⟨w1, a1, a2, k1, s1⟩ := k.putA h1 (List.nodup_append.mpr ⟨n1.1, n2.2.1, fun a m a' m' => n1.2.2 a m a' (List.mem_append_right _ m')⟩) hl
        have inF : ∀ a ∈ w1.FP, a ∈ fp1 ++ w.FP := fun a m => by
          rcases s1.fp a m with z | z
          · exact z
          · obtain ⟨_, u, hu⟩ := k1.env.there a m
            rw [a1] at hu
            have z' : w.H a = none := z
            rw [z'] at hu; cases hu
        have nF : ∀ a ∈ fp2, a ∉ w1.FP := fun a m m' => by
          rcases List.mem_append.mp (inF a m') with z | z
          · exact n1.2.2 a z a (List.mem_append_left _ m) rfl
          · exact n2.2.2 a m a z rfl
        obtain ⟨w2, b1, b2, k2, s2⟩ := ok_setVs (is := is) k1 (h2.mono (by rw [a2]; exact Same.refl _) fun a m => ⟨by rw [a1], by rw [a2]; exact (h2.there a m).1⟩) (List.nodup_append.mpr ⟨n2.1, k1.nd, fun a m b m' q => nF a m (q ▸ m')⟩) e'
        refine ⟨w2, b1.trans a1, b2.trans a2, k2, ⟨by rw [b2, a2]; exact Same.refl _, fun a u _ h => by rw [b1, a1]; exact h, fun a u _ _ h => by rw [b2, a2]; exact h, fun a m => ?_⟩⟩
        rcases s2.fp a m with z | z
        · rcases List.mem_append.mp z with z | z
          · exact .inl (List.mem_append_left _ (List.mem_append_right _ z))
          · rcases List.mem_append.mp (inF a z) with z | z
            · exact .inl (List.mem_append_left _ (List.mem_append_left _ z))
            · exact .inl (List.mem_append_right _ z)
        · refine .inr ?_
          have z' : w1.H a = none := z
          rw [a1] at z'; exact z'
      · rw [if_neg hl] at e'; cases e'
section
variable {X : Cx} {W : WX} {pz : List Nat} {st : Stmt} {es : List Expr} {e a b c : Expr} {pos p : Pos} {m : M (List O)} {ma mb mc : M D}
theorem as_par {is : List Nat} (he : AAO X W es m) (hd : ∀ j ∈ pz, j ∉ is)
    (hp : ∀ {ta : TA}, PA X es ta → ∃ t : TS, PS X st t ∧ ∀ D σ H, (ta σ H fun vs H1 => vs.length = is.length ∧ D.nx (setVs σ is vs) H1) → t D σ H) : AS X W pz st (mPar (is.map bNameO) m) := by
  obtain ⟨te, p, s⟩ := he
  obtain ⟨t, q, ht⟩ := hp p
  refine ⟨t, q, fun w σ E D k po => ht D σ w.H (s.runS k po fun os E1 w1 k1 s1 po1 vs fp b => ?_)⟩
  cases e : setB (is.map bNameO) os E1 with
  | none => simp only [e] at po1; exact po1.elim
  | some E2 =>
    simp only [e] at po1
    have lb : ∀ (is : List Nat) (os : List O) (E E' : En), setB (is.map bNameO) os E = some E' → os.length = is.length := by
      intro is
      induction is with
      | nil =>
        intro os E E' q
        cases os with
        | nil => rfl
        | cons _ _ => cases q
      | cons b bs ih =>
        intro os E E' q
        cases os with
        | nil => cases q
        | cons o os =>
          have q' : (bNameO b o E).bind (setB (bs.map bNameO) os) = some E' := q
          cases e : bNameO b o E with
          | none => rw [e] at q'; cases q'
          | some E1 =>
            rw [e] at q'
            simp [ih os E1 E' q']
    refine ⟨(ors_len b.rel).trans (lb _ _ _ _ e), ?_⟩
    obtain ⟨w2, a1, a2, k2, s2⟩ := ok_setVs k1 b.rel b.nd e
    have z := po1 w2 _ k2 (besL_stp s1 b s2) ((setVs_agx is vs σ).ag hd)
    show D.nx _ _
    rw [← a1]
    exact z
theorem par2 {i j : Nat} {x y : Str} {px py pt pos : Pos} {kt k2 pt2} (hc : X.calm = true) (hN : X.N.Nodup) (hi : X.N[i]? = some x) (hj : X.N[j]? = some y) (hij : i ≠ j)
    (hx : X.env.scope.names.lookup x = some .local) (hy : X.env.scope.names.lookup y = some .local)
    (hw : swappedStores [.Tuple [.Name x px, .Name y py] kt pt] (.Tuple [a, b] k2 pt2) X.env = pure (some [x, y]))
    (hs : swapsWithSole [.Tuple [.Name x px, .Name y py] kt pt] (.Tuple [a, b] k2 pt2) pos.line X.env = pure false) {ta : TA} (h : PA X [a, b] ta) :
    ∃ t : TS, PS X (.Assign [.Tuple [.Name x px, .Name y py] kt pt] (.Tuple [a, b] k2 pt2) pos) t ∧ ∀ D σ H, (ta σ H fun vs H1 => vs.length = [i, j].length ∧ D.nx (setVs σ [i, j] vs) H1) → t D σ H := by
  refine ⟨_, ps_par hc hN hi hj hij hx hy h hw hs, fun D σ H q => ?_⟩
  have e : (fun vs H1 => ([i, j].length = 2) ∧ vs.length = [i, j].length ∧ D.nx (setVs σ [i, j] vs) H1) = (fun vs H1 => ∃ v w, vs = [v, w] ∧ D.nx ((σ.set i (some v)).set j (some w)) H1) := by
    funext vs H1
    apply propext
    constructor
    · rintro ⟨_, h1, h2⟩
      match vs, h1, h2 with
      | [v, w], _, h2 => exact ⟨v, w, rfl, h2⟩
    · rintro ⟨v, w, rfl, h2⟩
      exact ⟨rfl, rfl, h2⟩
  show ta σ H (fun vs H1 => ∃ v w, vs = [v, w] ∧ D.nx ((σ.set i (some v)).set j (some w)) H1)
  rw [← e]
  have e2 : (fun vs H1 => ([i, j].length = 2) ∧ vs.length = [i, j].length ∧ D.nx (setVs σ [i, j] vs) H1) = (fun (vs : List V) H1 => vs.length = [i, j].length ∧ D.nx (setVs σ [i, j] vs) H1) := by
    funext vs H1
    exact propext ⟨fun h => h.2, fun h => ⟨rfl, h⟩⟩
  rw [e2]
  exact q
theorem par3 {i j l : Nat} {x y z : Str} {px py pz' pt pos : Pos} {kt k2 pt2} (hc : X.calm = true) (hN : X.N.Nodup) (hi : X.N[i]? = some x) (hj : X.N[j]? = some y) (hl : X.N[l]? = some z) (hij : i ≠ j) (hil : i ≠ l) (hjl : j ≠ l)
    (hx : X.env.scope.names.lookup x = some .local) (hy : X.env.scope.names.lookup y = some .local) (hz : X.env.scope.names.lookup z = some .local)
    (hw : swappedStores [.Tuple [.Name x px, .Name y py, .Name z pz'] kt pt] (.Tuple [a, b, c] k2 pt2) X.env = pure (some [x, y, z]))
    (hs : swapsWithSole [.Tuple [.Name x px, .Name y py, .Name z pz'] kt pt] (.Tuple [a, b, c] k2 pt2) pos.line X.env = pure false) {ta : TA} (h : PA X [a, b, c] ta) :
    ∃ t : TS, PS X (.Assign [.Tuple [.Name x px, .Name y py, .Name z pz'] kt pt] (.Tuple [a, b, c] k2 pt2) pos) t ∧ ∀ D σ H, (ta σ H fun vs H1 => vs.length = [i, j, l].length ∧ D.nx (setVs σ [i, j, l] vs) H1) → t D σ H := by
  refine ⟨_, ps_par3 hc hN hi hj hl hij hil hjl hx hy hz h hw hs, fun D σ H q => ?_⟩
  show ta σ H (fun vs H1 => ∃ u v w, vs = [u, v, w] ∧ D.nx (((σ.set i (some u)).set j (some v)).set l (some w)) H1)
  have e : (fun vs H1 => ∃ u v w, vs = [u, v, w] ∧ D.nx (((σ.set i (some u)).set j (some v)).set l (some w)) H1) = (fun (vs : List V) H1 => vs.length = [i, j, l].length ∧ D.nx (setVs σ [i, j, l] vs) H1) := by
    funext vs H1
    apply propext
    constructor
    · rintro ⟨u, v, w, rfl, h2⟩
      exact ⟨rfl, h2⟩
    · rintro ⟨h1, h2⟩
      match vs, h1, h2 with
      | [u, v, w], _, h2 => exact ⟨u, v, w, rfl, h2⟩
  rw [e]
  exact q

/-! ### constants of a module, built-in names -/
theorem ad_globI {x : Str} {i : Int} (hg : Gl X x) (hm : ∃ t, X.mg x = some (.int i t)) (hd : (x == ("__debug__" : Str)) = false := by decide) : AD X W (.Name x pos) (mC (.int i)) := by
  obtain ⟨t, h⟩ := hm
  exact ad_c (pe_glob (v := .int i) hg h ⟨t, rfl⟩ hd) fun _ => .int i
theorem ad_globS {x : Str} {z : Str} (hg : Gl X x) (hm : ∃ t, X.mg x = some (.str z t)) (hd : (x == ("__debug__" : Str)) = false := by decide) : AD X W (.Name x pos) (mC (.str z)) := by
  obtain ⟨t, h⟩ := hm
  exact ad_c (pe_glob (v := .str z) hg h ⟨t, rfl⟩ hd) fun _ => .str z

/-! ### isinstance of data by a built-in type -/
def tyD : D → String
  | .none => "NoneType"
  | .bool _ => "bool"
  | .int _ => "int"
  | .str _ => "str"
  | .list _ => "list"
  | .tuple _ => "tuple"
  | .dict _ => "dict"
def isD (T : String) (d : D) : Option Bool := match d with
  | .dict _ => none
  | d => kitB (tyD d) T
theorem tyX_of {K : Frag} {w : Wd} {v : V} {d : D} (s : Same w.I w.H) (h : Dq K w.I v d) (hd : ∀ q, d ≠ .dict q) : TyX K w.H v (.type (tyD d)) := by
  cases h with
  | non => exact .base .non
  | bl b => exact .base (.bl b)
  | int i => exact .base (.int i)
  | str x => exact .base (.str x)
  | lst h _ => exact .base (.lst (s _ _ h))
  | tup h _ =>
    rcases h with (h | ⟨o, h⟩) | h
    · exact .base (.tup (s _ _ h))
    · exact .fTuple (s _ _ h)
    · obtain ⟨o, _, _, h1, h2, _⟩ := h
      exact .kTuple h1 h2
  | scr h _ => exact absurd rfl (hd _)
  | raw => exact absurd rfl (hd _)
  | exn _ _ => exact absurd rfl (hd _)
def mIsi (T : String) (ma : M D) : M D := fun E => (ma E).bind fun d E1 => lift ((isD T d).map .bool) E1
theorem pe_isi {T x : Str} {t : String} {te : TE} {p1 p2 : Pos} (hg : Gl X "isinstance") (hm : X.mg "isinstance" = none) (hT : Gl X x) (hmT : X.mg x = none) (hv : bootBuiltins x = some (.type t)) (he : PE X e te) (hn : x ≠ "__name__" := by decide) (hdT : (x == ("__debug__" : Str)) = false := by decide)
    (hst : starEach [e, .Name x p2] X.env = (false, eval e X.env) :: starEach [.Name x p2] X.env := by rfl) (hs2 : starEach [.Name x p2] X.env = (false, eval (.Name x p2) X.env) :: starEach [] X.env := by rfl) (hpl : (backTo pos (starEach [.Name x p2] X.env)).any (·.1) = false := by rfl) :
    PE X (.Call (.Name "isinstance" p1) [e, .Name x p2] [] pos) (tCB (rIsi X.K) (tCons te (tCons (tC (.ty t)) tNil))) :=
  pe_callB call_isi hg hm (by decide +kernel) (pa_cons he (pa_cons (pe_bltn (v := .ty t) hT hmT hv rfl hn hdT) pa_nil hs2) hst) (by decide) (by decide) hst hpl
theorem sn_isi {t : String} {te : TE} (s : Sn X.K X.mg W (RD X.K) te ma) : Sn X.K X.mg W (RD X.K) (tCB (rIsi X.K) (tCons te (tCons (tC (.ty t)) tNil))) (mIsi t ma) := fun w σ E Q k po => by
  refine s.run k po back_D fun d E1 w1 k1 s1 po1 v h1 => ?_
  obtain ⟨r, hr, q⟩ := po1.lift
  cases ed : isD t d with
  | none => rw [ed] at hr; cases hr
  | some b =>
    rw [ed] at hr
    cases hr
    have nd : ∀ q, d ≠ .dict q := fun q e => by rw [e] at ed; cases ed
    have kb : kitB (tyD d) t = some b := by
      cases d <;> first | exact ed | cases ed
    exact ⟨v, .ty t, .type (tyD d), .type t, b, rfl, .ty t, tyX_of k1.sub h1 nd, kit_ty kb, q w1 k1 (Stp.refl _) _ (.bl b)⟩
theorem ad_isi {x : Str} {t : String} {p1 p2 : Pos} (hg : Gl X "isinstance") (hm : X.mg "isinstance" = none) (hT : Gl X x) (hmT : X.mg x = none) (hv : bootBuiltins x = some (.type t)) (he : AD X W e ma) (hn : x ≠ "__name__" := by decide) (hdT : (x == ("__debug__" : Str)) = false := by decide)
    (hst : starEach [e, .Name x p2] X.env = (false, eval e X.env) :: starEach [.Name x p2] X.env := by rfl) (hs2 : starEach [.Name x p2] X.env = (false, eval (.Name x p2) X.env) :: starEach [] X.env := by rfl) (hpl : (backTo pos (starEach [.Name x p2] X.env)).any (·.1) = false := by rfl) :
    AD X W (.Call (.Name "isinstance" p1) [e, .Name x p2] [] pos) (mIsi t ma) := by
  obtain ⟨te, p, s⟩ := he
  exact ⟨_, pe_isi (T := x) hg hm hT hmT hv p hn hdT hst hs2 hpl, sn_isi s⟩

/-! ### a op b op' c -/
def mChain (f g : D → D → Option D) (ma mb mc : M D) : M D := fun E => (ma E).bind fun x E1 => (mb E1).bind fun y E2 => match f x y with
  | some (.bool true) => (mc E2).bind fun z E3 => lift (g y z) E3
  | some (.bool false) => .ok (.bool false) E2
  | _ => .no
theorem sn_chain {r r' : R2} {f g : D → D → Option D} {ta tb tc : TE} (ho : OpD X.K r f) (ho' : OpD X.K r' g) (sa : Sn X.K X.mg W (RD X.K) ta ma) (sb : Sn X.K X.mg W (RD X.K) tb mb) (sc : Sn X.K X.mg W (RD X.K) tc mc) : Sn X.K X.mg W (RD X.K) (tChain r r' ta tb tc) (mChain f g ma mb mc) := fun w σ E Q k po => by
  refine sa.run k po back_D fun d1 E1 w1 k1 s1 po1 v1 h1 => sb.run k1 po1 back_D fun d2 E2 w2 k2 s2 po2 v2 h2 => ?_
  cases e : f d1 d2 with
  | none => rw [e] at po2; exact po2.elim
  | some z =>
    rw [e] at po2
    refine ho w2 v1 v2 d1 d2 z _ k2.sub (dp_mono s2.ii _ _ h1) h2 e fun I' H' v gz hv => ?_
    cases z with
    | bool b =>
      cases hv
      refine ⟨b, rfl, ?_⟩
      cases b with
      | true =>
        rw [if_pos rfl]
        have k3 := k2.gr gz
        exact sc.run k3 (po2.from back_D gz.stp) back_D fun d3 E3 w4 k4 s4 po4 v3 h3 => by
          obtain ⟨q, hq, z⟩ := po4.lift
          refine ho' w4 v2 v3 d2 d3 q Q k4.sub (dp_mono (gz.ii.trans s4.ii) _ _ h2) h3 hq fun I5 H5 v5 g5 hv5 => z ⟨I5, H5, w4.FP⟩ (k4.gr g5) g5.stp v5 hv5
      | false =>
        rw [if_neg Bool.false_ne_true]
        exact po2 ⟨I', H', w2.FP⟩ (k2.gr gz) gz.stp _ (.bl false)
    | _ => exact po2.elim
theorem ad_chain {op op' : CmpOp} {r r' : R2} {f g : D → D → Option D} (hr : OpR X (compareOp op) r) (hr' : OpR X (compareOp op') r') (ho : OpD X.K r f) (ho' : OpD X.K r' g) (ha : AD X W a ma) (hb : AD X W b mb) (hc : AD X W c mc) (hm : lastMarks [op, op'] [b, c] = false := by with_unfolding_all rfl) :
    AD X W (.Compare a [op, op'] [b, c] pos) (mChain f g ma mb mc) := by
  obtain ⟨ta, pa, sa⟩ := ha
  obtain ⟨tb, pb, sb⟩ := hb
  obtain ⟨tc, pc, sc⟩ := hc
  exact ⟨_, pe_chain hr hr' pa pb pc hm, sn_chain ho ho' sa sb sc⟩
theorem sn_tTest {t : TE} {m : M D} (s : Sn X.K X.mg W (RD X.K) t m) : Sn X.K X.mg W RT (tTest t) (mB m) := fun w σ E Q k po => by
  refine s.run k po back_T fun d E1 w1 k1 s1 po1 v h1 => ?_
  cases d with
  | bool b =>
    cases h1
    exact ⟨b, rfl, po1 w1 k1 (Stp.refl _)⟩
  | _ => exact po1.elim
theorem at_chain {op op' : CmpOp} {r r' : R2} {f g : D → D → Option D} (hr : OpR X (compareOp op) r) (hr' : OpR X (compareOp op') r') (ho : OpD X.K r f) (ho' : OpD X.K r' g) (ha : AD X W a ma) (hb : AD X W b mb) (hc : AD X W c mc) (hm : lastMarks [op, op'] [b, c] = false := by with_unfolding_all rfl) :
    AT X W (.Compare a [op, op'] [b, c] pos) (mB (mChain f g ma mb mc)) := by
  obtain ⟨ta, pa, sa⟩ := ha
  obtain ⟨tb, pb, sb⟩ := hb
  obtain ⟨tc, pc, sc⟩ := hc
  exact ⟨_, pt_chain hr hr' pa pb pc hm, sn_tTest (sn_chain ho ho' sa sb sc)⟩

/-! ### truth -/
theorem tru_ok {K : Frag} {w : Wd} {v : V} {d : D} {k : Bool} (s : Same w.I w.H) (h : Dq K w.I v d) (e : truD d = some k) : TruV K v w.H k := by
  cases h with
  | non => cases e; rfl
  | bl b => cases e
  | int i => cases e; rfl
  | str x =>
    have e' : (if x.length ≤ sizeLine then some (x.length != 0) else none) = some k := e
    split at e'
    · next hl =>
      cases e'
      refine ⟨hl, ?_⟩
      cases z : x.length with
      | zero => rfl
      | succ n =>
        have h1 : ((n + 1 : Nat) != 0) = true := by simp
        have h2 : (((n + 1 : Nat) : Int) != 0) = true := by simp; omega
        rw [h1, h2]
    · cases e'
  | lst h hs =>
    cases e
    refine .inl ⟨_, SqL.of (s _ _ h), ?_⟩
    cases hs <;> rfl
  | tup h hs =>
    cases e
    refine .inr (.inl ⟨_, sqT_mono s h, ?_⟩)
    cases hs <;> rfl
  | scr h hs => cases e
  | raw => cases e
  | exn _ _ => cases e
theorem at_tru (he : ∀ whole, isTrue e X.env whole = (do let v ← whole; standAt e.pos; holding [v] (truthy v))) (ha : AD X W e ma) : AT X W e (mTru truD ma) := by
  obtain ⟨ta, pa, sa⟩ := ha
  refine ⟨_, pt_truth pa he, fun w σ E Q k po => sa.run k po back_T fun d E1 w1 k1 s1 po1 v h1 => ?_⟩
  obtain ⟨b, hb, q⟩ := po1.lift
  exact ⟨b, tru_ok k1.sub h1 hb, q w1 k1 (Stp.refl _)⟩
/-- a slot's own list -/
def mTruPl (mp : En → Option (Nat × List PSt)) : M Bool := fun E => match mp E with
  | some (k, π) => (match nodeE E k π with
    | some (.lst os) => .ok (!os.isEmpty) E
    | _ => .no)
  | none => .no
theorem at_truPl {mp : En → Option (Nat × List PSt)} (he : ∀ whole, isTrue e X.env whole = (do let v ← whole; standAt e.pos; holding [v] (truthy v))) (ha : APl X e mp) : AT X W e (mTruPl mp) := by
  obtain ⟨ta, pa, sa⟩ := ha
  refine ⟨_, pt_truth pa he, fun w σ E Q ok po => ?_⟩
  unfold mTruPl at po
  cases em : mp E with
  | none => rw [em] at po; exact po.elim
  | some kp =>
    obtain ⟨k, π⟩ := kp
    rw [em] at po
    simp only at po
    split at po
    · next os en =>
      refine sa w σ E _ ok k π em fun w1 u ok1 p1 hu => ?_
      obtain ⟨v, hv, hat⟩ := hu
      obtain ⟨oo, eo, eg⟩ := nodeE_some en
      obtain ⟨v', a, vs, fp, c1, c2, c3, c4, c5, _⟩ := ok1.cell eo eg
      rw [hv] at c1
      cases c1
      have eu := hat.inj c2
      subst eu
      refine ⟨!os.isEmpty, .inl ⟨vs, SqL.of c3, ?_⟩, po w1 ok1 p1.stp⟩
      have l := ors_len c5
      cases vs <;> cases os <;> first | rfl | (simp at l)
    · exact po.elim

/-! ### list(range(..)) -/
def rngO1 : List D → Option (List D)
  | [.int n] => if n ≤ 16777216 ∧ -16777216 ≤ n then some (rangeD 0 n.toNat) else none
  | _ => none
def rngO2 : List D → Option (List D)
  | [.int i, .int j] => if 0 ≤ i ∧ i ≤ 16777216 ∧ j ≤ 16777216 ∧ 0 ≤ j then some (rangeD i (j - i).toNat) else none
  | _ => none
theorem dps_rgV {K : Frag} {I : Hp} (a b : Int) : DqAll K I (rgV a b) (rangeD a (b - a).toNat) := by
  unfold rgV rangeD
  generalize (List.range (b - a).toNat) = l
  induction l with
  | nil => exact .nil
  | cons x l ih => exact .cons (.int _) ih
theorem ao_listRg1 {p1 p2 pos2 : Pos} (hc : X.calm = true) (hg : Gl X "list") (hm : X.mg "list" = none) (hg2 : Gl X "range") (hm2 : X.mg "range" = none) (he : AD X W e ma) (na : starEach [e] X.env = (false, eval e X.env) :: starEach [] X.env := by rfl)
    (nb : starEach [.Call (.Name "range" p2) [e] [] pos2] X.env = (false, eval (.Call (.Name "range" p2) [e] [] pos2) X.env) :: starEach [] X.env := by rfl) :
    AO X W (.Call (.Name "list" p1) [.Call (.Name "range" p2) [e] [] pos2] [] pos) (mCallO rngO1 (mArgD ma mNilA)) := by
  obtain ⟨te, p, s⟩ := he
  refine ⟨_, pe_listRg hc hg hm (prg_1 hg2 hm2 p na) nb, fun w σ E Q k po => s.runz k (Stp.refl _) (show Po X.K X.mg W σ _ w ((ma E).bind fun x E1 => lift ((rngO1 [x]).map lstO) E1) from by
    have z : mCallO rngO1 (mArgD ma mNilA) E = ((ma E).bind fun x E1 => lift ((rngO1 [x]).map lstO) E1) := by
      unfold mCallO mArgD mNilA
      cases ma E <;> rfl
    rw [z] at po
    exact po) fun d E1 w1 k1 s1 po1 v h1 => ?_⟩
  obtain ⟨o, ho, q⟩ := po1.lift
  cases d with
  | int n =>
    cases h1
    refine ⟨n, rfl, ?_⟩
    have ho' : (if n ≤ 16777216 ∧ -16777216 ≤ n then some (rangeD 0 n.toNat) else none).map lstO = some o := ho
    split at ho'
    · next hb =>
      cases ho'
      refine ⟨⟨by omega, by omega, by omega, by omega, by omega⟩, fun a ha => ?_⟩
      obtain ⟨k2, s2, b2⟩ := bes_new k1 s1 ha (dps_rgV (K := X.K) 0 n)
      have e1 : (n - 0).toNat = n.toNat := by rw [Int.sub_zero]
      rw [e1] at b2
      exact q _ k2 s2 _ _ b2
    · cases ho'
  | _ => cases ho
theorem ao_listRg2 {p1 p2 pos2 : Pos} (hc : X.calm = true) (hg : Gl X "list") (hm : X.mg "list" = none) (hg2 : Gl X "range") (hm2 : X.mg "range" = none) (ha : AD X W a ma) (hb : AD X W b mb) (na : starEach [a, b] X.env = (false, eval a X.env) :: starEach [b] X.env := by rfl)
    (nb : starEach [b] X.env = (false, eval b X.env) :: starEach [] X.env := by rfl) (hp : (backTo pos2 (starEach [b] X.env)).any (·.1) = false := by rfl) (nc : starEach [.Call (.Name "range" p2) [a, b] [] pos2] X.env = (false, eval (.Call (.Name "range" p2) [a, b] [] pos2) X.env) :: starEach [] X.env := by rfl) :
    AO X W (.Call (.Name "list" p1) [.Call (.Name "range" p2) [a, b] [] pos2] [] pos) (mCallO rngO2 (mArgD ma (mArgD mb mNilA))) := by
  obtain ⟨ta, pa, sa⟩ := ha
  obtain ⟨tb, pb, sb⟩ := hb
  refine ⟨_, pe_listRg hc hg hm (prg_2 hg2 hm2 pa pb na nb hp) nc, fun w σ E Q k po => sa.runz k (Stp.refl _) (show Po X.K X.mg W σ _ w ((ma E).bind fun x E1 => (mb E1).bind fun y E2 => lift ((rngO2 [x, y]).map lstO) E2) from by
    have z : mCallO rngO2 (mArgD ma (mArgD mb mNilA)) E = ((ma E).bind fun x E1 => (mb E1).bind fun y E2 => lift ((rngO2 [x, y]).map lstO) E2) := by
      unfold mCallO mArgD mNilA
      cases ma E with
      | ok x E1 =>
        simp only [bind_ok]
        cases mb E1 <;> rfl
      | exc _ _ _ => rfl
      | no => rfl
    rw [z] at po
    exact po) fun d1 E1 w1 k1 s1 po1 v1 h1 => sb.runz k1 s1 po1 fun d2 E2 w2 k2 s2 po2 v2 h2 => ?_⟩
  obtain ⟨o, ho, q⟩ := po2.lift
  cases d1 with
  | int i =>
    cases d2 with
    | int j =>
      cases h1
      cases h2
      refine ⟨i, j, rfl, rfl, ?_⟩
      have ho' : (if 0 ≤ i ∧ i ≤ 16777216 ∧ j ≤ 16777216 ∧ 0 ≤ j then some (rangeD i (j - i).toNat) else none).map lstO = some o := ho
      split at ho'
      · next hb =>
        cases ho'
        refine ⟨⟨by omega, by omega, by omega, by omega, by omega⟩, fun a ha => ?_⟩
        obtain ⟨k3, s3, b3⟩ := bes_new k2 (s1.trans s2) ha (dps_rgV (K := X.K) i j)
        exact q _ k3 s3 _ _ b3
      · cases ho'
    | _ => cases ho
  | _ => cases ho

/-! ### x op= e -/
def mAug (g : D → D → Option D) (i : Nat) (ma : M D) : M Out := fun E => match E[i]? with
  | some (some (.dt x)) => (ma E).bind fun y E1 => (match g x y with
    | some z => if i < E1.length then .ok .nx (E1.set i (some (.dt z))) else .no
    | none => .no)
  | _ => .no
theorem as_aug {op : Operator} {r : R2} {g : D → D → Option D} (i : Nat) {x : Str} {pos' : Pos} (hi : i ∉ pz) (hg : OpD X.K r g) (hp : ∀ {te : TE}, PE X e te → PS X (.AugAssign (.Name x pos') op e pos) (tAug i te r)) (he : AD X W e ma) : AS X W pz (.AugAssign (.Name x pos') op e pos) (mAug g i ma) := by
  obtain ⟨te, p, s⟩ := he
  refine ⟨_, hp p, fun w σ E D k po => ?_⟩
  unfold mAug at po
  split at po
  · next d e0 =>
    obtain ⟨v, h1, h2⟩ := k.data e0
    refine ⟨v, h1, s.runS k po fun y E1 w1 k1 s1 po1 u hu => ?_⟩
    split at po1
    · next z hz =>
      split at po1
      · next hl =>
        refine hg w1 v u d y z _ k1.sub (dp_mono s1.ii _ _ h2) hu hz fun I' H' vz gz hvz => ?_
        obtain ⟨w2, e2, k2, s2⟩ := (k1.gr gz).put (bes_dt (w := w) (k1.gr gz) hvz) hl (s1.trans gz.stp)
        have r := po1 w2 _ k2 s2 (Ag.set hi)
        show D.nx _ _
        have e3 : w2.H = H' := e2
        rw [← e3]; exact r
      · exact po1.elim
    · exact po1.elim
  · exact po.elim
end
end Lf
set_option Elab.async false
set_option linter.all false
set_option maxRecDepth 100000
set_option maxHeartbeats 4000000
/-! The lifting layer: what is never reached; calls without arguments, methods, instances, fields; moving. -/
namespace Lf
open PySem PySem.Spec PyProof.Rows L2

/-! ### never reached -/
section
variable {X : Cx} {W : WX} {pz : List Nat} {st : Stmt} {sts : List Stmt} {e : Expr} {es : List Expr}
theorem ad_no : AD X W e (fun _ => .no) := ⟨fun _ _ _ => False, ⟨fun pins s σ H Q I h => h.elim⟩, fun w σ E Q k po => po.elim⟩
theorem ao_no : AO X W e (fun _ => .no) := ⟨fun _ _ _ => False, ⟨fun pins s σ H Q I h => h.elim⟩, fun w σ E Q k po => po.elim⟩
theorem as_no : AS X W pz st (fun _ => .no) := ⟨fun _ _ _ => False, ⟨fun pins s σ H D I h => h.elim⟩, fun w σ E D k po => po.elim⟩
theorem ab_no : AB X W pz sts (fun _ => .no) := ⟨fun _ _ _ => False, ⟨fun pins s σ H D I h => h.elim⟩, fun w σ E D k po => po.elim⟩
end

/-! ### f() -/
section
variable {X : Cx} {W : WX} {x m : Str} {p pos apos : Pos} {e : Expr} {es : List Expr} {ma : M (List Arg)} {run : List O → Rs O} {kk : Nat} {f C : Addr} {fd : FuncData} {ps : List Str} {np : Nat} {c : Str}
theorem sn_nil : Sn X.K X.mg W (RA X.K) tNil mNilA := fun w σ E Q k po => po w k (Stp.refl _) [] .nil
theorem ao_call0 (F : FnOk X.prog X.w X.K X.mg X.base (L2N.CX X.prog X.w) kk f fd ps (spOf X.K X.mg np run)) (hr : Room kk X.A) (hg : Gl X x) (hm : X.mg x = some (.ref f)) (hk : PySem.W.keepIn X.K (.ref f) = true) (hb : Binds X.K fd ps []) (tk : L2N.Takes X W)
    (hnp : ∀ os r, run os = r → (∀ a b, r = .ok a b → os.length = np) ∧ (∀ a b c, r = .exc a b c → os.length = np)) (hdb : (x == ("__debug__" : Str)) = false := by decide) :
    AO X W (.Call (.Name x p) [] [] pos) (mCall run mNilA) := by
  refine ⟨tCallS (spOf X.K X.mg np run) (WE W) tNil, ⟨fun pins s σ H Q I h => ?_⟩, sn_call sn_nil hnp⟩
  refine wpAny_Call_Name_kw (ld_glob I hg hm ?_ hdb)
  exact PySem.W.callWith_K0 I.kIn hk (run_fnS (us := []) (vs := []) F hr hb (L2N.passAt tk σ) I .nil h)

/-! ### o.m(..) -/
def tMethQ (C : Addr) (m : Str) (sp : Sp) (E : L2.St → XK) (ta : TE) (t : TA) : TE := fun σ H Q => ta σ H fun x H1 => ∃ a dx fs, x = .ref a ∧ H1 a = some (.ins C dx fs) ∧ fs.lookup m = none ∧ t σ H1 fun vs H2 => sp (x :: vs) H2 Q (E σ)
theorem pe_methQ {CX : CXT} {sp : Sp} {E : L2.St → XK} {o : Expr} {ta : TE} {t : TA} {pl : Sem Bool} (he : PE X o ta) (c : Cls X.K C) (hm : Meth X.K C m f) (F : FnOk X.prog X.w X.K X.mg X.base CX kk f fd ps sp) (hr : Room kk X.A) (hb : Binds X.K fd ps []) (hx : ∀ σ, PassesAt CX X σ (E σ)) (ha : PA X (e :: es) t)
    (hst : starEach (e :: es) X.env = (false, eval e X.env) :: starEach es X.env := by rfl) (hpl : (backTo pos (starEach es X.env)).any (·.1) = false := by rfl)
    (ht : eval (.Call (.Attribute o m apos) (e :: es) [] pos) X.env = (do
      let ov ← eval o X.env
      standAt apos.atName
      let (f, first) ← holding [ov] (getMethod ov m pl)
      callWith pos f first (backTo pos (starEach (e :: es) X.env)) (backToKw pos (keywordEach [] X.env))) := by rfl) :
    PE X (.Call (.Attribute o m apos) (e :: es) [] pos) (tMethQ C m sp E ta t) := by
  refine ⟨fun pins s σ H Q I h => ?_⟩
  refine PySem.W.methodCall_KW (pl := pl) (thn (he.run pins s σ H _ I h) fun u s1 ⟨x, H1, I1, rx, a, dx, fs, ex, ea, l, q⟩ => ?_) ht
  subst ex
  obtain rfl : u = Value.ref a := rx
  refine getmeth_ok I1 ea c hm l ?_
  refine PySem.W.callWith_K (first := [.ref a]) (h₀ := X.base) I.ok.mod.kin hm.kp (thn (ha.run pos pins s1 σ H1 _ I1 q) fun us s2 ⟨vs, H2, I2, r, q2⟩ => ⟨I2.kIn, ?_⟩) hst hpl
  exact run_fnS (us := .ref a :: us) (vs := .ref a :: vs) F hr hb (hx σ) I2 (.cons rfl r) q2
theorem pe_methQ0 {CX : CXT} {sp : Sp} {E : L2.St → XK} {o : Expr} {ta : TE} {pl : Sem Bool} (he : PE X o ta) (c : Cls X.K C) (hm : Meth X.K C m f) (F : FnOk X.prog X.w X.K X.mg X.base CX kk f fd ps sp) (hr : Room kk X.A) (hb : Binds X.K fd ps []) (hx : ∀ σ, PassesAt CX X σ (E σ))
    (ht : eval (.Call (.Attribute o m apos) [] [] pos) X.env = (do
      let ov ← eval o X.env
      standAt apos.atName
      let (f, first) ← holding [ov] (getMethod ov m pl)
      callWith pos f first (backTo pos (starEach [] X.env)) (backToKw pos (keywordEach [] X.env))) := by rfl) :
    PE X (.Call (.Attribute o m apos) [] [] pos) (tMethQ C m sp E ta tNil) := by
  refine ⟨fun pins s σ H Q I h => ?_⟩
  refine PySem.W.methodCall_KW (pl := pl) (thn (he.run pins s σ H _ I h) fun u s1 ⟨x, H1, I1, rx, a, dx, fs, ex, ea, l, q⟩ => ?_) ht
  subst ex
  obtain rfl : u = Value.ref a := rx
  refine getmeth_ok I1 ea c hm l ?_
  exact PySem.W.callWith_K0 (first := [.ref a]) I1.kIn hm.kp (run_fnS (us := [.ref a]) (vs := [.ref a]) F hr hb (hx σ) I1 (.cons rfl .nil) q)
def mMeth (i : Nat) (c m : Str) (run : List O → Rs O) (ma : M (List Arg)) : M O := fun E => match E[i]? with
  | some (some (.ins c' fs)) => if c' = c ∧ fGet m fs = none then mCall run (mArgS i ma) E else .no
  | _ => .no
theorem fGet_none : ∀ {fs : List (Str × V)} {fos : List (Str × O)} {m : Str}, fs.map (·.1) = fos.map (·.1) → fGet m fos = none → fs.lookup m = none
  | [], _, _, _, _ => rfl
  | (g, v) :: fs, [], _, q, _ => by simp at q
  | (g, v) :: fs, (g', o) :: fos, m, q, h => by
    have q1 : g = g' := by simpa using (List.cons.inj q).1
    have q2 : fs.map (·.1) = fos.map (·.1) := (List.cons.inj q).2
    subst q1
    have h' : (if m = g then some o else fGet m fos) = none := h
    by_cases c : m = g
    · rw [if_pos c] at h'; cases h'
    · rw [if_neg c] at h'
      have cb : (m == g) = false := by simpa using c
      simp only [List.lookup, cb]
      exact fGet_none q2 h'
theorem sn_argS (i : Nat) {t : TA} (s : Sn X.K X.mg W (RA X.K) t ma) : Sn X.K X.mg W (RA X.K) (tCons (tVar i) t) (mArgS i ma) := fun w σ E Q k po => by
  unfold mArgS at po
  split at po
  · next o e =>
    obtain ⟨v, fp, h1, h2, _⟩ := k.env.get e
    exact ⟨v, h1, s.run k po back_A fun as E2 w2 k2 s2 po2 vs h2 => po2 w2 k2 (Stp.refl _) _ (.cons h1 h2)⟩
  · exact po.elim
theorem sn_meth (i : Nat) {t : TA} (hC : X.mg c = some (.ref C)) (s : Sn X.K X.mg W (RA X.K) t ma) (hnp : ∀ os r, run os = r → (∀ a b, r = .ok a b → os.length = np) ∧ (∀ a b c, r = .exc a b c → os.length = np)) :
    Sn X.K X.mg W (RO X.K X.mg) (tMethQ C m (spOf X.K X.mg np run) (WE W) (tVar i) t) (mMeth i c m run ma) := fun w σ E Q k po => by
  unfold mMeth at po
  split at po
  · next c' fos e =>
    split at po
    · next hc =>
      obtain ⟨rfl, hf⟩ := hc
      obtain ⟨v, q1, q2⟩ := sn_call (sn_argS i s) hnp w σ E Q k po
      obtain ⟨v', fp, h1, h2, _⟩ := k.env.get e
      rw [q1] at h1
      cases h1
      refine ⟨v, q1, ?_⟩
      cases h2 with
      | ins g0 g1 g2 gk g3 =>
        rw [hC] at g0
        cases g0
        exact ⟨_, _, _, rfl, g1, fGet_none gk hf, q2⟩
    · exact po.elim
  · exact po.elim
theorem ao_meth (i : Nat) {y : Str} {yp : Pos} {pl : Sem Bool} (hC : X.mg c = some (.ref C)) (hy : PE X (.Name y yp) (tVar i)) (cl : Cls X.K C) (hm : Meth X.K C m f) (F : FnOk X.prog X.w X.K X.mg X.base (L2N.CX X.prog X.w) kk f fd ps (spOf X.K X.mg np run)) (hr : Room kk X.A) (hb : Binds X.K fd ps []) (tk : L2N.Takes X W)
    (hnp : ∀ os r, run os = r → (∀ a b, r = .ok a b → os.length = np) ∧ (∀ a b c, r = .exc a b c → os.length = np)) (ha : AA X W (e :: es) ma)
    (hst : starEach (e :: es) X.env = (false, eval e X.env) :: starEach es X.env := by rfl) (hpl : (backTo pos (starEach es X.env)).any (·.1) = false := by rfl)
    (ht : eval (.Call (.Attribute (.Name y yp) m apos) (e :: es) [] pos) X.env = (do
      let ov ← eval (.Name y yp) X.env
      standAt apos.atName
      let (f, first) ← holding [ov] (getMethod ov m pl)
      callWith pos f first (backTo pos (starEach (e :: es) X.env)) (backToKw pos (keywordEach [] X.env))) := by rfl) :
    AO X W (.Call (.Attribute (.Name y yp) m apos) (e :: es) [] pos) (mMeth i c m run ma) := by
  obtain ⟨ta, pa, sa⟩ := ha
  exact ⟨_, pe_methQ (pl := pl) hy cl hm F hr hb (fun σ => L2N.passAt tk σ) pa hst hpl ht, sn_meth i hC sa hnp⟩
theorem ao_meth0 (i : Nat) {y : Str} {yp : Pos} {pl : Sem Bool} (hC : X.mg c = some (.ref C)) (hy : PE X (.Name y yp) (tVar i)) (cl : Cls X.K C) (hm : Meth X.K C m f) (F : FnOk X.prog X.w X.K X.mg X.base (L2N.CX X.prog X.w) kk f fd ps (spOf X.K X.mg np run)) (hr : Room kk X.A) (hb : Binds X.K fd ps []) (tk : L2N.Takes X W)
    (hnp : ∀ os r, run os = r → (∀ a b, r = .ok a b → os.length = np) ∧ (∀ a b c, r = .exc a b c → os.length = np))
    (ht : eval (.Call (.Attribute (.Name y yp) m apos) [] [] pos) X.env = (do
      let ov ← eval (.Name y yp) X.env
      standAt apos.atName
      let (f, first) ← holding [ov] (getMethod ov m pl)
      callWith pos f first (backTo pos (starEach [] X.env)) (backToKw pos (keywordEach [] X.env))) := by rfl) :
    AO X W (.Call (.Attribute (.Name y yp) m apos) [] [] pos) (mMeth i c m run mNilA) :=
  ⟨_, pe_methQ0 (pl := pl) hy cl hm F hr hb (fun σ => L2N.passAt tk σ) ht, sn_meth i hC sn_nil hnp⟩

/-! ### C(..) -/
def tMakeQ (C : Addr) (sp : Sp) (E : L2.St → XK) (t : TA) : TE := fun σ H Q => t σ H fun vs H1 => ∀ x dx, H1 x = none → H1 dx = none → dx ≠ x →
  sp (.ref x :: vs) (upd (upd H1 dx (.own x)) x (.ins C dx [])) (fun v H2 => v = .non ∧ Q (.ref x) H2) (E σ)
theorem run_makeQ {CX : CXT} {sp : Sp} {E : L2.St → XK} {pins : List (Addr × Obj)} {σ : L2.St} {H : Hp} {s : Shared} {Q : VK} {us : List Value} {vs : List V} (M : Mk X.K C f) (F : FnOk X.prog X.w X.K X.mg X.base CX kk f fd ps sp) (hr : Room (kk + 1) X.A) (hb : Binds X.K fd ps [])
    (hx : PassesAt CX X σ (E σ)) (I : Inv X pins σ H s) (r : Vals vs us)
    (h : ∀ x dx, H x = none → H dx = none → dx ≠ x → sp (.ref x :: vs) (upd (upd H dx (.own x)) x (.ins C dx [])) (fun v H2 => v = .non ∧ Q (.ref x) H2) (E σ)) :
    wpAny (model X.prog X.w) X.A (call (.ref C) us) (EP X pins σ Q) X.xe s := by
  have hq := h (s.heap.objs.size + 1) s.heap.objs.size (I.hok.fresh (Nat.le_succ _)) (I.hok.fresh (Nat.le_refl _)) (Nat.ne_of_lt (Nat.lt_succ_self _))
  have I2 := Inv.made (C := C) I
  have r2 : Vals (V.ref (s.heap.objs.size + 1) :: vs) (Value.ref (s.heap.objs.size + 1) :: us) := .cons rfl r
  have hl : (Value.ref (s.heap.objs.size + 1) :: us ++ []).length = ps.length := by
    have e := r2.length
    rw [F.len _ _ _ _ hq] at e
    rw [List.append_nil]
    exact e.symm
  have b := hb _ (Value.ref (s.heap.objs.size + 1) :: us) I2.kIn hl
  rw [List.append_nil] at b
  refine wpAny_call (make_map (f := f) I.kIn M.makes M.init (beq_iff_eq.mp M.fn) (codeAny_mono (F.run _ X.stack _ _ ⟨Value.ref (s.heap.objs.size + 1) :: us, []⟩ (Value.ref (s.heap.objs.size + 1) :: us) _ _ (E σ) (hr.make C us [])
    (I2.env0.make C us []) b r2 hq) fun r s' hq' => ?_))
  cases r with
  | error e => exact hx pins _ _ e s' I2 hq'
  | ok fl =>
    cases fl with
    | ret u =>
      obtain ⟨v, H', I3, rv, ev, q3⟩ := I2.after hq'
      subst ev
      exact ⟨rv, ⟨V.ref (s.heap.objs.size + 1), H', I3, rfl, q3⟩⟩
    | next => exact False.elim hq'
    | brk => exact False.elim hq'
    | cont => exact False.elim hq'
theorem pe_makeQ {CX : CXT} {sp : Sp} {E : L2.St → XK} {t : TA} (M : Mk X.K C f) (F : FnOk X.prog X.w X.K X.mg X.base CX kk f fd ps sp) (hr : Room (kk + 1) X.A) (hg : Gl X x) (hm : X.mg x = some (.ref C)) (hb : Binds X.K fd ps []) (hx : ∀ σ, PassesAt CX X σ (E σ))
    (ha : PA X (e :: es) t) (hdb : (x == ("__debug__" : Str)) = false := by decide) (he : starEach (e :: es) X.env = (false, eval e X.env) :: starEach es X.env := by rfl) (hpl : (backTo pos (starEach es X.env)).any (·.1) = false := by rfl) :
    PE X (.Call (.Name x p) (e :: es) [] pos) (tMakeQ C sp E t) := by
  refine ⟨fun pins s σ H Q I h => ?_⟩
  refine wpAny_Call_Name_kw (ld_glob I hg hm ?_ hdb)
  refine PySem.W.callWith_K (h₀ := X.base) I.ok.mod.kin M.kp (thn (ha.run pos pins s σ H _ I h) fun us s1 ⟨vs, H1, I1, r, q⟩ => ⟨I1.kIn, ?_⟩) he hpl
  exact run_makeQ M F hr hb (hx σ) I1 r q
def mMake (c : Str) (run : List O → Rs O) (ma : M (List Arg)) : M O := fun E => (ma E).bind fun as E1 => match argsD as with
  | some ds => (match run (.ins c [] :: ds.map .dt) with
    | .ok (.dt .none) (some o :: _) => .ok o E1
    | .exc c fs _ => .exc c fs E1
    | _ => .no)
  | none => .no
theorem sn_make {t : TA} (hC : X.mg x = some (.ref C)) (s : Sn X.K X.mg W (RA X.K) t ma) (hnp : ∀ os r, run os = r → (∀ a b, r = .ok a b → os.length = np) ∧ (∀ a b c, r = .exc a b c → os.length = np)) :
    Sn X.K X.mg W (RO X.K X.mg) (tMakeQ C (spOf X.K X.mg np run) (WE W) t) (mMake x run ma) := fun w σ E Q k po => by
  refine s.runz k (Stp.refl _) po fun as E1 w1 k1 s1 po1 vs hv => ?_
  cases ea : argsD as with
  | none => simp only [ea] at po1; exact po1.elim
  | some ds =>
    simp only [ea] at po1
    have hda := hv.data ea
    intro a dx ha hdx hne
    have sh : Same w1.H (upd (upd w1.H dx (.own a)) a (.ins C dx [])) := fun b u e => by
      rw [upd_ne (ne_of_none e ha), upd_ne (ne_of_none e hdx)]
      exact e
    have ia : w1.I a = none := k1.sub.free ha
    have kc : Ok X.K X.mg ⟨w1.I, upd (upd w1.H dx (.own a)) a (.ins C dx []), [a]⟩ ((V.ref a :: vs).map some) ((O.ins x [] :: ds.map O.dt).map some) := ⟨k1.sub.trans sh, by
      have q := EO.cons (K := X.K) (mg := X.mg) (I := w1.I) (H := upd (upd w1.H dx (.own a)) a (.ins C dx [])) (.ow (OR.ins (fs := []) (fos := []) hC upd_same ia rfl .nil)) (eo_dt hda)
      simpa using q, by simp⟩
    have out : ∀ b, (∃ u, w1.H b = some u) → b ≠ a := fun b ⟨u, hu⟩ e => by rw [e, ha] at hu; cases hu
    have back : ∀ w', Stp ⟨w1.I, upd (upd w1.H dx (.own a)) a (.ins C dx []), [a]⟩ w' → Same w'.I w'.H → Ok X.K X.mg ⟨w'.I, w'.H, w1.FP⟩ σ E1 ∧ Stp w ⟨w'.I, w'.H, w1.FP⟩ := fun w' s' sub => by
      have keep : ∀ b u, w1.H b = some u → w'.H b = some u := fun b u h => s'.fr b u (by simpa using out b ⟨u, h⟩) (sh b u h)
      have keepI : ∀ b u, w1.H b = some u → w1.I b = none → w'.I b = none := fun b u h i => s'.nw b u (by simpa using out b ⟨u, h⟩) (sh b u h) i
      refine ⟨⟨sub, k1.env.mono s'.ii fun b m => ?_, k1.nd⟩, s1.trans ⟨s'.ii, fun b u _ h => keep b u h, fun b u _ h i => keepI b u h i, fun b m => .inl m⟩⟩
      obtain ⟨n, u, hu⟩ := k1.env.there b m
      exact ⟨(keep b u hu).trans hu.symm, keepI b u hu n⟩
    have lv : vs.length = ds.length := dps_length hda
    cases r : run (.ins x [] :: ds.map .dt) with
    | no => rw [r] at po1; exact po1.elim
    | exc c fs es =>
      rw [r] at po1
      refine ⟨_, _, rfl, ?_, kc, ?_⟩
      · have q := (hnp _ _ r).2 _ _ _ rfl
        simp at q
        simp [lv, q]
      · rw [r]
        intro w' cls dd k' s' er
        obtain ⟨k2, s2⟩ := back w' s' k'.sub
        exact po1 ⟨w'.I, w'.H, w1.FP⟩ cls dd k2 s2 er
    | ok ro es =>
      rw [r] at po1
      refine ⟨_, _, rfl, ?_, kc, ?_⟩
      · have q := (hnp _ _ r).1 _ _ rfl
        simp at q
        simp [lv, q]
      · rw [r]
        intro w' v fp k' s' b
        obtain ⟨k2, s2⟩ := back w' s' k'.sub
        cases ro with
        | dt d =>
          cases d with
          | none =>
            cases es with
            | nil => exact po1.elim
            | cons e0 es =>
              cases e0 with
              | none => exact po1.elim
              | some o =>
                refine ⟨?_, ?_⟩
                · cases b.rel with
                  | dt h => exact dp_none h
                · have env := k'.env
                  have nd := k'.nd
                  obtain ⟨fp0, FR, hperm, ho⟩ : ∃ fp0 FR, w'.FP = fp0 ++ FR ∧ OR X.K X.mg w'.I w'.H (.ref a) o fp0 := by
                    generalize hσ : (List.map some (V.ref a :: vs)) = σ0 at env
                    generalize hF : w'.FP = F0 at env
                    cases env with
                    | @cons _ _ _ _ fp0 FR h1 h2 =>
                      have hσ' := List.cons.inj hσ
                      cases h1 with
                      | ow h1 =>
                        cases hσ'.1
                        exact ⟨_, _, rfl, h1⟩
                  refine po1 ⟨w'.I, w'.H, w1.FP⟩ k2 s2 _ fp0 ⟨ho, ?_, fun b m => ?_⟩
                  · rw [hperm] at nd
                    refine List.nodup_append.mpr ⟨(List.nodup_append.mp nd).1, k1.nd, fun b m b' m' q => ?_⟩
                    subst q
                    obtain ⟨n, u, hu⟩ := k1.env.there b m'
                    rcases s'.fp b (by rw [hperm]; exact List.mem_append_left _ m) with z | z
                    · have z' : b = a := by simpa using z
                      rw [z', ha] at hu; cases hu
                    · have z' := sh b u hu
                      rw [show upd (upd w1.H dx (.own a)) a (.ins C dx []) b = none from z] at z'
                      cases z'
                  · refine new_back s1 (.inr ?_)
                    rcases s'.fp b (by rw [hperm]; exact List.mem_append_left _ m) with z | z
                    · have z' : b = a := by simpa using z
                      rw [z']; exact ha
                    · cases q : w1.H b with
                      | none => rfl
                      | some u =>
                        have z' := sh b u q
                        rw [show upd (upd w1.H dx (.own a)) a (.ins C dx []) b = none from z] at z'
                        cases z'
          | _ => exact po1.elim
        | _ => exact po1.elim
theorem ao_make (M : Mk X.K C f) (F : FnOk X.prog X.w X.K X.mg X.base (L2N.CX X.prog X.w) kk f fd ps (spOf X.K X.mg np run)) (hr : Room (kk + 1) X.A) (hg : Gl X x) (hm : X.mg x = some (.ref C)) (hb : Binds X.K fd ps []) (tk : L2N.Takes X W)
    (hnp : ∀ os r, run os = r → (∀ a b, r = .ok a b → os.length = np) ∧ (∀ a b c, r = .exc a b c → os.length = np)) (ha : AA X W (e :: es) ma)
    (hdb : (x == ("__debug__" : Str)) = false := by decide) (he : starEach (e :: es) X.env = (false, eval e X.env) :: starEach es X.env := by rfl) (hpl : (backTo pos (starEach es X.env)).any (·.1) = false := by rfl) :
    AO X W (.Call (.Name x p) (e :: es) [] pos) (mMake x run ma) := by
  obtain ⟨ta, pa, sa⟩ := ha
  exact ⟨_, pe_makeQ M F hr hg hm hb (fun σ => L2N.passAt tk σ) pa hdb he hpl, sn_make hm sa hnp⟩
end
end Lf
set_option Elab.async false
set_option linter.all false
set_option maxRecDepth 100000
set_option maxHeartbeats 4000000
/-! The lifting layer: fields stored, items moved, aliases. -/
namespace Lf
open PySem PySem.Spec PyProof.Rows L2

/-! ### o.f = e -/
def fSet (f : Str) (x : O) : List (Str × O) → List (Str × O)
  | [] => [(f, x)]
  | (g, o) :: r => if g = f then (g, x) :: r else (g, o) :: fSet f x r
section
variable {K : Frag} {mg : Str → Option Value}
theorem flds_put {I H : Hp} {f : Str} {v : V} {o : O} {fpv : List Addr} (hv : OR K mg I H v o fpv) : ∀ {fs : List (Str × V)} {fos : List (Str × O)} {fp : List Addr}, fs.map (·.1) = fos.map (·.1) → ORs K mg I H (fs.map (·.2)) (fos.map (·.2)) fp → (fpv ++ fp).Nodup →
    ∃ fp', ORs K mg I H ((putF f v fs).map (·.2)) ((fSet f o fos).map (·.2)) fp' ∧ (putF f v fs).map (·.1) = (fSet f o fos).map (·.1) ∧ fp'.Nodup ∧ ∀ b ∈ fp', b ∈ fp ∨ b ∈ fpv
  | [], [], fp, _, h, nd => by
    generalize e1 : List.map (fun x : Str × V => x.2) [] = l1 at h
    generalize e2 : List.map (fun x : Str × O => x.2) [] = l2 at h
    cases h with
    | nil => exact ⟨fpv ++ [], .cons hv .nil, rfl, nd, fun b m => .inr (by simpa using m)⟩
    | cons _ _ => cases e1
  | [], _ :: _, _, q, _, _ => by simp at q
  | _ :: _, [], _, q, _, _ => by simp at q
  | (g, v0) :: fs, (g', o0) :: fos, fp, q, h, nd => by
    have q1 : g = g' := by simpa using (List.cons.inj q).1
    have q2 : fs.map (·.1) = fos.map (·.1) := (List.cons.inj q).2
    subst q1
    have h' : ORs K mg I H (v0 :: fs.map (·.2)) (o0 :: fos.map (·.2)) fp := h
    cases h' with
    | @cons _ _ _ _ fp1 fp2 h1 h2 =>
      have n1 := List.nodup_append.mp nd
      have n2 := List.nodup_append.mp n1.2.1
      by_cases c : g = f
      · subst c
        refine ⟨fpv ++ fp2, ?_, ?_, List.nodup_append.mpr ⟨n1.1, n2.2.1, fun a m b m' => n1.2.2 a m b (List.mem_append_right _ m')⟩, fun b m => ?_⟩
        · show ORs K mg I H (List.map (·.2) (if g = g then (g, v) :: fs else (g, v0) :: putF g v fs)) (List.map (·.2) (if g = g then (g, o) :: fos else (g, o0) :: fSet g o fos)) _
          rw [if_pos rfl, if_pos rfl]
          exact .cons hv h2
        · show List.map (·.1) (if g = g then (g, v) :: fs else (g, v0) :: putF g v fs) = List.map (·.1) (if g = g then (g, o) :: fos else (g, o0) :: fSet g o fos)
          rw [if_pos rfl, if_pos rfl]
          simp [q2]
        · rcases List.mem_append.mp m with m | m
          · exact .inr m
          · exact .inl (List.mem_append_right _ m)
      · obtain ⟨fp', a1, a2, a3, a4⟩ := flds_put hv q2 h2 (List.nodup_append.mpr ⟨n1.1, n2.2.1, fun a m b m' => n1.2.2 a m b (List.mem_append_right _ m')⟩)
        refine ⟨fp1 ++ fp', ?_, ?_, List.nodup_append.mpr ⟨n2.1, a3, fun a m b m' e => ?_⟩, fun b m => ?_⟩
        · show ORs K mg I H (List.map (·.2) (if g = f then (g, v) :: fs else (g, v0) :: putF f v fs)) (List.map (·.2) (if g = f then (g, o) :: fos else (g, o0) :: fSet f o fos)) _
          rw [if_neg c, if_neg c]
          exact .cons h1 a1
        · show List.map (·.1) (if g = f then (g, v) :: fs else (g, v0) :: putF f v fs) = List.map (·.1) (if g = f then (g, o) :: fos else (g, o0) :: fSet f o fos)
          rw [if_neg c, if_neg c]
          simp [a2]
        · subst e
          rcases a4 a m' with z | z
          · exact n2.2.2 a m a z rfl
          · exact n1.2.2 a z a (List.mem_append_left _ m) rfl
        · rcases List.mem_append.mp m with m | m
          · exact .inl (List.mem_append_left _ m)
          · rcases a4 b m with z | z
            · exact .inl (List.mem_append_right _ z)
            · exact .inr z
end
def mFldO (i : Nat) (c f : Str) (mo : M O) : M Out := fun E => (mo E).bind fun o E1 => match E1[i]? with
  | some (some (.ins c' fs)) => if c' = c ∧ fs.length < 1000 then .ok .nx (E1.set i (some (.ins c (fSet f o fs)))) else .no
  | _ => .no
section
variable {X : Cx} {W : WX} {pz : List Nat} {e o : Expr} {pos apos cpos : Pos} {mo : M O} {ma : M D}
theorem as_fld (i : Nat) {c f y : Str} {yp : Pos} (hc : ClsF X c f) (hy : PE X (.Name y yp) (tVar i)) (he : AO X W e mo) (hs : swapsWith e (some (.Attribute (.Name y yp) f apos)) pos.line X.env = pure false) : AS X W pz (.Assign [.Attribute (.Name y yp) f apos] e pos) (mFldO i c f mo) := by
  obtain ⟨te, p, s⟩ := he
  refine ⟨_, ps_fld hy p hs, fun w σ E D k po => s.runS k po fun o E1 w1 k1 s1 po1 v fp b => ?_⟩
  split at po1
  · next c' fos e1 =>
    split at po1
    · next hcl =>
      obtain ⟨rfl, hl⟩ := hcl
      obtain ⟨v0, u, fpn, h1, h2, h3, h4, h5, h6⟩ := k1.node e1 (show (O.ins c' fos).get [] = some (.ins c' fos) from rfl)
      cases h2
      cases h3 with
      | @ins a C dx _ fs _ fp0 g0 g1 g2 gk g3 =>
        obtain ⟨C1, C2⟩ := hc C g0
        have ll : fs.length = fos.length := by
          have q := congrArg List.length gk
          simpa using q
        refine ⟨.ref a, h1, a, C, dx, fs, rfl, g1, C1, C2, by omega, ?_⟩
        have nd0 := List.nodup_cons.mp h4
        have bnd := List.nodup_append.mp b.nd
        have inFP : ∀ x ∈ fp0, x ∈ w1.FP := fun x m => h5 x (List.mem_cons_of_mem _ m)
        obtain ⟨fp', a1, a2, a3, a4⟩ := flds_put (f := f) b.rel gk g3 (List.nodup_append.mpr ⟨bnd.1, nd0.2, fun x m y m' => bnd.2.2 x m y (inFP y m')⟩)
        have aout : a ∉ fp' := fun m => by
          rcases a4 a m with z | z
          · exact nd0.1 z
          · exact bnd.2.2 a z a (h5 a List.mem_cons_self) rfl
        have ne : ∀ x ∈ fp', x ≠ a := fun x m q => aout (q ▸ m)
        obtain ⟨w2, e2, i2, k2, s2⟩ := h6 w fp (upd w1.H a (.ins C dx (putF f v fs))) (.ins c' (fSet f o fos)) (a :: fp') s1 b.nd b.new (fun x n => upd_ne fun q => n (by rw [q]; exact List.mem_cons_self)) (fun x y q => by
            rw [upd_ne fun z => by rw [z, g2] at q; cases q]
            exact k1.sub x y q)
          (.ins g0 upd_same g2 a2 (a1.mono (Same.refl _) fun x m => ⟨upd_ne (ne x m), (a1.there x m).1⟩)) (List.nodup_cons.mpr ⟨aout, a3⟩) fun x m => by
            rcases List.mem_cons.mp m with z | m
            · exact .inl (by rw [z]; exact List.mem_cons_self)
            · rcases a4 x m with z | z
              · exact .inl (List.mem_cons_of_mem _ z)
              · exact .inr z
        have r := po1 w2 σ k2 s2 (Ag.refl _ _)
        show D.nx σ _
        rw [← e2]
        exact r
    · exact po1.elim
  · exact po1.elim

/-! ### an item is handed on, the slot forgotten -/
def mMvIx (i j : Nat) : M O := fun E => match E[i]? with
  | some (some (.tup os)) => (match os[j]? with
    | some o => if os.length ≤ 16777216 then .ok o (E.set i none) else .no
    | none => .no)
  | some (some (.lst os)) => (match os[j]? with
    | some o => if os.length ≤ 16777216 then .ok o (E.set i none) else .no
    | none => .no)
  | some (some (.dt (.tuple ds))) => (match ds[j]? with
    | some d => .ok (.dt d) E
    | none => .no)
  | _ => .no
theorem atI_nat {α : Type} {l : List α} {j : Nat} {v : α} (h : l[j]? = some v) : atI l (j : Int) = some v := by
  have hj : j < l.length := (List.getElem?_eq_some_iff.mp h).1
  unfold atI ixN
  rw [if_pos (by omega), if_pos (by omega)]
  simpa using h
theorem ao_mvIx (i j : Nat) {x : Str} {xp : Pos} {jt} {jp : Pos} (hx : PE X (.Name x xp) (tVar i)) (hb : ∀ {ta tb : TE}, PE X (.Name x xp) ta → PE X (.Constant (.int (j : Int)) jt jp) tb → PE X (.Subscript (.Name x xp) (.Constant (.int (j : Int)) jt jp) pos) (tOp (rIx X.K) ta tb)) :
    AO X W (.Subscript (.Name x xp) (.Constant (.int (j : Int)) jt jp) pos) (mMvIx i j) := by
  refine ⟨_, hb hx pe_int, fun w σ E Q k po => ?_⟩
  unfold mMvIx at po
  have core : ∀ (os : List O) (root : O) (o : O), E[i]? = some (some root) → os[j]? = some o → os.length ≤ 16777216 → (∀ (I H : Hp) v fp, OR X.K X.mg I H v root fp → ∃ a vs fp', v = .ref a ∧ fp = a :: fp' ∧ ORs X.K X.mg I H vs os fp' ∧ (SqL X.K H a vs ∨ SqT X.K H a vs)) → Po X.K X.mg W σ (RO X.K X.mg σ Q) w (.ok o (E.set i none)) → (tOp (rIx X.K) (tVar i) (tC (.int (j : Int)))) σ w.H Q := by
    intro os root o e ej hl hr po
    obtain ⟨w', v, fp, e1, e2, e3, k', s', b⟩ := k.mv e
    obtain ⟨a, vs, fp', rfl, rfl, hs, hq⟩ := hr _ _ _ _ b.rel
    obtain ⟨u, fpj, FR, u1, u2, u3, _⟩ := ors_at hs ej
    have at1 : atI vs (j : Int) = some u := atI_nat u1
    have bnd := List.nodup_append.mp b.nd
    have nd1 := List.nodup_cons.mp bnd.1
    have sub : ∀ x ∈ fpj, x ∈ a :: fp' := fun x m => List.mem_cons_of_mem _ (u3.mem_iff.mpr (List.mem_append_left _ m))
    have fin : Q u w.H := by
      rw [← e1]
      refine po w' k' s' u fpj ⟨u2, List.nodup_append.mpr ⟨(List.nodup_append.mp (u3.nodup_iff.mp nd1.2)).1, k'.nd, fun x m y m' => bnd.2.2 x (sub x m) y m'⟩, fun x m => b.new x (sub x m)⟩
    refine ⟨.ref a, e3, ?_⟩
    rw [e1] at hq
    rcases hq with hq | hq
    · exact .inl ⟨a, vs, _, u, rfl, rfl, hq, at1, fin⟩
    · exact .inr (.inl ⟨a, vs, _, u, rfl, rfl, hq, at1, fin⟩)
  split at po
  · next os e =>
    split at po
    · next o ej =>
      split at po
      · next hl =>
        refine core os (.tup os) o e ej hl (fun I H v fp h => ?_) po
        cases h with
        | tup h1 h2 h3 => exact ⟨_, _, _, rfl, rfl, h3, .inr (SqT.of h1)⟩
      · exact po.elim
    · exact po.elim
  · next os e =>
    split at po
    · next o ej =>
      split at po
      · next hl =>
        refine core os (.lst os) o e ej hl (fun I H v fp h => ?_) po
        cases h with
        | lst h1 h2 h3 => exact ⟨_, _, _, rfl, rfl, h3, .inl (SqL.of h1)⟩
      · exact po.elim
    · exact po.elim
  · next ds e =>
    split at po
    · next d ej =>
      obtain ⟨v, h1, h2⟩ := k.data e
      obtain ⟨a, vs, rfl, g1, g2⟩ := dp_tup h2
      obtain ⟨u, hu, hd⟩ := dps_get g2 ej
      exact ⟨.ref a, h1, .inr (.inl ⟨a, vs, _, u, rfl, rfl, sqT_mono k.sub g1, atI_nat hu, po w k (Stp.refl _) u [] ⟨.dt hd, by simpa using k.nd, fun _ m => absurd m (by simp)⟩⟩)⟩
    · exact po.elim
  · exact po.elim

/-! ### xs.append(own) -/
theorem append_okO {w0 w : Wd} {σ : L2.St} {E : En} {k : Nat} {π : List PSt} {os : List O} {o : O} {y : V} {fpy : List Addr} {D : Ends} {u v : V} (s0 : Stp w0 w) (ok : Ok X.K X.mg w σ E) (en : nodeE E k π = some (.lst os)) (hl : os.length < 16777216) (hy : Bes X.K X.mg w0 w y o fpy)
    (hv : σ[k]? = some (some v)) (hat : VAt w.H v π u) (po : PoS X.K X.mg W pz σ D w0 (.ok .nx (putE E k π (.lst (os ++ [o]))))) : rAppend u [y] w.H fun _ H' => D.nx σ H' := by
  obtain ⟨oo, eo, eg⟩ := nodeE_some en
  obtain ⟨v', a, vs, fp, c1, c2, c3, c4, c5, c6, c7, c8, c9, c10⟩ := ok.cell eo eg
  rw [hv] at c1
  cases c1
  have eu := hat.inj c2
  subst eu
  have bnd := List.nodup_append.mp hy.nd
  obtain ⟨w', e1, e2, k', s'⟩ := c10 w0 fpy _ _ (fp ++ fpy) s0 hy.nd hy.new (ors_app c5 hy.rel) (List.nodup_append.mpr ⟨c7, bnd.1, fun x m y m' q => bnd.2.2 y m' x (c9 x m) q.symm⟩) fun b m => by
    rcases List.mem_append.mp m with m | m
    · exact .inl m
    · exact .inr m
  refine ⟨a, vs, y, rfl, rfl, c3, by rw [ors_len c5]; exact hl, ?_⟩
  show D.nx σ _
  rw [← e1]
  refine po w' σ ?_ s' (Ag.refl _ _)
  unfold putE
  rw [eo]
  exact k'
def mAppendO (k : Nat) (mo : M O) : M Out := fun E => match E[k]? with
  | some (some (.lst _)) => (mo E).bind fun o E1 => (match E1[k]? with
    | some (some (.lst os)) => if os.length < 16777216 then .ok .nx (E1.set k (some (.lst (os ++ [o])))) else .no
    | _ => .no)
  | _ => .no
theorem as_appendO (k : Nat) {x : Str} {xp : Pos} (hx : PE X (.Name x xp) (tVar k)) (ha : AO X W e mo) (hp : ∀ {to te : TE}, PE X (.Name x xp) to → PE X e te → PS X (.Expr (.Call (.Attribute (.Name x xp) "append" apos) [e] [] cpos) pos) (tDrop (tBM X.K "list" rAppend to (tCons te tNil)))) :
    AS X W pz (.Expr (.Call (.Attribute (.Name x xp) "append" apos) [e] [] cpos) pos) (mAppendO k mo) := by
  obtain ⟨te, pe, se⟩ := ha
  refine ⟨_, hp hx pe, fun w σ E D ok po => ?_⟩
  unfold mAppendO at po
  split at po
  · next os0 e0 =>
    obtain ⟨v, a, vs, fp, c1, c2, c3, _⟩ := ok.cell e0 (show (O.lst os0).get [] = some (.lst os0) from rfl)
    cases c2
    refine ⟨.ref a, c1, ty_list c3, ?_⟩
    refine se.runS ok po fun o E1 w1 k1 s1 po1 y fpy hy => ?_
    split at po1
    · next os e1 =>
      split at po1
      · next hl =>
        exact append_okO (W := W) (pz := pz) (D := D) (π := []) (u := .ref a) (v := .ref a) s1 k1 (show nodeE E1 k [] = some (.lst os) by unfold nodeE; rw [e1]; rfl) hl hy c1 .nil (by
          unfold putE
          rw [e1]
          exact po1)
      · exact po1.elim
    · exact po1.elim
  · exact po.elim
end
end Lf
set_option Elab.async false
set_option linter.all false
set_option maxRecDepth 100000
set_option maxHeartbeats 4000000
/-! The lifting layer: a second name for a node of an owned tree. -/
namespace Lf
open PySem PySem.Spec PyProof.Rows L2

theorem Ok.alias {K : Frag} {mg : Str → Option Value} {w : Wd} {σ : L2.St} {E : En} {k s : Nat} {o n : O} {π : List PSt} (ok : Ok K mg w σ E) (e : E[k]? = some (some o)) (g : o.get π = some n) (hs : s < E.length) :
    ∃ v u, σ[k]? = some (some v) ∧ VAt w.H v π u ∧ ∃ w', w'.H = w.H ∧ w'.I = w.I ∧ Ok K mg w' (σ.set s (some u)) ((E.set k none).set s (some n)) ∧ Stp w w' ∧
      ∀ w2 σ2 E2 n2, Stp w' w2 → Ok K mg w2 σ2 E2 → σ2[k]? = some (some v) → σ2[s]? = some (some u) → E2[s]? = some (some n2) → k < E2.length →
        ∃ w3, w3.H = w2.H ∧ w3.I = w2.I ∧ Ok K mg w3 σ2 ((E2.set s none).set k (some (o.put π n2))) ∧ Stp w w3 ∧ ∀ y r fpr, Bes K mg w' w2 y r fpr → Bes K mg w w3 y r fpr := by
  obtain ⟨w1, v, fp, a1, a2, a3, k1, s1, b⟩ := ok.mv e
  obtain ⟨u, fpn, FR, c1, c2, c3, c4⟩ := b.rel.node g
  have bnd := List.nodup_append.mp b.nd
  have nfp := List.nodup_append.mp (c3.nodup_iff.mp bnd.1)
  have inN : ∀ a ∈ fpn, a ∈ fp := fun a m => c3.mem_iff.mpr (List.mem_append_left _ m)
  have inR : ∀ a ∈ FR, a ∈ fp := fun a m => c3.mem_iff.mpr (List.mem_append_right _ m)
  obtain ⟨w', d1, d2, k', s'⟩ := k1.putA (i := s) c2 (List.nodup_append.mpr ⟨nfp.1, k1.nd, fun x m y m' => bnd.2.2 x (inN x m) y m'⟩) (by simpa using hs)
  have sA : Stp w ⟨w1.I, w1.H, fpn ++ w1.FP⟩ := ⟨s1.ii, s1.fr, s1.nw, fun a m => by
    rcases List.mem_append.mp m with m | m
    · exact b.new a (inN a m)
    · exact s1.fp a m⟩
  have inP : ∀ a ∈ w'.FP, a ∈ fpn ++ w1.FP := fun a m => by
    rcases s'.fp a m with z | z
    · exact z
    · obtain ⟨_, x, hx⟩ := k'.env.there a m
      rw [d1] at hx
      have z' : w1.H a = none := z
      rw [z'] at hx; cases hx
  have nR : ∀ a ∈ FR, a ∉ w'.FP := fun a m m' => by
    rcases List.mem_append.mp (inP a m') with z | z
    · exact nfp.2.2 a z a m rfl
    · exact bnd.2.2 a (inR a m) a z rfl
  have tR : ∀ a ∈ FR, w'.I a = none ∧ ∃ x, w'.H a = some x := fun a m => by
    obtain ⟨n, x, hx⟩ := b.rel.there a (inR a m)
    exact ⟨by rw [d2]; exact n, x, by rw [d1]; exact hx⟩
  have sw : Stp w w' := sA.trans s'
  refine ⟨v, u, a3, by rw [← a1]; exact c1, w', d1.trans a1, d2.trans a2, k', sw, fun w2 σ2 E2 n2 s2 k2 hk hu hn2 hlk => ?_⟩
  obtain ⟨w2', u', fp2, f1, f2, f3, k3, s3, b3⟩ := k2.mv hn2
  rw [hu] at f3
  cases f3
  have bn3 := List.nodup_append.mp b3.nd
  have stR : ∀ a ∈ FR, w2.H a = w'.H a ∧ w2.I a = none ∧ a ∉ w2.FP := fun a m => by
    obtain ⟨n, x, hx⟩ := tR a m
    refine ⟨(s2.fr a x (nR a m) hx).trans hx.symm, s2.nw a x (nR a m) hx n, fun m' => ?_⟩
    rcases s2.fp a m' with z | z
    · exact nR a m z
    · rw [hx] at z; cases z
  have in2 : ∀ a ∈ fp2, a ∈ w2.FP := fun a m => by
    rcases b3.new a m with z | z
    · exact z
    · obtain ⟨_, x, hx⟩ := b3.rel.there a m
      rw [f1, z] at hx; cases hx
  have in3 : ∀ a ∈ w2'.FP, a ∈ w2.FP := fun a m => by
    rcases s3.fp a m with z | z
    · exact z
    · obtain ⟨_, x, hx⟩ := k3.env.there a m
      rw [f1, z] at hx; cases hx
  obtain ⟨fq, p1, p2⟩ := c4 w2'.I w2'.H n2 fp2 (by rw [f2, ← d2]; exact s2.ii) (fun a m => ⟨by rw [f1, (stR a m).1, d1], by rw [f2]; exact (stR a m).2.1⟩) b3.rel
  have nd4 : (fq ++ w2'.FP).Nodup := by
    refine List.nodup_append.mpr ⟨p1.nodup_iff.mpr (List.nodup_append.mpr ⟨bn3.1, nfp.2.1, fun a m a' m' q => ?_⟩), bn3.2.1, fun a m a' m' q => ?_⟩
    · subst q
      exact (stR a m').2.2 (in2 a m)
    · subst q
      rcases List.mem_append.mp (p1.mem_iff.mp m) with z | z
      · exact bn3.2.2 a z a m' rfl
      · exact (stR a z).2.2 (in3 a m')
  obtain ⟨w3, g1, g2, k4, s4⟩ := k3.putA (i := k) p2 nd4 (by simpa using hlk)
  rw [set_self hk] at k4
  have inF : ∀ a ∈ w3.FP, a ∈ w2.FP ∨ a ∈ FR := fun a m => by
    rcases s4.fp a m with z | z
    · rcases List.mem_append.mp z with z | z
      · rcases List.mem_append.mp (p1.mem_iff.mp z) with z | z
        · exact .inl (in2 a z)
        · exact .inr z
      · exact .inl (in3 a z)
    · obtain ⟨_, x, hx⟩ := k4.env.there a m
      rw [g1] at hx
      have z' : w2'.H a = none := z
      rw [z'] at hx; cases hx
  have s02 : Stp w w2 := sw.trans s2
  refine ⟨w3, g1.trans f1, g2.trans f2, k4, ⟨by rw [g2, f2]; exact s02.ii, fun a x n h => by rw [g1, f1]; exact s02.fr a x n h, fun a x n h i => by rw [g2, f2]; exact s02.nw a x n h i, fun a m => ?_⟩, fun y r fpr by_ => ⟨by rw [g1, g2, f1, f2]; exact by_.rel, ?_, fun a m => new_back sw (by_.new a m)⟩⟩
  · rcases inF a m with z | z
    · exact s02.fp a z
    · exact b.new a (inR a z)
  · have q := List.nodup_append.mp by_.nd
    refine List.nodup_append.mpr ⟨q.1, k4.nd, fun a m a' m' e => ?_⟩
    subst e
    rcases inF a m' with z | z
    · exact q.2.2 a m a z rfl
    · rcases by_.new a m with y | y
      · exact nR a z y
      · obtain ⟨_, x, hx⟩ := tR a z
        rw [hx] at y; cases y
/-- the rest of a block under a second name for a node -/
def mAlias (k s : Nat) (mp : En → Option (Nat × List PSt)) (rest : M Out) : M Out := fun E => match mp E with
  | some (k', π) => if k' = k ∧ s ≠ k ∧ s < E.length then (match E[k]?, nodeE E k π with
    | some (some o), some n => (match rest ((E.set k none).set s (some n)) with
      | .ok out E2 => (match E2[s]? with
        | some (some n2) => if k < E2.length then .ok out ((E2.set s none).set k (some (o.put π n2))) else .no
        | _ => .no)
      | _ => .no)
    | _, _ => .no) else .no
  | none => .no
section
variable {X : Cx} {W : WX} {pz : List Nat} {e e1 : Expr} {st : Stmt} {sts : List Stmt} {pos : Pos} {m : M Out} {ma : M D} {mp : En → Option (Nat × List PSt)}
theorem alias_core {t : TS} {k s : Nat} {π : List PSt} {w : Wd} {σ : L2.St} {E : En} {D : Ends} {v u : V} (hs : s ∉ pz) (sb : ∀ w σ E D, Ok X.K X.mg w σ E → PoS X.K X.mg W (k :: s :: pz) σ D w (m E) → t D σ w.H) (em : mp E = some (k, π))
    (ok : Ok X.K X.mg w σ E) (hv : σ[k]? = some (some v)) (hat : VAt w.H v π u) (po : PoS X.K X.mg W pz σ D w (mAlias k s mp m E)) : t D (σ.set s (some u)) w.H := by
  unfold mAlias at po
  rw [em] at po
  simp only at po
  split at po
  · next hc =>
    obtain ⟨_, hsk, hsl⟩ := hc
    split at po
    · next o n e0 en =>
      obtain ⟨o', eo, eg⟩ := nodeE_some en
      rw [e0] at eo
      cases eo
      obtain ⟨v', u', b1, b2, w', c1, c2, k', s', back⟩ := ok.alias (s := s) e0 eg hsl
      rw [hv] at b1
      cases b1
      have eu := hat.inj b2
      subst eu
      rw [← c1]
      refine sb w' _ _ D k' ?_
      have hk' : (σ.set s (some u))[k]? = some (some v) := by rw [List.getElem?_set_ne hsk]; exact hv
      have hs' : (σ.set s (some u))[s]? = some (some u) := by
        rw [List.getElem?_set_self]
        rw [ok.env.len]; exact hsl
      cases r : m ((E.set k none).set s (some n)) with
      | no => rw [r] at po; exact po.elim
      | exc c fs E2 => rw [r] at po; exact po.elim
      | ok out E2 =>
        rw [r] at po
        simp only at po
        split at po
        · next n2 e2 =>
          split at po
          · next hlk =>
            intro w2 σ2 k2 s2 a2
            obtain ⟨w3, d1, d2, k3, s3, hb⟩ := back w2 σ2 E2 n2 s2 k2 ((a2.at_ k List.mem_cons_self).trans hk') ((a2.at_ s (List.mem_cons_of_mem _ List.mem_cons_self)).trans hs') e2 hlk
            have ag : Ag pz σ σ2 := (Ag.set hs).trans ⟨a2.len, fun i h => a2.at_ i (List.mem_cons_of_mem _ (List.mem_cons_of_mem _ h))⟩
            have z := po w3 σ2 k3 s3 ag
            cases out with
            | nx => show D.nx σ2 w2.H; rw [← d1]; exact z
            | br => show D.bk σ2 w2.H; rw [← d1]; exact z
            | ct => show D.ct σ2 w2.H; rw [← d1]; exact z
            | rt ro =>
              intro y fpr b
              show D.rt y w2.H
              rw [← d1]
              exact z y fpr (hb y ro fpr b)
          · exact po.elim
        · exact po.elim
    · exact po.elim
  · exact po.elim
/-- x = place; the rest -/
theorem ab_alias (k s : Nat) {x : Str} {xp : Pos} (hs : s ∉ pz) (hk : ∀ E k' π, mp E = some (k', π) → k' = k) (ha : APl X e mp) (hst : ∀ {te : TE}, PE X e te → PS X (.Assign [.Name x xp] e pos) (tAsg te (gName s))) (hb : AB X W (k :: s :: pz) sts m) :
    AB X W pz (.Assign [.Name x xp] e pos :: sts) (mAlias k s mp m) := by
  obtain ⟨te, p, sa⟩ := ha
  obtain ⟨t, q, sb⟩ := hb
  refine ⟨_, pss_cons (hst p) q, fun w σ E D ok po => ?_⟩
  cases em : mp E with
  | none =>
    unfold mAlias at po
    rw [em] at po
    exact po.elim
  | some kp =>
    obtain ⟨k', π⟩ := kp
    have ek := hk E k' π em
    subst ek
    refine sa w σ E _ ok k' π em fun w1 u ok1 p1 hu => ?_
    obtain ⟨v, hv, hat⟩ := hu
    show t D (σ.set s (some u)) w1.H
    exact alias_core hs sb em ok1 hv hat (po.from p1.stp (Ag.refl _ _))
def mPair (p : Nat) (ma : M D) (rest : M Out) : M Out := fun E => (ma E).bind fun d E1 => if p < E1.length then rest (E1.set p (some (.dt d))) else .no
/-- y, x = e, place; the rest -/
theorem ab_alias2 (k p s : Nat) {x y : Str} {xp yp tp tp2 : Pos} {kt kt2} (hs : s ∉ pz) (hp : p ∉ pz) (hpk : p ≠ k) (hk : ∀ E k' π, mp E = some (k', π) → k' = k) (hmp : ∀ E d, mp (E.set p (some (.dt d))) = mp E) (h1 : AD X W e1 ma) (ha : APl X e mp)
    (hst : ∀ {te tf : TE}, PE X e1 te → PE X e tf → PS X (.Assign [.Tuple [.Name y yp, .Name x xp] kt tp] (.Tuple [e1, e] kt2 tp2) pos) (tPar p s (tCons te (tCons tf tNil)))) (hb : AB X W (k :: s :: pz) sts m) :
    AB X W pz (.Assign [.Tuple [.Name y yp, .Name x xp] kt tp] (.Tuple [e1, e] kt2 tp2) pos :: sts) (mPair p ma (mAlias k s mp m)) := by
  obtain ⟨te, p1, s1⟩ := h1
  obtain ⟨tf, p2, sa⟩ := ha
  obtain ⟨t, q, sb⟩ := hb
  refine ⟨_, pss_cons (hst p1 p2) q, fun w σ E D ok po => ?_⟩
  refine s1.runS (D := D) (pz := pz) ok po fun d E1 w1 k1 st1 po1 v1 hv1 => ?_
  split at po1
  · next hl =>
    cases em : mp E1 with
    | none =>
      unfold mAlias at po1
      rw [hmp, em] at po1
      exact po1.elim
    | some kp =>
      obtain ⟨k', π⟩ := kp
      have ek := hk E1 k' π em
      subst ek
      refine sa w1 σ E1 _ k1 k' π em fun w2 u ok2 p2 hu => ?_
      obtain ⟨v, hv, hat⟩ := hu
      refine ⟨v1, u, rfl, ?_⟩
      obtain ⟨w3, e3, k3, s3⟩ := ok2.put (bes_dt (w := w2) ok2 (dp_mono p2.ii _ _ hv1)) hl (Stp.refl _)
      have hv' : (σ.set p (some v1))[k']? = some (some v) := by rw [List.getElem?_set_ne hpk]; exact hv
      show t D ((σ.set p (some v1)).set s (some u)) w2.H
      rw [← e3]
      exact alias_core (mp := mp) hs sb (by rw [hmp]; exact em) k3 hv' (by rw [e3]; exact hat) (po1.from (st1.trans (p2.stp.trans s3)) (Ag.set hp))
  · exact po1.elim
end
end Lf
set_option Elab.async false
set_option linter.all false
set_option maxRecDepth 100000
set_option maxHeartbeats 4000000
/-! The lifting layer: comprehensions with two fors, of data. -/
namespace Lf
open PySem PySem.Spec PyProof.Rows L2

section
variable {ι : Type} {X : ι → Cx} {K : Frag} {mg : Str → Option Value} {W : WX} {e tg : Expr}
theorem ad_unif {m : M D} (h : ∀ i, ∃ te : TE, PE (X i) e te ∧ Sn K mg W (RD K) te m) : ∃ te : TE, (∀ i, PE (X i) e te) ∧ Sn K mg W (RD K) te m :=
  ⟨fun σ H Q => ∀ i, (Classical.choose (h i)) σ H Q, fun i => ⟨fun pins s σ H Q I q => (Classical.choose_spec (h i)).1.run pins s σ H Q I (q i)⟩, fun w σ E Q k po i => (Classical.choose_spec (h i)).2 w σ E Q k po⟩
theorem ai_unif {m : M (List D)} (h : ∀ i, ∃ wi : TI, PI (X i) tg e wi ∧ Sn K mg W (RI K) wi m) : ∃ wi : TI, (∀ i, PI (X i) tg e wi) ∧ Sn K mg W (RI K) wi m :=
  ⟨fun σ H Q => ∀ i, (Classical.choose (h i)) σ H Q, fun i => ⟨fun pins s σ H R I q => (Classical.choose_spec (h i)).1.run pins s σ H R I (q i)⟩, fun w σ E Q k po i => (Classical.choose_spec (h i)).2 w σ E Q k po⟩
end
def lc2In (vs1 : List Nat) (bd1 : D → En → Option En) (mt1 : M Bool) (me : M D) : List D → List D → En → Option (List D × En)
  | [], acc, E => some (acc, E)
  | d :: ds, acc, E => match bd1 d E with
    | none => none
    | some E1 => match mt1 E1 with
      | .ok true E2 => (match me E2 with
        | .ok o E3 => if acc.length < 16777216 then lc2In vs1 bd1 mt1 me ds (acc ++ [o]) (killE vs1 E3) else none
        | _ => none)
      | .ok false E2 => lc2In vs1 bd1 mt1 me ds acc (killE vs1 E2)
      | _ => none
def lc2Out (vs vs1 : List Nat) (bd : D → En → Option En) (mt : M Bool) (mi1 : M (List D)) (bd1 : D → En → Option En) (mt1 : M Bool) (me : M D) : List D → List D → En → Option (List D × En)
  | [], acc, E => some (acc, E)
  | d :: ds, acc, E => match bd d E with
    | none => none
    | some E1 => match mt E1 with
      | .ok true E2 => (match mi1 E2 with
        | .ok ds1 E3 => (match lc2In vs1 bd1 mt1 me ds1 acc (killE vs1 E3) with
          | some (acc', E4) => lc2Out vs vs1 bd mt mi1 bd1 mt1 me ds acc' (killE vs E4)
          | none => none)
        | _ => none)
      | .ok false E2 => lc2Out vs vs1 bd mt mi1 bd1 mt1 me ds acc (killE vs E2)
      | _ => none
def mLc2 (vs vs1 : List Nat) (mi : M (List D)) (bd : D → En → Option En) (mt : M Bool) (mi1 : M (List D)) (bd1 : D → En → Option En) (mt1 : M Bool) (me : M D) : M O := fun E => (mi E).bind fun ds E1 => match lc2Out vs vs1 bd mt mi1 bd1 mt1 me ds [] (killE vs E1) with
  | some (acc, E2) => .ok (lstO acc) E2
  | none => .no
/-- the accumulator stands beside -/
structure AccAt (K : Frag) (w : Wd) (A : Addr) (acc : List V) (ds : List D) : Prop where
  at_ : w.H A = some (.lst acc)
  free : w.I A = none
  out : A ∉ w.FP
  dat : DqAll K w.I acc ds
theorem AccAt.step {K : Frag} {wa wb : Wd} {A : Addr} {acc : List V} {ds : List D} (s : Stp wa wb) (h : AccAt K wa A acc ds) : AccAt K wb A acc ds :=
  ⟨s.fr A _ h.out h.at_, s.nw A _ h.out h.at_ h.free, fun m => (s.fp A m).elim h.out (fun z => by rw [h.at_] at z; cases z), dps_mono s.ii _ _ h.dat⟩
theorem AccAt.push {K : Frag} {mg : Str → Option Value} {w : Wd} {σ : L2.St} {E : En} {A : Addr} {acc : List V} {ds : List D} {y : V} {d : D} (k : Ok K mg w σ E) (h : AccAt K w A acc ds) (hy : Dq K w.I y d) :
    Ok K mg ⟨w.I, upd w.H A (.lst (acc ++ [y])), w.FP⟩ σ E ∧ AccAt K ⟨w.I, upd w.H A (.lst (acc ++ [y])), w.FP⟩ A (acc ++ [y]) (ds ++ [d]) := by
  have ne : ∀ a, a ∈ w.FP → a ≠ A := fun a m q => h.out (q ▸ m)
  refine ⟨⟨fun a u e => ?_, k.env.mono (Same.refl _) fun a m => ⟨upd_ne (ne a m), (k.env.there a m).1⟩, k.nd⟩, ⟨upd_same, h.free, h.out, dps_app h.dat (.cons hy .nil)⟩⟩
  show upd w.H A _ a = some u
  rw [upd_ne fun q => by
    have e' : w.I a = some u := e
    rw [q, h.free] at e'; cases e']
  exact k.sub a u e
section
variable {X : Cx} {W : WX} {elt tg iter tg1 iter1 : Expr} {scope : Scope} {own : List (Str × Nat)} {pos : Pos} {mi mi1 : M (List D)} {bd bd1 : D → En → Option En} {mt mt1 : M Bool} {me : M D} {is is1 : List Nat}
theorem lc2_sn {wi wi1 : TI} {g g1 : TG} {tt tt1 : TT} {te : TE} {K : Frag} {mg : Str → Option Value} (vs vs1 : List Nat) (hsub : ∀ i ∈ vs1, i ∈ vs) (si : Sn K mg W (RI K) wi mi) (sg : AgS K mg is bd g) (st : Sn K mg W0 RT tt mt)
    (si1 : Sn K mg W0 (RI K) wi1 mi1) (sg1 : AgS K mg is1 bd1 g1) (st1 : Sn K mg W0 RT tt1 mt1) (se : Sn K mg W0 (RD K) te me) (his : ∀ i ∈ is, i ∈ vs) (his1 : ∀ i ∈ is1, i ∈ vs1) :
    Sn K mg W (RO K mg) (tLc2 wi g tt wi1 g1 tt1 te vs vs1) (mLc2 vs vs1 mi bd mt mi1 bd1 mt1 me) := fun w0 σ E0 Q k0 po0 => by
  refine si.runz k0 (Stp.refl _) po0 fun ds E1 w1 k1 s1 po1 J yj A hA => ?_
  -- between two turns of the outer loop
  let Nx : Nat → Hp → Prop := fun i H => ∃ w E acc od, w.H = H ∧ Ok K mg w (wipe σ vs) E ∧ Stp w1 w ∧ AccAt K w A acc od ∧ (∀ i ∈ vs, i < E.length → E[i]? = some none) ∧ Po K mg W σ (RO K mg σ Q) w0 (match lc2Out vs vs1 bd mt mi1 bd1 mt1 me (ds.drop i) od E with
    | some (acc, E2) => .ok (lstO acc) E2
    | none => .no)
  refine ⟨fun i m H => Nx i H ∧ m = ds.length - i ∧ i ≤ ds.length, ?_, ?_⟩
  · obtain ⟨w2, e2, k2, s2⟩ := k1.wipe vs
    have hA2 : w2.H A = none := by rw [e2]; exact hA
    have nA : A ∉ w2.FP := fun m => by
      obtain ⟨_, u, hu⟩ := k2.env.there A m
      rw [hA2] at hu; cases hu
    have sh : Same w2.H (upd w2.H A (.lst [])) := same_new hA2
    refine ⟨ds.length, ⟨⟨w2.I, upd w2.H A (.lst []), w2.FP⟩, _, [], [], ?_, ⟨k2.sub.trans sh, k2.env.mono (Same.refl _) fun a m => ?_, k2.nd⟩, ⟨s2.ii, fun a u n h => sh _ _ (s2.fr a u n h), s2.nw, s2.fp⟩, ⟨upd_same, k2.sub.free hA2, nA, .nil⟩, fun i m hi => killE_at vs E1 i m (by rw [killE_len] at hi; exact hi), po1⟩, by simp, Nat.zero_le _⟩
    · show upd w2.H A (.lst []) = _
      rw [e2]
    · obtain ⟨n, u, hu⟩ := k2.env.there a m
      exact ⟨(sh a u hu).trans hu.symm, n⟩
  rintro i m H ⟨⟨w, E, acc, od, rfl, k, s, hacc, hk, po⟩, rfl, hi⟩
  by_cases hlt : i < ds.length
  · have ed : ds[i]? = some ds[i] := by simp [hlt]
    rw [List.drop_eq_getElem_cons hlt] at po
    refine .inr ⟨yj.go w i s.ii k.sub hlt, Nx (i + 1), fun H' z => ⟨ds.length - (i + 1), by omega, z, rfl, hlt⟩, ?_⟩
    intro x H' hy
    obtain ⟨I', gr, hx⟩ := yj.yld w i _ x H' s.ii k.sub ed hy
    have kg := k.gr gr
    have hag := hacc.step gr.stp
    refine sg ⟨I', H', w.FP⟩ (wipe σ vs) E ds[i] x _ kg hx ?_
    cases rb : bd ds[i] E with
    | none =>
      have po' : Po K mg W σ (RO K mg σ Q) w0 (match (match bd ds[i] E with | none => none | some E1 => _ : Option (List D × En)) with
        | some (acc, E2) => .ok (lstO acc) E2
        | none => .no) := po
      rw [rb] at po'
      exact po'.elim
    | some E2 =>
      intro w2 σ2 k2 s2 ax
      have ew : wipe σ2 vs = wipe σ vs := wipe_eq ax his
      have ha2 := hag.step s2
      refine ⟨ew, st w2 σ2 E2 _ k2 ?_⟩
      have po2 : Po K mg W σ (RO K mg σ Q) w0 (match (match mt E2 with
        | .ok true E2 => (match mi1 E2 with
          | .ok ds1 E3 => (match lc2In vs1 bd1 mt1 me ds1 od (killE vs1 E3) with
            | some (acc', E4) => lc2Out vs vs1 bd mt mi1 bd1 mt1 me (ds.drop (i + 1)) acc' (killE vs E4)
            | none => none)
          | _ => none)
        | .ok false E2 => lc2Out vs vs1 bd mt mi1 bd1 mt1 me (ds.drop (i + 1)) od (killE vs E2)
        | _ => none : Option (List D × En)) with
        | some (acc, E2) => .ok (lstO acc) E2
        | none => .no) := by
        have po' : Po K mg W σ (RO K mg σ Q) w0 (match lc2Out vs vs1 bd mt mi1 bd1 mt1 me (ds[i] :: ds.drop (i + 1)) od E with
          | some (acc, E2) => .ok (lstO acc) E2
          | none => .no) := po
        unfold lc2Out at po'
        rw [rb] at po'
        exact po'
      cases rt : mt E2 with
      | no => rw [rt] at po2; exact po2.elim
      | exc c fs E3 => rw [rt] at po2; exact po2.elim
      | ok b E3 =>
        rw [rt] at po2
        intro w3 k3 s3
        have ha3 := ha2.step s3
        have s13 : Stp w1 w3 := ((s.trans gr.stp).trans s2).trans s3
        cases b with
        | false =>
          show Nx (i + 1) w3.H
          obtain ⟨w4, e4, k4, s4⟩ := k3.wipe vs
          rw [ew] at k4
          exact ⟨w4, _, acc, od, e4, k4, s13.trans s4, ha3.step s4, fun i m hi => killE_at vs E3 i m (by rw [killE_len] at hi; exact hi), po2⟩
        | true =>
          simp only at po2
          simp only [RT]
          simp only [if_true]
          refine si1 w3 σ2 E3 _ k3 ?_
          cases ri : mi1 E3 with
          | no => rw [ri] at po2; exact po2.elim
          | exc c fs E4 => rw [ri] at po2; exact po2.elim
          | ok ds1 E4 =>
            rw [ri] at po2
            simp only at po2
            intro w4 k4 s4 J1 yj1
            have ha4 := ha3.step s4
            let Nx1 : Nat → Hp → Prop := fun j H => ∃ w E acc od, w.H = H ∧ Ok K mg w (wipe σ2 vs1) E ∧ Stp w1 w ∧ Same w4.I w.I ∧ AccAt K w A acc od ∧ Po K mg W σ (RO K mg σ Q) w0 (match (match lc2In vs1 bd1 mt1 me (ds1.drop j) od E with
              | some (acc', E4) => lc2Out vs vs1 bd mt mi1 bd1 mt1 me (ds.drop (i + 1)) acc' (killE vs E4)
              | none => none : Option (List D × En)) with
              | some (acc, E2) => .ok (lstO acc) E2
              | none => .no)
            refine ⟨fun j m H => Nx1 j H ∧ m = ds1.length - j ∧ j ≤ ds1.length, ?_, ?_⟩
            · obtain ⟨w5, e5, k5, s5⟩ := k4.wipe vs1
              exact ⟨ds1.length, ⟨w5, _, acc, od, e5, k5, (s13.trans s4).trans s5, s5.ii, ha4.step s5, po2⟩, by simp, Nat.zero_le _⟩
            rintro j m5 H5 ⟨⟨w5, E5, acc5, od5, rfl, k5, s5, i5, ha5, po5⟩, rfl, hj⟩
            by_cases hlt1 : j < ds1.length
            · have ed1 : ds1[j]? = some ds1[j] := by simp [hlt1]
              rw [List.drop_eq_getElem_cons hlt1] at po5
              refine .inr ⟨yj1.go w5 j i5 k5.sub hlt1, Nx1 (j + 1), fun H' z => ⟨ds1.length - (j + 1), by omega, z, rfl, hlt1⟩, ?_⟩
              intro x6 H6 hy6
              obtain ⟨I6, gr6, hx6⟩ := yj1.yld w5 j _ x6 H6 i5 k5.sub ed1 hy6
              have k6 := k5.gr gr6
              have ha6 := ha5.step gr6.stp
              refine sg1 ⟨I6, H6, w5.FP⟩ (wipe σ2 vs1) E5 ds1[j] x6 _ k6 hx6 ?_
              unfold lc2In at po5
              cases rb1 : bd1 ds1[j] E5 with
              | none => rw [rb1] at po5; exact po5.elim
              | some E6 =>
                rw [rb1] at po5
                simp only at po5
                intro w7 σ7 k7 s7 ax7
                have ew7 : wipe σ7 vs1 = wipe σ2 vs1 := wipe_eq ax7 his1
                have ha7 := ha6.step s7
                refine ⟨ew7, st1 w7 σ7 E6 _ k7 ?_⟩
                cases rt1 : mt1 E6 with
                | no => simp only [rt1] at po5; exact po5.elim
                | exc c fs E7 => simp only [rt1] at po5; exact po5.elim
                | ok b7 E7 =>
                  intro w8 k8 s8
                  have ha8 := ha7.step s8
                  have s58 : Stp w1 w8 := ((s5.trans gr6.stp).trans s7).trans s8
                  have i58 : Same w4.I w8.I := ((i5.trans gr6.stp.ii).trans s7.ii).trans s8.ii
                  cases b7 with
                  | false =>
                    simp only [rt1] at po5
                    show Nx1 (j + 1) w8.H
                    obtain ⟨w9, e9, k9, s9⟩ := k8.wipe vs1
                    rw [ew7] at k9
                    exact ⟨w9, _, acc5, od5, e9, k9, s58.trans s9, i58.trans s9.ii, ha8.step s9, po5⟩
                  | true =>
                    simp only [rt1] at po5
                    simp only [RT]
                    simp only [if_true]
                    refine se w8 σ7 E7 _ k8 ?_
                    cases re : me E7 with
                    | no => simp only [re] at po5; exact po5.elim
                    | exc c fs E8 => simp only [re] at po5; exact po5.elim
                    | ok o E8 =>
                      simp only [re] at po5
                      intro w9 k9 s9 y hy9
                      have ha9 := ha8.step s9
                      by_cases hsz : od5.length < 16777216
                      · rw [if_pos hsz] at po5
                        obtain ⟨kU, haU⟩ := AccAt.push k9 ha9 hy9
                        refine ⟨acc5, ha9.at_, by rw [dps_length ha9.dat]; exact hsz, ?_⟩
                        obtain ⟨wA, eA, kA, sA⟩ := kU.wipe vs1
                        rw [ew7] at kA
                        have sU : Stp w1 ⟨w9.I, upd w9.H A (.lst (acc5 ++ [y])), w9.FP⟩ := by
                          have s49 := s58.trans s9
                          refine ⟨s49.ii, fun a u n h => ?_, s49.nw, s49.fp⟩
                          show upd w9.H A _ a = some u
                          rw [upd_ne fun q => by rw [q, hA] at h; cases h]
                          exact s49.fr a u n h
                        exact ⟨wA, _, acc5 ++ [y], od5 ++ [o], eA, kA, sU.trans sA, i58.trans (s9.ii.trans sA.ii), haU.step sA, po5⟩
                      · rw [if_neg hsz] at po5; exact po5.elim
            · have ej : j = ds1.length := by omega
              subst ej
              rw [List.drop_length] at po5
              refine .inl ⟨yj1.stop w5 i5 k5.sub, ?_⟩
              show Nx (i + 1) w5.H
              obtain ⟨w6, e6, k6, s6⟩ := k5.wipe vs
              have eww : wipe (wipe σ2 vs1) vs = wipe σ vs := by
                rw [← ew]
                exact wipe_eq (is := vs) ⟨by rw [wipe_length, wipe_length], fun j hj => by rw [wipe_at vs1 σ2 j fun m => hj (hsub j m), wipe_at vs σ2 j hj]⟩ fun _ h => h
              rw [eww] at k6
              exact ⟨w6, _, acc5, od5, e6, k6, s5.trans s6, ha5.step s6, fun i m hi => killE_at vs E5 i m (by rw [killE_len] at hi; exact hi), po5⟩
  · have e : i = ds.length := by omega
    subst e
    rw [List.drop_length] at po
    refine .inl ⟨yj.stop w s.ii k.sub, ?_⟩
    have kk : Ok K mg w σ E := k.unwipe hk
    refine po w kk (s1.trans s) (.ref A) [A] ⟨.lst hacc.at_ hacc.free (ors_dt hacc.dat), List.nodup_cons.mpr ⟨hacc.out, k.nd⟩, fun a m => ?_⟩
    have e : a = A := by simpa using m
    subst e
    exact new_back s1 (.inr hA)
/-- [elt for tg in iter for tg1 in iter1] -/
theorem ao_lc2 (vs1 : List Nat) (hc : X.calm = true) (hN : X.N.Nodup) (hi : AI X W tg iter mi) (ok : BlkOk X.N X.env.scope scope own) (hv : ∀ i ∈ vs1, i ∈ own.map (·.2))
    (hg : ∀ (s : Shared) (H : Hp) (C : Addr) (cl : List (Str × Addr)) (fp : List Addr), AG (X.blk s H scope (compEnvC scope cl C X.env) fp) is tg bd) (his : ∀ i ∈ is, i ∈ own.map (·.2))
    (hi1 : ∀ (s : Shared) (H : Hp) (C : Addr) (cl : List (Str × Addr)) (fp : List Addr), AI (X.blk s H scope (compEnvC scope cl C X.env) fp) W0 tg1 iter1 mi1)
    (hg1 : ∀ (s : Shared) (H : Hp) (C : Addr) (cl : List (Str × Addr)) (fp : List Addr), AG (X.blk s H scope (compEnvC scope cl C X.env) fp) is1 tg1 bd1) (his1 : ∀ i ∈ is1, i ∈ vs1)
    (he : ∀ (s : Shared) (H : Hp) (C : Addr) (cl : List (Str × Addr)) (fp : List Addr), AD (X.blk s H scope (compEnvC scope cl C X.env) fp) W0 elt me)
    (hs : ∀ x, foldedSetIterable iter X.env x = pure x) (hs1 : ∀ env x, foldedSetIterable iter1 env x = pure x) : AO X W (.ListComp elt [⟨tg, iter, [], 0⟩, ⟨tg1, iter1, [], 0⟩] scope pos) (mLc2 (own.map (·.2)) vs1 mi bd (fun E => .ok true E) mi1 bd1 (fun E => .ok true E) me) := by
  obtain ⟨wi, pi, si⟩ := hi
  obtain ⟨te, pe, se⟩ := ad_unif (ι := Ix5) (X := fun i => X.blk i.s i.H scope (compEnvC scope i.cl i.C X.env) i.fp) (K := X.K) (mg := X.mg) fun i => he i.s i.H i.C i.cl i.fp
  obtain ⟨wi1, pi1, si1⟩ := ai_unif (ι := Ix5) (X := fun i => X.blk i.s i.H scope (compEnvC scope i.cl i.C X.env) i.fp) (K := X.K) (mg := X.mg) fun i => hi1 i.s i.H i.C i.cl i.fp
  obtain ⟨g, pg, sg⟩ := ag_unif (ι := Ix5) (X := fun i => X.blk i.s i.H scope (compEnvC scope i.cl i.C X.env) i.fp) (K := X.K) (mg := X.mg) fun i => hg i.s i.H i.C i.cl i.fp
  obtain ⟨g1, pg1, sg1⟩ := ag_unif (ι := Ix5) (X := fun i => X.blk i.s i.H scope (compEnvC scope i.cl i.C X.env) i.fp) (K := X.K) (mg := X.mg) fun i => hg1 i.s i.H i.C i.cl i.fp
  exact ⟨_, pe_lc2 hc hN pi ok hv (fun s H C cl fp => pg ⟨s, H, C, cl, fp⟩) (fun _ _ _ _ _ => pts_nil) (fun s H C cl fp => pi1 ⟨s, H, C, cl, fp⟩) (fun s H C cl fp => pg1 ⟨s, H, C, cl, fp⟩) (fun _ _ _ _ _ => pts_nil) (fun s H C cl fp => pe ⟨s, H, C, cl, fp⟩) hs hs1,
    lc2_sn _ _ hv si sg (fun w σ E Q k po => po w k (Stp.refl _)) si1 sg1 (fun w σ E Q k po => po w k (Stp.refl _)) se his his1⟩
end
end Lf
set_option Elab.async false
set_option linter.all false
set_option maxRecDepth 100000
set_option maxHeartbeats 4000000
/-! The lifting layer: own exceptions whose __init__ says super().__init__(x); self.f = x. -/
namespace Lf
open PySem PySem.Spec PyProof.Rows L2
open PySem.W (Looks)
abbrev exTl : List Value := [.type "Exception", .type "BaseException", .type "object"]

section
open PySem.W PySem.Calls Builtin Builtin.ObjectAttr
variable {prog : Program} {w : World} {A : Around} {E : Value → Shared → Prop} {R : Result → Shared → Prop} {hp : Heap} {g : Array GenState} {d : Drawn} {t : Nat} {os : OsState}
/-- the first field of such an exception -/
theorem osa_first {K : Frag} {name : Str} {tk : Tok} {v : Value} {x C : Addr} {fv : Array Value} {cd : ClassData}
    (X : K.In hp) (hx : hp.get? x = some { cls := .ref C, data := .fields fv }) (hcd : W.clsIn K C = some cd) (hov : excOver K C exTl = true) (hh : cd.hasDict = true) (ht : takerIn K C name = some none)
    (hq : ∀ h' tk' dx, (∀ b o, b ≠ x → hp.get? b = some o → h'.get? b = some o) → hp.objs.size ≤ dx → dx ≠ x → h'.get? x = some { cls := .ref C, dict := some dx, data := .fields fv } →
      h'.Ns1 dx (fun y => if y = name then some v else none) → R (.ok (.ret .none)) ⟨h', g, d, tk', os⟩) :
    codeAny (model prog w) A (.call (.builtin "object.__setattr__") ⟨[.ref x, .str name tk, v], []⟩) R ⟨hp, g, d, t, os⟩ := by
  have I : W.InstAt hp x { cls := .ref C, data := .fields fv } C none := ⟨hx, rfl, rfl, trivial⟩
  have hxs : x ≠ hp.objs.size := Nat.ne_of_lt (Heap.lt_size hx)
  refine osa_openX F.store_Exception X I hov ht fun b => ?_
  have hcls : W.Looks (model prog w) hp (classData C) cd := W.looks_clsIn X hcd
  obtain ⟨nm, bs, mro, ns, qn, hd, sn, sb, ab, col, del⟩ := cd
  dsimp only at hh
  subst hh
  unfold storeInOwnDict ownDictForStores
  repeat (first | with_reducible refine HandSPX.store_in_new ?_ ?_ | with_reducible refine wpAny_loadPart_at hx ?_ | with_reducible refine hcls.at ?_ | wp_step)
  · exact ⟨_, #[], _, (Heap.get?_update_ne _ _ _ _ hxs.symm).trans (Heap.get?_push_at rfl rfl), rfl, fun e he => absurd he (by simp), fun _ => rfl⟩
  · intro h' tk' hn' hs
    have hx₁ : (hp.push { cls := .type "dict", data := .dict #[] }).get? x = some { cls := .ref C, data := .fields fv } := Heap.get?_push_of_some _ hx
    refine hq h' tk' hp.objs.size (fun b o hb ho => ?_) (Nat.le_refl _) hxs.symm ?_ hn'
    · exact (hs.2 b (Nat.ne_of_lt (Heap.lt_size ho))).trans ((Heap.get?_update_ne _ _ _ _ hb).trans (Heap.get?_push_of_some _ ho))
    · exact (hs.2 x hxs).trans (Heap.get?_update_self _ hx₁ rfl)
end

/-! ### what the written part says of such a class -/
structure ExI (P : Program) (K : Frag) (C : Addr) (f : Str) where
  fI : Addr
  cc : Addr
  cda : Addr
  name : Str
  qual : Str
  ar : Str
  n0 : Option Expr
  n1 : Option Expr
  q0 : Pos
  q1 : Pos
  names : List (Str × NameKind)
  more : List (Str × Const)

  kV : Value
  doc : Value
  pm : Value
  ct : Value
  an : Option Addr
  oc : Value
  od : Option Addr
  osl : Array (Option Value)
  (p0 p1 p2 p3 p4 p5 p6 p7 p8 p9 : Pos)
abbrev ExI.scope {P : Program} {K : Frag} {C : Addr} {f : Str} (T : ExI P K C f) : Scope := { kind := .function, names := T.names, isGenerator := false, isCoroutine := false, more := T.more }
structure ExI.Ok {P : Program} {K : Frag} {C : Addr} {f : Str} (T : ExI P K C f) : Prop where
  ini : PySem.W.findIn K (.ref C) "__init__" = some (some (.ref T.fI))
  tyI : PySem.W.typeIn K (.ref T.fI) = some (.type "function")
  fn : K.lookup T.fI = some ⟨T.oc, T.od, .func (PySem.W.ksFn T.name T.qual ⟨[], [⟨"self", T.n0, T.q0⟩, ⟨T.ar, T.n1, T.q1⟩], none, [], [], none, []⟩
    [.Expr (.Call (.Attribute (.Call (.Name "super" T.p0) [] [] T.p1) "__init__" T.p2) [.Name T.ar T.p3] [] T.p4) T.p5, .Assign [.Attribute (.Name "self" T.p6) f T.p7] (.Name T.ar T.p8) T.p9] T.scope .none T.kV T.doc T.pm T.an (.ref T.cda) T.ct T.cc), T.osl⟩
  bnd : ∀ u v : Value, bindArgs (PySem.W.ksFn T.name T.qual ⟨[], [⟨"self", T.n0, T.q0⟩, ⟨T.ar, T.n1, T.q1⟩], none, [], [], none, []⟩
    [.Expr (.Call (.Attribute (.Call (.Name "super" T.p0) [] [] T.p1) "__init__" T.p2) [.Name T.ar T.p3] [] T.p4) T.p5, .Assign [.Attribute (.Name "self" T.p6) f T.p7] (.Name T.ar T.p8) T.p9] T.scope .none T.kV T.doc T.pm T.an (.ref T.cda) T.ct T.cc) ⟨[u, v], []⟩ = pure [(("self" : Str), u), (T.ar, v)]
  code : PySem.W.codeIn K (.ref T.cda) T.qual = true
  file : ∃ cl cd vs sl fi tf, K.lookup T.cda = some ⟨cl, cd, .fields vs, sl⟩ ∧ vs[2]? = some (.str fi tf) ∧ ((P.main.file : Str) == fi) = true
  cell : ∃ cl cd sl, K.lookup T.cc = some ⟨cl, cd, .cell (some (.ref C)), sl⟩
  par : PySem.W.ks_superIn K C C "__init__" = some (some (.builtin "Exception.__init__"))
  exn : PySem.W.subIn K (.ref C) (.type "Exception") = some true
  third : PySem.W.nsIn K PySem.cStatics "thirdparty.any" = some none
  exi : PySem.W.excInitIn K C exTl "Exception.__new__" = true
  ovr : PySem.W.excOver K C exTl = true
  tak : PySem.W.takerIn K C f = some none
  sa : PySem.W.findIn K (.ref C) "__setattr__" = some (some (.builtin "object.__setattr__"))
  dct : PySem.W.hasDictIn K C = true
  base : PySem.W.subIn K (.ref C) (.type "BaseException") = some true
  ty : PySem.W.typeIn K (.ref C) = some (.type "type")
  kp : PySem.W.keepIn K (.ref C) = true
  self : PySem.W.mroIn K C (.ref C) = some true
  k1 : T.scope.names.lookup ("super" : Str) = some .globalImplicit
  k2 : T.scope.names.lookup ("__class__" : Str) = some .free
  k3 : T.scope.names.lookup ("self" : Str) = some .local
  k4 : T.scope.names.lookup T.ar = some .local
  k8 : ∀ x ∈ T.scope.names, x.2 ≠ .cell
  k9 : T.ar ≠ "self"
  kd : (T.ar == ("__debug__" : Str)) = false
  line : (T.p2.endLine == T.p4.line) = true
  top : (P.main.scope.names.lookup ("super" : Str)).isSome = false

section
open PySem.W PySem.Calls
variable {prog : Program} {w : World} {A : Around} {E : Value → Shared → Prop} {R : Result → Shared → Prop} {h : Heap} {g : Array GenState} {d : Drawn} {tk : Nat} {os : OsState} {K : Frag} {C : Addr} {f : Str}
/-- the def __init__ called: e the exception that was just made, t its args -/
theorem exi_code (T : ExI prog K C f) (O : T.Ok) {mg mb : Str → Option Value} {e t0 : Addr} {v : Value} (X : K.In h) (gl : h.Ns mainGlobals mg) (hsup : mg "super" = none) (bl : h.Ns builtinsNs mb) (hbl : mb "super" = some (.type "super")) (lim : h.NoLimit) (nk : ∀ o, K.lookup e ≠ some o)
    (he : h.get? e = some (HandSPX.excO C t0)) (hroom : A.depth < recursionLimit)
    (hq : ∀ h' tk' t1 dx, (∀ b o, b ≠ e → h.get? b = some o → h'.get? b = some o) → h.objs.size ≤ dx → dx ≠ e → h'.get? e = some { cls := .ref C, dict := some dx, data := .fields #[.ref t1, .none, .none, .none, .bool false, .none] } →
      h'.Ns1 dx (fun y => if y = f then some v else none) → R (.ok (.ret .none)) ⟨h', g, d, tk', os⟩) :
    codeAny (model prog w) A (.call (.ref T.fI) ⟨[.ref e, v], []⟩) R ⟨h, g, d, tk, os⟩ := by
  obtain ⟨cl, cd, vs, sl, fi, tf, hcda, hvs, hfile⟩ := O.file
  obtain ⟨ccl, ccd, ccs, hcell⟩ := O.cell
  obtain ⟨cD, hcD, hdct⟩ := any_some O.dct
  have hbind : BindsTo ⟨h, g, d, tk, os⟩ (PySem.W.ksFn T.name T.qual ⟨[], [⟨"self", T.n0, T.q0⟩, ⟨T.ar, T.n1, T.q1⟩], none, [], [], none, []⟩
    [.Expr (.Call (.Attribute (.Call (.Name "super" T.p0) [] [] T.p1) "__init__" T.p2) [.Name T.ar T.p3] [] T.p4) T.p5, .Assign [.Attribute (.Name "self" T.p6) f T.p7] (.Name T.ar T.p8) T.p9] T.scope .none T.kV T.doc T.pm T.an (.ref T.cda) T.ct T.cc) ⟨[.ref e, v], []⟩ [("self", .ref e), (T.ar, v)] := .of_eq (O.bnd _ _)
  have hse : (("self" : Str) == T.ar) = false := by
    cases q : (("self" : Str) == T.ar) with
    | false => rfl
    | true => exact absurd (beq_iff_eq.mp q).symm O.k9
  have l1 : (([(("self" : Str), Value.ref e), (T.ar, v)] : List (Str × Value)).reverse).lookup ("self" : Str) = some (.ref e) := by
    show List.lookup ("self" : Str) [(T.ar, v), (("self" : Str), Value.ref e)] = _
    simp only [List.lookup, hse]
    simp
  have l2 : (([(("self" : Str), Value.ref e), (T.ar, v)] : List (Str × Value)).reverse).lookup T.ar = some v := by
    show List.lookup T.ar [(T.ar, v), (("self" : Str), Value.ref e)] = _
    simp [List.lookup]
  refine ks_codeAny_call_defAt hroom (X _ _ O.fn) rfl lim (codeRec_of X O.code) rfl hbind O.k8 (fun x hx => ?_) (fun h₀ hn k0 => ?_) rfl rfl rfl
  · rcases List.mem_cons.mp hx with q | q
    · rw [q]; exact O.k3
    · have q' : x = (T.ar, v) := by simpa using q
      rw [q']; exact O.k4
  show _root_.PySem.wpAt (model prog w) (A.deeper (ksEnv T.qual T.scope h.objs.size T.fI (.ref T.cda) T.cc)) (.func _ (ksEnv T.qual T.scope h.objs.size T.fI (.ref T.cda) T.cc)) (execs _ (ksEnv T.qual T.scope h.objs.size T.fI (.ref T.cda) T.cc)) _ _ _
  have X0 : K.In h₀ := X.keeps k0
  have e0 := k0 _ _ he
  obtain ⟨oD, hD1, hD2⟩ : ∃ oD, h₀.get? C = some oD ∧ oD.data = .cls cD := by
    unfold clsIn at hcD
    split at hcD
    · rename_i c d cd' sl ho
      cases hcD
      exact ⟨_, X0 _ _ ho, rfl⟩
    · cases hcD
  have hev : ∀ env : Env, eval (.Call (.Attribute (.Call (.Name "super" T.p0) [] [] T.p1) "__init__" T.p2) [.Name T.ar T.p3] [] T.p4) env = (do
      let ov ← attributeBase (.Call (.Name "super" T.p0) [] [] T.p1) "__init__" env (eval (.Call (.Name "super" T.p0) [] [] T.p1) env)
      standAt T.p2.atName
      let (f, first) ← holding [ov] (getMethod ov "__init__" (do return (← importBound (.Call (.Name "super" T.p0) [] [] T.p1) env).getD true))
      callWith T.p4 f first (backTo T.p4 (starEach [.Name T.ar T.p3] env)) []) := fun env => by
    show (do
      let ov ← attributeBase (.Call (.Name "super" T.p0) [] [] T.p1) "__init__" env (eval (.Call (.Name "super" T.p0) [] [] T.p1) env)
      standAt T.p2.atName
      methodCall (.Call (.Name "super" T.p0) [] [] T.p1) "__init__" T.p2 T.p4 env ov 1 (backTo T.p4 (starEach [.Name T.ar T.p3] env)) []) = _
    unfold methodCall methodCallPos
    simp only [O.line, Bool.or_true, if_true]
    rfl
  refine ks_wpAt_execs_cons (ks_wpAt_Expr_any (ks_wpAt_MethodCall (he := hev _) (ks_wpAt_super_base (env := ksEnv T.qual T.scope h.objs.size T.fI (.ref T.cda) T.cc) O.k1 O.k2 (by decide) rfl (X0 _ _ O.fn) rfl rfl rfl (X0 _ _ hcda) rfl hvs hfile O.top ?_)) rfl rfl)
  refine ks_loadName_global rfl O.k1 (loadGlobal_builtin (env := ksEnv T.qual T.scope h.objs.size T.fI (.ref T.cda) T.cc) (gl.keeps k0) hsup (bl.keeps k0) hbl ⟨rfl, ?_⟩)
  refine wpAny_loadName_free rfl O.k2 rfl ⟨_, X0 _ _ hcell, rfl⟩ ?_
  refine wpAny_loadName_local rfl O.k3 hn l1 ?_
  refine ks_wpAny_isType_cls hD1 hD2 ⟨rfl, ?_⟩
  refine ks_wpAny_call_super hD1 hD2 e0 rfl (fun c q => by cases q) (looks_mroIn X0 O.self) (fun h1 e1 k1 => ?_)
  have X1 : K.In h1 := X0.keeps k1
  have ee1 := k1 _ _ e0
  have hxC : e ≠ C := fun q => by
    subst q
    rw [hD1] at e0
    cases e0
    cases hD2
  have I1 : InstAt h1 e (HandSPX.excO C t0) C none := ⟨ee1, rfl, rfl, trivial⟩
  have hin : Looks (model prog w) h1 (isInstance (.ref e) (.type "Exception")) true := I1.type.andThen (looks_subIn X1 O.exn)
  have hpar : alongIn K "__init__" ((cD.mro.dropWhile (· != .ref C)).drop 1) = some (some (.builtin "Exception.__init__")) := by
    have q := O.par
    unfold ks_superIn at q
    rw [hcD] at q
    exact q
  refine ESX.getMethod_super e1 (looks_opaque X1 O.third) (l₀ := cD.mro) (fun A Q E s k q => wpAny_bind ((looks_clsIn X1 hcD) A _ E s k (wpAny_pure q))) rfl X1 hpar hxC (by decide) hin ?_
  have k2 : ∀ b o, h1.get? b = some o → (h1.push (ESX.bw e)).get? b = some o := fun b o q => Heap.get?_push_of_some _ q
  have hu : (h1.push (ESX.bw e)).get? h1.objs.size = some (ESX.bw e) := Heap.get?_push_at rfl rfl
  have hn2 := (hn.keeps k1).keeps k2
  have hen : (ksEnv T.qual T.scope h.objs.size T.fI (.ref T.cda) T.cc).locals = h.objs.size := rfl
  obtain ⟨nm, N, qn, bs, bm, hdc, sn, sub, ab, col, dd, k00, k01, k02, k03, k05, hC, hT⟩ := excInit_of (X1.keeps k2) O.exi
  have hdb : (T.ar == ("__debug__" : Str)) = false := O.kd
  show wpAny (model prog w) _ (callWith T.p4 (.ref h1.objs.size) [] (backTo T.p4 (starEach (.Name T.ar T.p3 :: []) (ksEnv T.qual T.scope h.objs.size T.fI (.ref T.cda) T.cc))) []) _ _ _
  refine ESX.callWith_bound (x := e) (PyProof.Rows.args_cons (wpAny_Name (wpAny_loadName_local rfl O.k4 hn2 l2 (PyProof.Rows.args_nil ⟨hu, ?_⟩)) hdb) rfl) rfl rfl
  refine ESX.call_bw hC (k2 _ _ ee1) hu (by show 1 ≤ sizeLine; rw [sizeLine_eq]; omega) (fun h3 t1 k3 e3 => ?_)
  have kk : ∀ b o, b ≠ e → h.get? b = some o → h3.get? b = some o := fun b o nb q => k3 b o nb (k2 _ _ (k1 _ _ (k0 _ _ q)))
  have X3 : K.In h3 := fun b o q => kk b o (fun z => nk o (z ▸ q)) (X _ _ q)
  have neL : h.objs.size ≠ e := Nat.ne_of_gt (Heap.lt_size he)
  have hn3 : h3.Ns h.objs.size (fun x => List.lookup x ([(("self" : Str), Value.ref e), (T.ar, v)] : List (Str × Value)).reverse) := by
    obtain ⟨oL, es, ep, hL, r⟩ := hn2
    exact ⟨oL, es, ep, k3 _ _ neL hL, r⟩
  have sz : h.objs.size ≤ h3.objs.size := by
    obtain ⟨oL, es, ep, hL, r⟩ := hn3
    exact Nat.le_of_lt (Heap.lt_size hL)
  refine ks_wpAt_execs_cons (wpAt_of_wpAny (plainObj_wpAny_Assign_Attribute (wpAny_Name (wpAny_loadName_local rfl O.k4 hn3 l2 (wpAny_Name (wpAny_loadName_local rfl O.k3 hn3 l1 (PySem.W.set_plain X3 (ox := HandSPX.excO C t1) (od := none) ⟨e3, rfl, rfl, trivial⟩ O.sa ?_)) (by decide))) hdb) rfl))
  refine osa_first X3 e3 hcD O.ovr hdct O.tak (fun h4 tk4 dx k4 sz4 ne4 e4 n4 => ?_)
  refine wpAt_of_wpAny (wpAny_execs_nil ?_)
  exact hq h4 tk4 t1 dx (fun b o nb q => k4 b o nb (kk b o nb q)) (Nat.le_trans sz sz4) ne4 e4 n4
end
end Lf
set_option Elab.async false
set_option linter.all false
set_option maxRecDepth 100000
set_option maxHeartbeats 4000000
/-! The lifting layer: raise, try. -/
namespace Lf
open PySem PySem.Spec PyProof.Rows L2

section
variable {X : Cx} {W : WX} {pz : List Nat} {x : Str} {p pos : Pos} {e : Expr} {C : Addr} {f : Str} {t : TA} {ma : M D}
/-- C(), an own exception class without __init__ -/
theorem pmk0 (q : PySem.W.excIn X.K C exTl "Exception.__new__" = true) (gC : X.mg x = some (.ref C)) (kC : PySem.W.keepIn X.K (.ref C) = true) (r : Raises X (.ref C)) (hg : Gl X x) (hdb : (x == ("__debug__" : Str)) = false := by decide) :
    L2N.PMk X (.Call (.Name x p) [] [] pos) (fun _ H Q => Q (.ref C) none H) := by
  intro pins s σ H Q I h
  refine wpAny_Call_Name_kw (ld_glob I hg gC ?_ hdb)
  refine PySem.W.callWith_K0 I.kIn kC ?_
  show wpAny _ _ (call (.ref C) []) _ _ _
  obtain ⟨bm, N, nm, qn, bs, hdct, sn, sub, ab, col, dd, k0, k1, k2, k3, k5, mN, hC, hN, hni, T⟩ := exc_obj I.kIn q
  refine wpAny_call_exc_subT F.excBase_Exception T hC hN hni (fun h' e hm => ?_) (by show 0 ≤ sizeLine; exact Nat.zero_le _)
  exact L2N.mk_of I hm r h (I.hok.gone hm.new)
/-- C(e), an own exception class that stores its argument -/
theorem pmk1 (T : ExI X.prog X.K C f) (O : T.Ok) (hr : Room 1 X.A) (gC : X.mg x = some (.ref C)) (hsup : X.mg "super" = none) (hbs : bootBuiltins "super" = some (.type "super")) (hg : Gl X x) (ha : PA X [e] t) (hdb : (x == ("__debug__" : Str)) = false := by decide)
    (he : starEach [e] X.env = (false, eval e X.env) :: starEach [] X.env := by rfl) (hpl : (backTo pos (starEach [] X.env)).any (·.1) = false := by rfl) :
    L2N.PMk X (.Call (.Name x p) [e] [] pos) (fun σ H Q => t σ H fun vs H1 => ∃ v, vs = [v] ∧ ∀ d, H1 d = none → Q (.ref C) (some d) (upd H1 d (.xd [(f, v)]))) := by
  intro pins s σ H Q I h
  refine wpAny_Call_Name_kw (ld_glob I hg gC ?_ hdb)
  refine PySem.W.callWith_K (h₀ := X.base) I.ok.mod.kin O.kp (thn (ha.run pos pins s σ H _ I h) fun us s1 ⟨vs, H1, I1, r1, v, ev, q⟩ => ⟨I1.kIn, ?_⟩) he hpl
  subst ev
  cases r1 with
  | @cons _ u _ us' ru rn =>
    cases rn
    show wpAny _ _ (call (.ref C) [u]) _ _ _
    obtain ⟨hp, g, dr, tk, os⟩ := s1
    obtain ⟨nm, N, qn, bs, bm, hdc, sn, sub, ab, col, dd, k00, k01, k02, k03, k05, hC, hT⟩ := PySem.W.excInit_of I1.kIn O.exi
    have kk : ∀ b o, hp.get? b = some o → ((hp.push (PySem.W.kdv_tup [u])).push (PySem.HandSPX.excO C hp.objs.size)).get? b = some o := fun b o e => Heap.get?_push_of_some _ (Heap.get?_push_of_some _ e)
    have hget : ((hp.push (PySem.W.kdv_tup [u])).push (PySem.HandSPX.excO C hp.objs.size)).get? (hp.objs.size + 1) = some (PySem.HandSPX.excO C hp.objs.size) := by heap_get
    obtain ⟨mb, b1, b2⟩ := I1.mod.blt
    have kb : ∀ b o, X.base.get? b = some o → ((hp.push (PySem.W.kdv_tup [u])).push (PySem.HandSPX.excO C hp.objs.size)).get? b = some o := fun b o e => kk b o (I1.bk b o e)
    have nk : ∀ o, X.K.lookup (hp.objs.size + 1) ≠ some o := fun o z => by
      have y := Heap.lt_size (I1.kIn _ _ z)
      exact absurd y (Nat.not_lt.mpr (Nat.le_succ _))
    refine wpAny_call (PySem.HandSPX.call_own F.excBase_Exception hT hC (PySem.W.looks_findIn I1.kIn O.ini) (fun self => PySem.W.bind_fn I1.kIn self O.tyI) (by show 1 ≤ sizeLine; rw [sizeLine_eq]; omega) ?_)
    refine exi_code T O (I1.kIn.keeps kk) (I1.mod.glob.keeps kb) hsup (b1.keeps kb) ((b2 _ (by decide)).trans hbs) (I1.mod.nolimit.keeps kb) nk hget (by
      have := (hr.make C [u] []).dp
      omega) (fun h' tk' t1 dx k sz ne e' ns => ?_)
    refine ⟨rfl, ?_⟩
    have sz0 : hp.objs.size ≤ dx := Nat.le_trans (by rw [Heap.size_push, Heap.size_push]; omega) sz
    have hdx : H1 dx = none := I1.hok.fresh sz0
    have ha1 : H1 (hp.objs.size + 1) = none := I1.hok.fresh (Nat.le_succ _)
    obtain ⟨G, g1, g2⟩ := restrict h' fun b => decide (b ≠ hp.objs.size + 1)
    have ga : G.get? (hp.objs.size + 1) = none := g2 _ (by simp)
    have gb : ∀ b, b ≠ hp.objs.size + 1 → G.get? b = h'.get? b := fun b hb => g1 b (by simpa using hb)
    have kG : ∀ b o, hp.get? b = some o → G.get? b = some o := fun b o z => by
      have nb : b ≠ hp.objs.size + 1 := Nat.ne_of_lt (Nat.lt_succ_of_lt (Heap.lt_size z))
      rw [gb b nb]
      exact k b o nb (kk b o z)
    have nsG : G.Ns1 dx (fun y => if y = f then some u else none) := ns.at fun o z => (gb dx ne).trans z
    have J : Inv X pins σ (upd H1 dx (.xd [(f, v)])) ⟨G, g, dr, tk', os⟩ := I1.laid (t' := tk') (a := dx) (o := .xd [(f, v)]) (h' := G) kG sz0 ⟨_, nsG, relO_put (fs := []) ru fun g => True.intro⟩
    refine ⟨hp.objs.size + 1, _, _, ⟨G, g, dr, tk', os⟩, _, .ref C, some dx, rfl, J, fun b o z => ?_, ga, e', ⟨rfl, rfl, fun vs z => by cases z; rfl⟩, rfl, rfl, ?_, rfl, I1.bare, raises_own O.base O.ty, q dx hdx⟩
    · by_cases hb : b = hp.objs.size + 1
      · rw [hb, ga] at z; cases z
      · exact (gb b hb).symm.trans z
    · rw [upd_ne (Ne.symm ne)]; exact ha1
end
end Lf
set_option Elab.async false
set_option linter.all false
set_option maxRecDepth 100000
set_option maxHeartbeats 4000000
/-! The lifting layer: the end of a list and of a tuple while an exception is handled. -/
namespace Lf
open PySem PySem.Spec PyProof.Rows L2 HotX
section
variable {prog : Program} {w : World} {A : Around} {E : Value → Shared → Prop} {s : Shared}
theorem next_tuple_end_hot {it t x1 : Addr} {i : Nat} {items} {Q : Option Value → Shared → Prop} (hot : HotAt A x1 s.heap) (hne : it ≠ x1)
    (hit : IsTupIter s.heap it t i) (ht : IsTup s.heap t items) (hx : items[i]? = none)
    (hQ : ∀ h', Heap.ExtBut it s.heap h' → Q none { s with heap := h' }) : wpAny (model prog w) A (pyNext (.ref it)) Q E s := by
  obtain ⟨o, ho, hc, hd⟩ := id hit
  obtain ⟨ol, hol, _, nl, hdl⟩ := ht
  obtain ⟨hh, o1, vs1, h1, d1, c1⟩ := hot
  unfold pyNext
  refine wpAny_bind (wpAny_attempt (wpAny_callSpecial?_slot (name := Str.ofString "__next__") hit.typeIs slot_tupleiter_next
    (wpAny_call_entry slot_tupleiter_next hit.typeIs entry_tupleiter_next ?_ (args_tupleiter_next _))))
  show wpAny _ _ (field (.ref it) 0 >>= _) _ _ s
  refine wpAny_bind (wpAny_field ho hd (x := .ref t) rfl ?_)
  show wpAny _ _ (if (Value.ref t == Value.none) = true then _ else _) _ _ s
  rw [if_neg (show ¬ ((Value.ref t == Value.none) = true) from Bool.false_ne_true)]
  show wpAny _ _ (field (.ref it) 1 >>= _) _ _ s
  refine wpAny_bind (wpAny_field ho hd (x := .int i 0) rfl ?_)
  show wpAny _ _ (seqItems? (.ref t) >>= _) _ _ s
  refine wpAny_bind (wpAny_seqItems hol hdl ?_)
  simp only [Int.toNat_natCast, hx]
  refine wpAny_bind (wpAny_rule (wpAny_bind (wpAny_setField ho hd (by simp) ?_)))
  show wpAny _ _ (newExc (.type "StopIteration") [] >>= _) _ _ _
  refine wpAny_bind ?_
  simp only [newExc, newTuple]
  refine wpAny_bind (wpAny_newObj_type ?_ (by size_fits))
  refine wpAny_bind (m := firstArgMember _ _) (wpAny_of_eq (a := Value.none) (by first | rfl | (simp only [firstArgMember]; rfl)) ?_)
  refine wpAny_newObj_type ?_ (by size_fits)
  have hb : ∀ {h : Heap}, Heap.SameBut it s.heap h → h.get? x1 = some o1 := fun {h} sb => (sb.2 x1 (Ne.symm hne)).trans h1
  refine raiseNew_hot ⟨hh, o1, vs1, Heap.get?_push_of_some _ (Heap.get?_push_of_some _ (hb (Heap.SameBut.update ..))), d1, c1⟩ (Nat.ne_of_lt (Heap.lt_size (Heap.get?_push_of_some _ (hb (Heap.SameBut.update ..))))) (Heap.get?_push_size _ rfl) rfl (by first | (simp; done) | (simp; omega) | (simp only [Array.size_append]; simp; omega)) ?_
  refine wpAny_bind (wpAny_isInstance (T := "StopIteration") (b := true) ⟨_, Heap.get?_update_self _ (Heap.get?_push_size _ rfl) rfl, rfl⟩ isSubtype_stop ?_)
  refine wpAny_pure (hQ _ fun b o hb' e => ?_)
  have e2 : ∀ {h : Heap}, Heap.SameBut it s.heap h → h.get? b = some o := fun {h} sb => (sb.2 b hb').trans e
  exact (Heap.get?_update_other _ _ (Nat.ne_of_gt (Heap.lt_size (Heap.get?_push_of_some _ (e2 (Heap.SameBut.update ..)))))).trans (Heap.get?_push_of_some _ (Heap.get?_push_of_some _ (e2 (Heap.SameBut.update ..))))
theorem next_list_end_hot {it l x1 : Addr} {i : Nat} {items} {Q : Option Value → Shared → Prop} (hot : HotAt A x1 s.heap) (hne : it ≠ x1)
    (hit : s.heap.IsListIter it l i) (hl : s.heap.IsList l items) (hx : items[i]? = none)
    (hQ : ∀ h', Heap.ExtBut it s.heap h' → Q none { s with heap := h' }) : wpAny (model prog w) A (pyNext (.ref it)) Q E s := by
  obtain ⟨o, ho, hc, hd⟩ := id hit
  obtain ⟨ol, hol, _, nl, hdl⟩ := hl
  obtain ⟨hh, o1, vs1, h1, d1, c1⟩ := hot
  unfold pyNext
  refine wpAny_bind (wpAny_attempt (wpAny_callSpecial?_slot (name := Str.ofString "__next__") hit.typeIs slot_listiter_next
    (wpAny_call_entry slot_listiter_next hit.typeIs entry_listiter_next ?_ (args_listiter_next _))))
  show wpAny _ _ (field (.ref it) 0 >>= _) _ _ s
  refine wpAny_bind (wpAny_field ho hd (x := .ref l) rfl ?_)
  show wpAny _ _ (if (Value.ref l == Value.none) = true then _ else _) _ _ s
  rw [if_neg (show ¬ ((Value.ref l == Value.none) = true) from Bool.false_ne_true)]
  show wpAny _ _ (field (.ref it) 1 >>= _) _ _ s
  refine wpAny_bind (wpAny_field ho hd (x := .int i 0) rfl ?_)
  show wpAny _ _ (seqItems? (.ref l) >>= _) _ _ s
  refine wpAny_bind (wpAny_seqItems hol hdl ?_)
  simp only [Int.toNat_natCast, hx]
  refine wpAny_bind (wpAny_rule (wpAny_bind (wpAny_setField ho hd (by simp) ?_)))
  show wpAny _ _ (newExc (.type "StopIteration") [] >>= _) _ _ _
  refine wpAny_bind ?_
  simp only [newExc, newTuple]
  refine wpAny_bind (wpAny_newObj_type ?_ (by size_fits))
  refine wpAny_bind (m := firstArgMember _ _) (wpAny_of_eq (a := Value.none) (by first | rfl | (simp only [firstArgMember]; rfl)) ?_)
  refine wpAny_newObj_type ?_ (by size_fits)
  have hb : ∀ {h : Heap}, Heap.SameBut it s.heap h → h.get? x1 = some o1 := fun {h} sb => (sb.2 x1 (Ne.symm hne)).trans h1
  refine raiseNew_hot ⟨hh, o1, vs1, Heap.get?_push_of_some _ (Heap.get?_push_of_some _ (hb (Heap.SameBut.update ..))), d1, c1⟩ (Nat.ne_of_lt (Heap.lt_size (Heap.get?_push_of_some _ (hb (Heap.SameBut.update ..))))) (Heap.get?_push_size _ rfl) rfl (by first | (simp; done) | (simp; omega) | (simp only [Array.size_append]; simp; omega)) ?_
  refine wpAny_bind (wpAny_isInstance (T := "StopIteration") (b := true) ⟨_, Heap.get?_update_self _ (Heap.get?_push_size _ rfl) rfl, rfl⟩ isSubtype_stop ?_)
  refine wpAny_pure (hQ _ fun b o hb' e => ?_)
  have e2 : ∀ {h : Heap}, Heap.SameBut it s.heap h → h.get? b = some o := fun {h} sb => (sb.2 b hb').trans e
  exact (Heap.get?_update_other _ _ (Nat.ne_of_gt (Heap.lt_size (Heap.get?_push_of_some _ (e2 (Heap.SameBut.update ..)))))).trans (Heap.get?_push_of_some _ (Heap.get?_push_of_some _ (e2 (Heap.SameBut.update ..))))
theorem unpackItems_tuple_hot {t x1 : Addr} {items : Array Value} {Q : List Value → Shared → Prop} (hot : HotAt A x1 s.heap) (ht : IsTup s.heap t items)
    (hQ : ∀ h', Heap.ExtBut s.heap.objs.size s.heap h' → Q items.toList { s with heap := h' }) : wpAny (model prog w) A (unpackItems (.ref t) items.size none) Q E s := by
  have hlt : t ≠ s.heap.objs.size := by obtain ⟨o, ho, _⟩ := ht; exact Nat.ne_of_lt (Heap.lt_size ho)
  have hx1 : s.heap.objs.size ≠ x1 := by
    obtain ⟨_, o1, vs1, h1, _⟩ := hot
    exact Nat.ne_of_gt (Heap.lt_size h1)
  unfold unpackItems
  refine wpAny_bind ?_
  · unfold notIterableAtAll
    refine wpAny_bind (wpAny_specialOf ht.typeIs slot_tuple_iter.lookup ?_)
    refine wpAny_pure ?_
    simp only [Bool.false_eq_true, if_false]
    refine wpAny_bind (wpAny_holding (iter_tuple ht ?_))
    refine wpAny_bind (wpAny_holding (draw_tuple hlt items.size 0 _ _ ⟨_, Heap.get?_push_size _ rfl, rfl, rfl⟩ (ht.push _) (by omega) fun h₁ hit₁ hs₁ => ?_))
    have hall : List.take items.size (List.drop 0 items.toList) = items.toList := by
      rw [List.drop_zero]; exact List.take_of_length_le (by simp)
    rw [hall]
    rw [if_neg (by simp)]
    have ht₁ : IsTup h₁ t items := (ht.push _).extBut hs₁.extBut hlt
    have hot₁ : HotAt A x1 h₁ := by
      obtain ⟨hh, o1, vs1, h1, d1, c1⟩ := hot
      exact ⟨hh, o1, vs1, hs₁.extBut x1 _ (Ne.symm hx1) (Heap.get?_push_of_some _ h1), d1, c1⟩
    refine wpAny_bind (wpAny_holding (next_tuple_end_hot hot₁ hx1 hit₁ ht₁ (by simp) fun h₂ he₂ => ?_))
    simp only [Option.isSome_none, Bool.false_eq_true, if_false]
    refine wpAny_pure (hQ h₂ fun b o hb e => he₂ b o hb (hs₁.extBut b o hb (Heap.get?_push_of_some _ e)))
theorem assign_Tuple_tuple_hot {env : Env} {elts : List Expr} {k1} {pos : Pos} {t x1 : Addr} {items : Array Value} {Q : Unit → Shared → Prop} (hot : HotAt A x1 s.heap) (ht : IsTup s.heap t items)
    (hn : (assignEach elts env).length = items.size) (hstar : (assignEach elts env).findIdx? (·.1) = none)
    (h : ∀ h', Heap.ExtBut s.heap.objs.size s.heap h' → wpAny (model prog w) A (assignInOrder ((assignEach elts env).map (·.2)) items.toList) Q E { s with heap := h' }) :
    wpAny (model prog w) A (assign (.Tuple elts k1 pos) env (.ref t)) Q E s := by
  rw [assign_Tuple]
  refine wpAny_bind (wpAny_standAt ?_)
  unfold unpack
  rw [hn, hstar]
  exact wpAny_bind (wpAny_holding (unpackItems_tuple_hot hot ht h))
end
end Lf
set_option Elab.async false
set_option linter.all false
set_option maxRecDepth 100000
set_option maxHeartbeats 4000000
/-! The lifting layer: a list comprehension over a list while an exception is handled. -/
namespace Lf
open PySem PySem.Spec PyProof.Rows L2 HotX

/-- the handled exception stood at the entry, out of reach -/
def HotB (X : Cx) : Prop := ∃ (x1 : Addr) (o : Obj) (vs : Array Value), X.A.handled = some (.ref x1) ∧ X.s_0.heap.get? x1 = some o ∧ o.data = .fields vs ∧ vs[2]? = some .none ∧ X.H_0 x1 = none ∧ x1 ∉ X.fs ∧ x1 ∉ X.ex
theorem HotB.at {X : Cx} {pins : List (Addr × Obj)} {σ : L2.St} {H : Hp} {s : Shared} (h : HotB X) (I : Inv X pins σ H s) : ∃ x1, HotAt X.A x1 s.heap ∧ x1 ∉ X.ex ∧ ∃ o, X.s_0.heap.get? x1 = some o := by
  obtain ⟨x1, o, vs, h1, h2, h3, h4, h5, h6, h7⟩ := h
  exact ⟨x1, ⟨h1, o, vs, I.base.keep x1 o h2 h5 h6 h7, h3, h4⟩, h7, o, h2⟩
/-- a tuple target there -/
theorem pg_tupH {X : Cx} {es : List Expr} {k : Nat} {pos : Pos} {t : TGs} {n : Nat} (hb : HotB X) (h : PGs X es t)
    (hn : (assignEach es X.env).length = n := by rfl) (hst : (assignEach es X.env).findIdx? (·.1) = none := by rfl) : PG X (.Tuple es k pos) (gTup X.K n t) := by
  refine ⟨fun pins s σ H v u Q I r hw => ?_⟩
  obtain ⟨a, xs, e1, hq, hl, hw⟩ := hw
  subst e1
  cases r
  obtain ⟨its, rv, ht, hz⟩ := I.tuple hq
  obtain ⟨x1, hot, _⟩ := hb.at I
  refine assign_Tuple_tuple_hot hot ht (by simp [hn, ← hl, rv.length]) hst fun h' hx => ?_
  have I1 : Inv X pins σ H { s with heap := h' } := I.kept (t' := s.toks) fun b o e => hx b o (Nat.ne_of_lt (Heap.lt_size e)) e
  exact h.run pins _ σ H xs _ Q I1 (by simpa using rv) hw
section
variable {X : Cx}
theorem lc_coreH {pins : List (Addr × Obj)} {s : Shared} {σ : L2.St} {H : Hp} {Q : VK} {elt tg iter : Expr} {ifs : List Expr} {scope : Scope} {own : List (Str × Nat)} {pos pos' : Pos} {tl : TE} {g : TG} {tt : TT} {te : TE} {use : Option (Value → Sem Unit)} {Qf : Value → Shared → Prop}
    (hc : L2H.HotC X) (hN : X.N.Nodup) (I : Inv X pins σ H s) (hi : PE X iter tl) (ok : BlkOk X.N X.env.scope scope own)
    (hg : ∀ (s : Shared) (H : Hp) (C : Addr) (cl : List (Str × Addr)) (fp : List Addr), HotB (X.blk s H scope (compEnvC scope cl C X.env) fp) → PG (X.blk s H scope (compEnvC scope cl C X.env) fp) tg g) (ht : ∀ (s : Shared) (H : Hp) (C : Addr) (cl : List (Str × Addr)) (fp : List Addr), PTs (X.blk s H scope (compEnvC scope cl C X.env) fp) ifs tt)
    (he : ∀ (s : Shared) (H : Hp) (C : Addr) (cl : List (Str × Addr)) (fp : List Addr), PE (X.blk s H scope (compEnvC scope cl C X.env) fp) elt te) (hs : ∀ x, foldedSetIterable iter X.env x = pure x)
    (h : tLc (iList X.K tl) g tt te (own.map (·.2)) σ H Q)
    (hRR : ∀ D C s' m H', Inv X pins σ H' s' → Q (.ref D) H' → s'.heap.Ns C m → FpOk X pins H' C → compPost (model X.prog X.w) X.A X.xe use Qf (.ref D) C (.ok .next) s') :
    wpAny (model X.prog X.w) X.A (comprehension (.ListComp elt [⟨tg, iter, ifs, 0⟩] scope pos) scope X.env pos' (newList []) false (eval iter X.env) use) Qf X.xe s := by
  have hfree : ∀ y ∈ scope.names, y.2 = .free → ∃ c, X.env.cells.lookup y.1 = some c := fun y hy e => by
    rcases ok.free y hy e with k | k
    · exact I.ok.has _ (.inl k)
    · exact I.ok.has _ (.inr k)
  refine wpAny_comprehension_free (use := use) rfl hs (closure_ok hfree) ok.kind (fun y hy e => by rw [ok.uniq y hy, e])
    (thn (hi.run pins s σ H _ I h) fun xv s1 ⟨x0, H1, I1, r1, q1⟩ => ?_)
  obtain ⟨a0, e0, ⟨xs0, hq0⟩, q⟩ := q1
  subst e0
  cases r1
  obtain ⟨its0, rv0, p0, hz0⟩ := I1.list hq0
  refine wpAny_pyIter_list p0.isList ?_
  generalize hit : s1.heap.objs.size = it
  have st2 : Heap.IsListIter (s1.heap.push { cls := .type "list_iterator", data := .fields #[.ref a0, .int (0 : Nat) 0] }) it a0 0 := by
    rw [← hit]
    exact ⟨_, Heap.get?_push_size _ rfl, rfl, rfl⟩
  have f2 : ∀ b ∈ [it], FpOk X pins H1 b := fun b hb => by
    have e : b = s1.heap.objs.size := by rw [hit]; simpa using hb
    subst e
    exact I1.fpOk (Nat.le_refl _) (I1.hok.fresh (Nat.le_refl _))
  generalize hs2 : ({ s1 with heap := s1.heap.push { cls := .type "list_iterator", data := .fields #[.ref a0, .int (0 : Nat) 0] } } : Shared) = s2
  have I2 : Inv X pins σ H1 s2 := by
    rw [← hs2]
    exact I1.kept (t' := s1.toks) fun b o e => Heap.get?_push_of_some _ e
  have st2 : s2.heap.IsListIter it a0 0 := by rw [← hs2]; exact st2
  have T := turn_list (P := X.prog) (w := X.w) (K := X.K) (tg := tg) a0 it
  generalize hfp : [it] = fp at T f2
  generalize hJ : Itl X.K a0 = J at T q
  let tn : Nat → Heap → Prop := fun i h => h.IsListIter it a0 i
  refine wpAny_newObj_type (newEnv_comp ?_) (by show 0 ≤ sizeLine; decide)
  generalize hD : s2.heap.objs.size = D
  have hDn : H1 D = none := I2.hok.fresh (Nat.le_of_eq hD)
  obtain ⟨W, ⟨m0, w0⟩, turn⟩ := q D hDn
  -- the new list
  generalize hs3 : ({ s2 with heap := s2.heap.push { cls := .type "list", data := .seq ([] : List Value).toArray } } : Shared) = s3
  have I3 : Inv X pins σ (upd H1 D (.lst [])) s3 := by
    rw [← hs3]
    refine I2.laid (t' := s2.toks) (fun b o e => Heap.get?_push_of_some _ e) (Nat.le_of_eq hD) ⟨Nat.zero_le _, [], 0, .nil, ?_⟩
    rw [← hD]
    exact Heap.get?_push_size _ rfl
  have h3 : s3.heap = s2.heap.push { cls := .type "list", data := .seq ([] : List Value).toArray } := by rw [← hs3]
  have sz : ∀ b ∈ fp, b < s2.heap.objs.size := fun b hb => by
    obtain ⟨o, e, _⟩ := T.obj _ _ st2 b hb
    exact Heap.lt_size e
  have f3 : ∀ b ∈ fp, FpOk X pins (upd H1 D (.lst [])) b ∧ b < s3.heap.objs.size := fun b hb => by
    have hlt := sz b hb
    refine ⟨⟨?_, (f2 b hb).2⟩, by rw [h3, Heap.size_push]; exact Nat.lt_succ_of_lt hlt⟩
    rw [upd_ne (by rw [← hD]; exact Nat.ne_of_lt hlt)]
    exact (f2 b hb).1
  have st3 : tn 0 s3.heap := T.keep _ _ _ st2 fun b _ o e => by rw [h3]; exact Heap.get?_push_of_some _ e
  have I4 := block_start I3 ok hN f3
  have hotb : HotB (X.blk s3 (upd H1 D (.lst [])) scope (compEnvC scope (cellsFrom (s3.heap.objs.size + 1) scope.names (cloFrom X.env.cells scope.names [])) s3.heap.objs.size X.env) fp) := by
    obtain ⟨p, ⟨hh, v1, e1, c1⟩, hp⟩ := hc
    have P1 := I3.pin p (List.mem_append_left _ hp)
    refine ⟨p.1, p.2, v1, hh, P1.1, e1, c1, P1.2.1, fun z => ?_, fun z => ?_⟩
    · rcases List.mem_cons.mp (I3.stkSub p.1 z) with z | z
      · exact P1.2.2.1 z
      · exact P1.2.2.2.1 z
    · exact (f3 p.1 z).1.2.2.2.2.2 p (List.mem_append_left _ hp) rfl
  have pg := hg s3 (upd H1 D (.lst [])) s3.heap.objs.size (cellsFrom (s3.heap.objs.size + 1) scope.names (cloFrom X.env.cells scope.names [])) fp hotb
  have pt := ht s3 (upd H1 D (.lst [])) s3.heap.objs.size (cellsFrom (s3.heap.objs.size + 1) scope.names (cloFrom X.env.cells scope.names [])) fp
  have pe := he s3 (upd H1 D (.lst [])) s3.heap.objs.size (cellsFrom (s3.heap.objs.size + 1) scope.names (cloFrom X.env.cells scope.names [])) fp
  show codeAny _ _ (.compStart (.ListComp elt [⟨tg, iter, ifs, 0⟩] scope pos) 0 (.ref it) (.ref D) (compEnvC scope (cellsFrom (s3.heap.objs.size + 1) scope.names (cloFrom X.env.cells scope.names [])) s3.heap.objs.size X.env)) (compPost (model X.prog X.w) X.A X.xe use Qf (.ref D) s3.heap.objs.size) { s3 with heap := pushCells (s3.heap.push { cls := .type "dict", data := .dict #[] }) scope.names }
  have nfp : ∀ b ∈ fp, (upd H1 D (.lst [])) b = none := fun b hb => (f3 b hb).1.1
  generalize hce : compEnvC scope (cellsFrom (s3.heap.objs.size + 1) scope.names (cloFrom X.env.cells scope.names [])) s3.heap.objs.size X.env = ce at I4 hotb pg pt pe ⊢
  have cL : ce.locals = s3.heap.objs.size := by subst hce; rfl
  generalize hH3 : upd H1 D (.lst []) = H3 at I3 I4 hotb pg pt pe w0 nfp f3
  generalize hs4 : ({ s3 with heap := pushCells (s3.heap.push { cls := .type "dict", data := .dict #[] }) scope.names } : Shared) = s4 at I4 ⊢
  have st4 : tn 0 s4.heap := T.keep _ _ _ st3 fun b _ o e => by rw [← hs4]; exact pushCells_keeps _ _ _ _ (Heap.get?_push_of_some _ e)
  have stat : ∀ {σ' : St} {H' : Hp} {s' : Shared}, Inv (X.blk s3 H3 scope ce fp) [] σ' H' s' → (∀ b ∈ fp, H' b = none) → ∀ b ∈ fp, FpOk (X.blk s3 H3 scope ce fp) [] H' b := fun {σ' H' s'} I' hn b hb =>
    ⟨hn b hb, (I'.ok.exf b hb).1, I'.ok.exfs b hb, .inl hb, fun x c e => (I'.ok.exf b hb).2 x c e, fun p hp => absurd (show p ∈ ([] : List (Addr × Obj)) ++ [] from hp) (by simp)⟩
  have loop : codeAny (model X.prog X.w) X.A (.compLoop (.ListComp elt [⟨tg, iter, ifs, 0⟩] scope pos) 0 (.ref it) (.ref D) ce) (compPost (model X.prog X.w) X.A X.xe use Qf (.ref D) s3.heap.objs.size) s4 := by
    refine compLoop_any (fun n s' => ∃ i H', Inv (X.blk s3 H3 scope ce fp) [] (wipe σ (own.map (·.2))) H' s' ∧ tn i s'.heap ∧ (∀ b ∈ fp, H' b = none) ∧ W i n H') ?_ m0 ⟨0, H3, I4, st4, nfp, w0⟩
    rintro n s5 ⟨i, H5, I5, st5, n5, w5⟩
    rcases turn i n H5 w5 with ⟨stop, qq⟩ | ⟨go, Nx, hNx, step⟩
    · have td : wpAny (model X.prog X.w) X.A (pyNext (.ref it)) (fun r s1 => r = none ∧ Inv (X.blk s3 H3 scope ce fp) [] (wipe σ (own.map (·.2))) H5 s1) (fun _ _ => False) s5 := by
        subst hJ
        obtain ⟨xs, hq, hx⟩ := stop
        obtain ⟨its, rv, p, hz⟩ := I5.list hq
        obtain ⟨f0, f1, f2, f3, f4, f5⟩ := stat I5 n5 it (by rw [← hfp]; simp)
        have hl := rv.length
        obtain ⟨x1, hot, hx1, _⟩ := hotb.at I5
        refine next_list_end_hot hot (fun z => hx1 (by rw [← z, ← hfp]; simp)) st5 p.isList (by simp; omega) fun h' eb => ⟨rfl, I5.turned (t' := s5.toks) (fun b o hb e => eb b o hb e) f0 f1 f3 f4 f5⟩
      refine thnF td fun r s6 ⟨hr, I6⟩ => ?_
      subst hr
      -- back in the def's context
      have I7 : Inv X pins σ H5 s6 := I3.call' (ch := fp) I6.os I6.base I6.hok I6.bare fun b hb => ⟨(f3 b hb).1.2.2.2.1, (f3 b hb).1.2.1, (f3 b hb).1.2.2.2.2.1, (f3 b hb).1.2.2.2.2.2⟩
      have nC : H5 s3.heap.objs.size = none := by
        have z : H5 ce.locals = none := I6.free
        rw [cL] at z
        exact z
      obtain ⟨m, hn, _⟩ := I6.loc
      have hn : s6.heap.Ns ce.locals m := hn
      rw [cL] at hn
      exact hRR D s3.heap.objs.size s6 m H5 I7 qq hn (I3.fpOk (Nat.le_refl _) nC)
    · have ti : wpAny (model X.prog X.w) X.A (pyNext (.ref it)) (fun r s1 => ∃ u, r = some u ∧
          wpAny (model X.prog X.w) X.A (letOwnedTupleGo tg (.ref it) u) (fun _ s2 => ∃ x H', Inv (X.blk s3 H3 scope ce fp) [] (wipe σ (own.map (·.2))) H' s2 ∧ RelV x u ∧ J.yld i H5 x H' ∧ tn (i + 1) s2.heap ∧ ∀ b ∈ fp, H' b = none) (fun _ _ => False) s1) (fun _ _ => False) s5 := by
        subst hJ
        obtain ⟨xs, x, hq, hx⟩ := go
        obtain ⟨its, rv, p, hz⟩ := I5.list hq
        obtain ⟨u, hu, ru⟩ := rv.get hx
        obtain ⟨f0, f1, f2, f3, f4, f5⟩ := stat I5 n5 it (by rw [← hfp]; simp)
        refine wpAny_pyNext_list_item st5 p.isList (x := u) (by simpa using hu) fun h' st' sb => ?_
        have I1 := I5.turned (h' := h') (t' := s5.toks) (fun b o hb e => (sb.2 b hb).trans e) f0 f1 f3 f4 f5
        obtain ⟨o, e, c, d⟩ := id st'
        exact ⟨u, rfl, go_of (s := { s5 with heap := h' }) e c d (by decide) ⟨x, H5, I1, ru, ⟨rfl, fun ys hy => by rw [I5.list_inj hy hq]; exact hx⟩, st', fun b hb => (stat I5 n5 b hb).1⟩⟩
      refine thnF ti fun r s6 ⟨u, hr, h6⟩ => ?_
      subst hr
      refine thnF h6 fun _ s7 ⟨x, H7, I7, r7, y7, st7, n7⟩ => ?_
      have I7' := I7.pinned (stat I7 n7) (T.obj _ _ st7)
      refine thnF (pg.run _ s7 _ H7 x u _ I7' r7 (step x H7 y7)) fun _ s8 ⟨σ8, H8, I8, hw8, q8⟩ => ?_
      refine thnF (pt.run _ s8 σ8 H8 _ I8 q8) fun b s9 ⟨H9, I9, q9⟩ => ?_
      -- the turn's end
      have fin : ∀ {s' : Shared} {H' : Hp}, Inv (X.blk s3 H3 scope ce fp) ([] ++ pinsAt fp s7.heap) σ8 H' s' → Nx H' → ∃ m, m < n ∧ ∃ i H', Inv (X.blk s3 H3 scope ce fp) [] (wipe σ (own.map (·.2))) H' s' ∧ tn i s'.heap ∧ (∀ b ∈ fp, H' b = none) ∧ W i m H' := fun {s' H'} I' nx => by
        obtain ⟨m', hm, w'⟩ := hNx H' nx
        have pin' : ∀ b ∈ fp, ∀ o, s7.heap.get? b = some o → s'.heap.get? b = some o ∧ H' b = none := fun b hb o e =>
          let z := I'.pin (b, o) (List.mem_append_right _ (List.mem_append_right _ (mem_pinsAt hb e)))
          ⟨z.1, z.2.1⟩
        have hl : (wipe σ (own.map (·.2))).length = σ8.length := by rw [← hw8, wipe_length]
        refine ⟨m', hm, i + 1, H', (I'.unpinned (pins := [])).weak hl (fun j v e => ?_), T.keep _ _ _ st7 fun b hb o e => (pin' b hb o e).1, fun b hb => ?_, w'⟩
        · rw [← hw8] at e
          exact (wipe_some e).1
        · obtain ⟨o, e, _⟩ := T.obj _ _ st7 b hb
          exact (pin' b hb o e).2
      cases b with
      | false =>
        simp only [Bool.false_eq_true, if_false] at q9 ⊢
        exact fin I9 q9
      | true =>
        simp only [if_true] at q9 ⊢
        refine thnF (pe.run _ s9 σ8 H9 _ I9 q9) fun z s10 ⟨yv, H10, I10, r10, acc, hD10, hz10, nx⟩ => ?_
        exact app_ok (X := X.blk s3 H3 scope ce fp) I10 hD10 hz10 r10 fun s11 I11 => fin I11 nx
  exact codeAny_compStart_list loop (T.self X.A 0 _ _ _ st4 loop)
end
end Lf
set_option Elab.async false
set_option linter.all false
set_option maxRecDepth 100000
set_option maxHeartbeats 4000000
/-! The lifting layer: raise; defs called while an exception is handled. -/
namespace Lf
open PySem PySem.Spec PyProof.Rows L2 HotX

section
variable {X : Cx} {W : WX} {pz : List Nat} {x : Str} {p cpos pos : Pos} {e : Expr} {C : Addr} {f : Str} {ma : M D}
/-- raise C() -/
theorem as_raise0 (hc : X.calm = true) (tk : L2N.Takes X W) (q : PySem.W.excIn X.K C exTl "Exception.__new__" = true) (gC : X.mg x = some (.ref C)) (kC : PySem.W.keepIn X.K (.ref C) = true) (r : Raises X (.ref C)) (hg : Gl X x) (hdb : (x == ("__debug__" : Str)) = false := by decide) :
    AS X W pz (.Raise (some (.Call (.Name x p) [] [] cpos)) none pos) (fun E => .exc x [] E) :=
  ⟨_, L2N.ps_raise hc tk (pmk0 q gC kC r hg hdb), fun w σ E D k po => po w σ (.ref C) none k (Stp.refl _) (Ag.refl _ _) ⟨C, gC, rfl, .inl ⟨rfl, rfl⟩⟩⟩
/-- raise C(e) -/
theorem as_raise1 (hc : X.calm = true) (tk : L2N.Takes X W) (T : ExI X.prog X.K C f) (O : T.Ok) (hr : Room 1 X.A) (gC : X.mg x = some (.ref C)) (hsup : X.mg "super" = none) (hbs : bootBuiltins "super" = some (.type "super")) (hg : Gl X x) (ha : AD X W e ma) (hdb : (x == ("__debug__" : Str)) = false := by decide)
    (he : starEach [e] X.env = (false, eval e X.env) :: starEach [] X.env := by rfl) (hpl : (backTo cpos (starEach [] X.env)).any (·.1) = false := by rfl) :
    AS X W pz (.Raise (some (.Call (.Name x p) [e] [] cpos)) none pos) (fun E => (ma E).bind fun d E1 => .exc x [(f, d)] E1) := by
  obtain ⟨te, pe, s⟩ := ha
  refine ⟨_, L2N.ps_raise hc tk (pmk1 T O hr gC hsup hbs hg (pa_cons pe pa_nil he) hdb he hpl), fun w σ E D k po => s.runS (D := D) (pz := pz) k po fun d E1 w1 k1 s1 po1 v hv => ⟨v, rfl, fun a ha => ?_⟩⟩
  have g := Gr.new k1.sub (.xd [(f, v)]) ha
  exact po1 ⟨_, _, w1.FP⟩ σ (.ref C) (some a) (k1.gr g) (s1.trans g.stp) (Ag.refl _ _) ⟨C, gC, rfl, .inr ⟨a, f, v, d, rfl, rfl, upd_same, dp_mono g.ii _ _ hv⟩⟩
end

/-! ### a list comprehension, hot -/
theorem pe_lcH {X : Cx} {elt tg iter : Expr} {ifs : List Expr} {scope : Scope} {own : List (Str × Nat)} {pos : Pos} {tl : TE} {g : TG} {tt : TT} {te : TE} (hc : L2H.HotC X) (hN : X.N.Nodup) (hi : PE X iter tl) (ok : BlkOk X.N X.env.scope scope own)
    (hg : ∀ (s : Shared) (H : Hp) (C : Addr) (cl : List (Str × Addr)) (fp : List Addr), HotB (X.blk s H scope (compEnvC scope cl C X.env) fp) → PG (X.blk s H scope (compEnvC scope cl C X.env) fp) tg g) (ht : ∀ (s : Shared) (H : Hp) (C : Addr) (cl : List (Str × Addr)) (fp : List Addr), PTs (X.blk s H scope (compEnvC scope cl C X.env) fp) ifs tt)
    (he : ∀ (s : Shared) (H : Hp) (C : Addr) (cl : List (Str × Addr)) (fp : List Addr), PE (X.blk s H scope (compEnvC scope cl C X.env) fp) elt te) (hs : ∀ x, foldedSetIterable iter X.env x = pure x := by intro _; rfl) :
    PE X (.ListComp elt [⟨tg, iter, ifs, 0⟩] scope pos) (tLc (iList X.K tl) g tt te (own.map (·.2))) := by
  refine ⟨fun pins s σ H Q I h => ?_⟩
  rw [eval_ListComp]
  refine lc_coreH hc hN I hi ok hg ht he hs h fun D C s' m H' I' q hn f => ⟨m, hn, fun h'' sb => ?_⟩
  obtain ⟨f0, f1, f2, f3, f4, f5⟩ := f
  exact ⟨.ref D, H', I'.turned (t' := s'.toks) (fun b o hb e => (sb.2 b hb).trans e) f0 f1 f3 f4 f5, rfl, q⟩
theorem sn_iList {K : Frag} {mg : Str → Option Value} {W : WX} {te : TE} {ma : M D} (s : Sn K mg W (RD K) te ma) : Sn K mg W (RI K) (iList K te) (mItems ma) := fun w σ E R k po => s.run k po back_I fun d E1 w1 k1 s1 po1 v hv => by
  split at po1
  · obtain ⟨a, vs, rfl, h1, h2⟩ := dp_list hv
    exact ⟨a, rfl, ⟨vs, SqL.of (k1.sub _ _ h1)⟩, po1 w1 k1 (Stp.refl _) _ (yl_list (SqL.of h1) h2 fun _ _ _ _ _ _ => trivial)⟩
  · cases hv with
    | @scr a vs ds h1 h2 => exact ⟨a, rfl, ⟨vs, sqL_mono k1.sub h1⟩, po1 w1 k1 (Stp.refl _) _ (yl_list h1 h2 fun _ _ _ _ _ _ => trivial)⟩
  · exact po1.elim
theorem ag_tupH {X : Cx} {es : List Expr} {kk : Nat} {pos : Pos} {is : List Nat} (hc : HotB X) (hr : AGs X es is) (hn : (assignEach es X.env).length = is.length) (hst : (assignEach es X.env).findIdx? (·.1) = none) : AG X is (.Tuple es kk pos) (bTup is) := by
  obtain ⟨g, p, s⟩ := hr
  refine ⟨_, pg_tupH hc p hn hst, fun w σ E d v R k hd po => ?_⟩
  unfold bTup at po
  cases d with
  | tuple ds =>
    cases hd with
    | @tup a vs _ h1 h2 =>
      refine ⟨a, vs, rfl, sqT_mono k.sub h1, ?_, s w σ E ds vs R k h2 ?_⟩
      · rw [dps_length h2]
        simp only at po
        have len : ∀ (is : List Nat) (ds : List D) (E E' : En), setAll is ds E = some E' → ds.length = is.length := by
          intro is
          induction is with
          | nil =>
            intro ds E E' q
            cases ds with
            | nil => rfl
            | cons _ _ => cases q
          | cons i is ih =>
            intro ds E E' q
            cases ds with
            | nil => cases q
            | cons d ds =>
              have q' : (if i < E.length then setAll is ds (E.set i (some (.dt d))) else none) = some E' := q
              split at q'
              · simp [ih ds _ _ q']
              · cases q'
        cases q : setAll is ds E with
        | none => rw [q] at po; exact po.elim
        | some E' => exact len _ _ _ _ q
      · simp only at po
        cases q : setAll is ds E with
        | none => rw [q] at po; exact po.elim
        | some E' => rw [q] at po; exact po
  | _ => exact po.elim
theorem ao_lcIfH {X : Cx} {W : WX} {elt tg iter cnd : Expr} {scope : Scope} {own : List (Str × Nat)} {pos : Pos} {ma : M D} {bd : D → En → Option En} {mt : M Bool} {me : M O} {is : List Nat} (hc : L2H.HotC X) (hN : X.N.Nodup) (hi : AD X W iter ma) (ok : BlkOk X.N X.env.scope scope own)
    (hg : ∀ (s : Shared) (H : Hp) (C : Addr) (cl : List (Str × Addr)) (fp : List Addr), HotB (X.blk s H scope (compEnvC scope cl C X.env) fp) → AG (X.blk s H scope (compEnvC scope cl C X.env) fp) is tg bd) (his : ∀ i ∈ is, i ∈ own.map (·.2))
    (ht : ∀ (s : Shared) (H : Hp) (C : Addr) (cl : List (Str × Addr)) (fp : List Addr), AT (X.blk s H scope (compEnvC scope cl C X.env) fp) W0 cnd mt)
    (he : ∀ (s : Shared) (H : Hp) (C : Addr) (cl : List (Str × Addr)) (fp : List Addr), AO (X.blk s H scope (compEnvC scope cl C X.env) fp) W0 elt me)
    (hs : ∀ x, foldedSetIterable iter X.env x = pure x) : AO X W (.ListComp elt [⟨tg, iter, [cnd], 0⟩] scope pos) (mLc (own.map (·.2)) (mItems ma) bd mt me) := by
  obtain ⟨wi, pi, si⟩ := hi
  obtain ⟨te, pe, se⟩ := ao_unif (ι := Ix5) (X := fun i => X.blk i.s i.H scope (compEnvC scope i.cl i.C X.env) i.fp) (K := X.K) (mg := X.mg) fun i => he i.s i.H i.C i.cl i.fp
  obtain ⟨tt, pt, st⟩ := at_unif (ι := Ix5) (X := fun i => X.blk i.s i.H scope (compEnvC scope i.cl i.C X.env) i.fp) (K := X.K) (mg := X.mg) fun i => ht i.s i.H i.C i.cl i.fp
  obtain ⟨g, pg, sg⟩ := ag_unif (ι := {i : Ix5 // HotB (X.blk i.s i.H scope (compEnvC scope i.cl i.C X.env) i.fp)}) (X := fun i => X.blk i.1.s i.1.H scope (compEnvC scope i.1.cl i.1.C X.env) i.1.fp) (K := X.K) (mg := X.mg) fun i => hg i.1.s i.1.H i.1.C i.1.cl i.1.fp i.2
  exact ⟨_, pe_lcH hc hN pi ok (fun s H C cl fp hb => pg ⟨⟨s, H, C, cl, fp⟩, hb⟩) (fun s H C cl fp => pts_one (pt ⟨s, H, C, cl, fp⟩)) (fun s H C cl fp => pe ⟨s, H, C, cl, fp⟩) hs, lc_sn _ (sn_iList si) sg st se his⟩

/-! ### defs called there -/
structure FnHp (P : Program) (w : World) (K : Frag) (mg : Str → Option Value) (base : Heap) (k : Nat) (f : Addr) (fd : FuncData) (ps : List Str) (sp : Addr × Obj → Sp) : Prop where
  len : ∀ p vs H Q E, sp p vs H Q E → vs.length = ps.length
  run : ∀ (A : Around) (outer : List Env) (s : Shared) (H : Hp) (args : Args) (us : List Value) (vs : List V) (Q : VK) (E : XK) (p : Addr × Obj), L2H.RoomH k A → L2H.Hot1 A p → L2H.PinOk outer H s p → Env0 P w K mg base A outer s H → BindsTo s fd args (ps.zip us) → Vals vs us → sp p vs H Q E →
    codeAny (model P w) A (.call (.ref f) args) (CR (L2N.CX P w) outer P w H s Q E) s
theorem fun_okHp {P : Program} {w : World} {K : Frag} {mg : Str → Option Value} {base : Heap} {x qual : Str} {params : Arguments} {body : List Stmt} {scope : Scope} {f : Addr} {fd : FuncData} {N ps : List Str} {k : Nat} {sp : Addr × Obj → Sp} (F : FunD K x qual params body scope [] [] f fd) (S : FnScope N ps scope)
    (len : ∀ p vs H Q E, sp p vs H Q E → vs.length = ps.length)
    (hbody : ∀ (cdv : Value) (A : Around) (outer : List Env) (s : Shared) (H : Hp) (vs : List V) (Q : VK) (E : XK) (p : Addr × Obj), L2H.Hot1 A p → L2H.PinOk outer H s p → L2H.RoomH k (A.deeper (envOfC qual scope s.heap.objs.size f cdv)) → sp p vs H Q E →
      ∃ t, PSs (L2H.cxH (L2N.CX P w) P w K mg base N qual scope f cdv A outer s H E p) body t ∧ t { nx := fun _ H' => Q .non H', rt := Q } (L2.start N vs) H) :
    FnHp P w K mg base (k + 1) f fd ps sp := by
  obtain ⟨oc, od, dV, kV, doc, pm, an, cdv, ct, osl, rfl, lk, hcd, _, _⟩ := F.ex
  refine ⟨len, fun A outer s H args us vs Q E p hr hot hpin e0 hb r hsp => ?_⟩
  have hl := len _ _ _ _ _ hsp
  have KX : K.In s.heap := e0.mod.kin.keeps fun b o e => (e0.bs b o e).1
  have lim : s.heap.NoLimit := e0.mod.nolimit.keeps fun b o e => (e0.bs b o e).1
  have hkind : ∀ y ∈ ps.zip us, scope.names.lookup y.1 = some .local ∨ (scope.names.lookup y.1 = some .cell ∧ ((cellsFrom (s.heap.objs.size + 1) scope.names []).lookup y.1).isSome = true) := fun ⟨n, v⟩ hy => by
    rcases S.par n (List.of_mem_zip hy).1 with q | q
    · exact .inl q
    · exact .inr ⟨q, PySem.W.cellsFrom_some _ _ _ (.inl q)⟩
  refine codeAny_call_function hr.depth (KX _ _ lk) rfl S.co S.gen rfl (PySem.W.codeRec_of KX hcd) (hb _ _ _ _ ?_)
  refine wpAny_newFunctionEnv_cells S.kind hkind fun env he s1 x => ?_
  subst he
  refine ⟨lim.keeps x.toInCall.keep, codeAny_func ?_⟩
  obtain ⟨t, ht, hq⟩ := hbody cdv A outer s H vs Q E p hot hpin (hr.deeper _) hsp
  have I : Inv (L2H.cxH (L2N.CX P w) P w K mg base N qual scope f cdv A outer s H E p) [] (L2.start N vs) H s1 := L2H.inv_startH S hpin e0 hl r x
  refine wpAny_mono (ht.run [] s1 (L2.start N vs) H _ I hq) (fun fl s' hs => ?_) fun e s' hs => hs
  have fin : ∀ {σ' : L2.St} {H' : Hp} {v : V} {u : Value}, Inv (L2H.cxH (L2N.CX P w) P w K mg base N qual scope f cdv A outer s H E p) [] σ' H' s' → RelV v u → Q v H' → CE outer P w H s Q u s' :=
    fun {σ' H' v u} J rv q => ⟨v, H', J.os, J.bare, J.base, J.hok, rv, q⟩
  cases fl with
  | ret u =>
    obtain ⟨v, σ', H', J, rv, q⟩ := hs
    exact fin J rv q
  | next =>
    obtain ⟨σ', H', J, q⟩ := hs
    exact fin (v := V.non) (u := Value.none) J rfl q
  | brk =>
    obtain ⟨_, _, _, q⟩ := hs
    exact False.elim q
  | cont =>
    obtain ⟨_, _, _, q⟩ := hs
    exact False.elim q
section
variable {X : Cx} {k : Nat} {f : Addr} {fd : FuncData} {ps : List Str} {sp : Addr × Obj → Sp} {E : L2.St → XK} {x : Str} {q pos : Pos} {e : Expr} {es : List Expr} {t : TA} {pp : Addr × Obj}
theorem run_fnHp {pins : List (Addr × Obj)} {σ : L2.St} {H : Hp} {s : Shared} {Q : VK} {us : List Value} {vs : List V} (F : FnHp X.prog X.w X.K X.mg X.base k f fd ps sp) (hr : L2H.RoomH k X.A) (hot : L2H.Hot1 X.A pp) (hp : pp ∈ X.pn) (hb : Binds X.K fd ps []) (hx : PassesAt (L2N.CX X.prog X.w) X σ (E σ))
    (I : Inv X pins σ H s) (r : Vals vs us) (h : sp pp vs H Q (E σ)) : wpAny (model X.prog X.w) X.A (call (.ref f) us) (EP X pins σ Q) X.xe s := by
  have hl : us.length = ps.length := by rw [← r.length]; exact F.len _ _ _ _ _ h
  have b := hb s us I.kIn (by rw [List.append_nil]; exact hl)
  rw [List.append_nil] at b
  have P1 := I.pin pp (List.mem_append_left _ hp)
  have hpin : L2H.PinOk X.stack H s pp := ⟨P1.1, P1.2.1, fun hm => (List.mem_cons.mp (I.stkSub pp.1 hm)).elim P1.2.2.1 P1.2.2.2.1, P1.2.2.2.2⟩
  refine wpAny_call (codeAny_mono (F.run X.A X.stack s H ⟨us, []⟩ us vs Q (E σ) pp hr hot hpin I.env0 b r h) fun r s' hq => ?_)
  cases r with
  | error e => exact hx pins H s e s' I hq
  | ok fl =>
    cases fl with
    | ret u => exact I.after hq
    | next => exact False.elim hq
    | brk => exact False.elim hq
    | cont => exact False.elim hq
theorem pe_callHp (F : FnHp X.prog X.w X.K X.mg X.base k f fd ps sp) (hr : L2H.RoomH k X.A) (hot : L2H.Hot1 X.A pp) (hp : pp ∈ X.pn) (hg : Gl X x) (hm : X.mg x = some (.ref f)) (hk : PySem.W.keepIn X.K (.ref f) = true) (hb : Binds X.K fd ps []) (hx : ∀ σ, PassesAt (L2N.CX X.prog X.w) X σ (E σ))
    (ha : PA X (e :: es) t) (hdb : (x == ("__debug__" : Str)) = false := by decide) (he : starEach (e :: es) X.env = (false, eval e X.env) :: starEach es X.env := by rfl) (hpl : (backTo pos (starEach es X.env)).any (·.1) = false := by rfl) :
    PE X (.Call (.Name x q) (e :: es) [] pos) (tCallS (sp pp) E t) := by
  refine ⟨fun pins s σ H Q I h => ?_⟩
  refine wpAny_Call_Name_kw (ld_glob I hg hm ?_ hdb)
  refine PySem.W.callWith_K (h₀ := X.base) I.ok.mod.kin hk (thn (ha.run pos pins s σ H _ I h) fun us s1 ⟨vs, H1, I1, r, q⟩ => ⟨I1.kIn, ?_⟩) he hpl
  exact run_fnHp F hr hot hp hb (hx σ) I1 r q
theorem ao_callHp {W : WX} {run : Addr × Obj → List O → Rs O} {np : Nat} {ma : M (List Arg)} (F : FnHp X.prog X.w X.K X.mg X.base k f fd ps (fun p => spOf X.K X.mg np (run p))) (hr : L2H.RoomH k X.A) (hot : L2H.Hot1 X.A pp) (hp : pp ∈ X.pn) (hg : Gl X x) (hm : X.mg x = some (.ref f)) (hk : PySem.W.keepIn X.K (.ref f) = true) (hb : Binds X.K fd ps []) (tk : L2N.Takes X W)
    (hnp : ∀ p os r, run p os = r → (∀ a b, r = .ok a b → os.length = np) ∧ (∀ a b c, r = .exc a b c → os.length = np))
    (ha : AA X W (e :: es) ma) (hdb : (x == ("__debug__" : Str)) = false := by decide) (he : starEach (e :: es) X.env = (false, eval e X.env) :: starEach es X.env := by rfl) (hpl : (backTo pos (starEach es X.env)).any (·.1) = false := by rfl) :
    AO X W (.Call (.Name x q) (e :: es) [] pos) (mCall (run pp) ma) := by
  obtain ⟨ta, pa, sa⟩ := ha
  exact ⟨_, pe_callHp F hr hot hp hg hm hk hb (fun σ => L2N.passAt tk σ) pa hdb he hpl, sn_call sa (hnp pp)⟩
end
end Lf
set_option Elab.async false
set_option linter.all false
set_option maxRecDepth 100000
set_option maxHeartbeats 4000000
/-! The lifting layer: an except suite, what its calls ask of the exception. -/
namespace Lf
open PySem PySem.Spec PyProof.Rows L2 HotX

/-- a def's body, from its reading -/
theorem fn_tail {K : Frag} {mg : Str → Option Value} {N ps : List Str} {fl : List Bool} {body : M Out} {t : TS} {Q : VK} {E : XK} {vs : List V} {H : Hp} (hfl : fl.length = ps.length) (hN : ps.length ≤ N.length)
    (sn : ∀ w σ E' D, Ok K mg w σ E' → PoS K mg (fun cls d _ H' => E cls d H') (pinsOf 0 fl) σ D w (body E') → t D σ w.H) (h : spOf K mg ps.length (mFn fl N.length body) vs H Q E) : t { nx := fun _ H' => Q .non H', rt := Q } (L2.start N vs) H := by
  obtain ⟨w0, os, rfl, hvs, k0, po⟩ := h
  have hos : os.length = fl.length := by
    have q := k0.env.len
    simp only [List.length_map] at q
    omega
  unfold mFn at po
  rw [if_pos hos] at po
  have k1 : Ok K mg w0 (L2.start N vs) (os.map some ++ List.replicate (N.length - fl.length) none) := ⟨k0.sub, by
    have q := k0.env.app (N.length - fl.length)
    unfold L2.start
    rw [hvs, ← hfl]
    exact q, k0.nd⟩
  have lenE : (os.map some ++ List.replicate (N.length - fl.length) none).length = N.length := by simp; omega
  refine sn w0 (L2.start N vs) _ _ k1 ?_
  cases r : body (os.map some ++ List.replicate (N.length - fl.length) none) with
  | ok o E' =>
    rw [r] at po
    intro w1 σ1 k1' s1 a1
    have le : E'.length = N.length := k1'.env.len.symm.trans (a1.len.trans (k1.env.len.trans lenE))
    obtain ⟨w2, e2, i2, sub, k2, s2⟩ := k1'.keep (fl := fl) (vs := vs) (N := N) s1 a1 (by omega) (by omega) le
    cases o with
    | nx =>
      show Q .non w1.H
      rw [← e2]
      exact po w2 .non [] k2 s2 (bes_dt k2 .non)
    | rt o =>
      intro v fp b
      show Q v w1.H
      rw [← e2]
      refine po w2 v fp k2 s2 ⟨?_, ?_, b.new⟩
      · rw [e2, i2]; exact b.rel
      · have q := List.nodup_append.mp b.nd
        exact List.nodup_append.mpr ⟨q.1, k2.nd, fun a m a' m' => q.2.2 a m a' (sub.subset m')⟩
    | br => exact po.elim
    | ct => exact po.elim
  | exc c fs E' =>
    rw [r] at po
    intro w1 σ1 cls dd k1' s1 a1 er
    have le : E'.length = N.length := k1'.env.len.symm.trans (a1.len.trans (k1.env.len.trans lenE))
    obtain ⟨w2, e2, i2, sub, k2, s2⟩ := k1'.keep (fl := fl) (vs := vs) (N := N) s1 a1 (by omega) (by omega) le
    show E cls dd w1.H
    rw [← e2]
    exact po w2 cls dd k2 s2 (er.at e2 i2)
  | no => rw [r] at po; exact po.elim
/-- a def that is called in an except suite with the exception -/
theorem fn_okHp {P : Program} {w : World} {K : Frag} {mg : Str → Option Value} {base : Heap} {x qual : Str} {st : Stmt} {f : Addr} {fd : FuncData} {N ps : List Str} {k : Nat} (F : FunD K x qual (defArgs st) (defBody st) (defScope st) [] [] f fd) (S : FnScope N ps (defScope st)) (fl : List Bool) (hfl : fl.length = ps.length) (hN : ps.length ≤ N.length) (body : Addr × Obj → M Out)
    (hb : ∀ (cdv : Value) (A : Around) (outer : List Env) (s : Shared) (H : Hp) (E : XK) (p : Addr × Obj), L2H.Hot1 A p → L2H.PinOk outer H s p → L2H.RoomH k (A.deeper (envOfC qual (defScope st) s.heap.objs.size f cdv)) →
      AB (L2H.cxH (L2N.CX P w) P w K mg base N qual (defScope st) f cdv A outer s H E p) (fun cls d _ H' => E cls d H') (pinsOf 0 fl) (defBody st) (body p)) :
    FnHp P w K mg base (k + 1) f fd ps (fun p => spOf K mg ps.length (mFn fl N.length (body p))) := by
  refine fun_okHp F S (fun p vs H Q E h => by obtain ⟨_, _, _, h, _⟩ := h; exact h) fun cdv A outer s H vs Q E p hot hpin hr h => ?_
  obtain ⟨t, p', sn⟩ := hb cdv A outer s H E p hot hpin hr
  exact ⟨t, p', fn_tail hfl hN sn h⟩

/-! ### asking the exception -/
/-- what the exception bears, from what stands for it -/
def excOf (p : Addr × Obj) : D → Option (List (Str × D))
  | .dict [(.bool true, .int a)] => if a = (p.1 : Nat) ∧ p.2.dict = none then some [] else none
  | .dict [(.bool true, .int a), (.int d, .str f), (.none, x)] => if a = (p.1 : Nat) ∧ 0 ≤ d ∧ p.2.dict = some d.toNat then some [(f, x)] else none
  | _ => none
theorem excOf_rel {K : Frag} {w : Wd} {v : V} {p : Addr × Obj} {d : D} {fs : List (Str × D)} (h : Dq K w.I v d) (e : excOf p d = some fs) : v = .ref p.1 ∧ ((fs = [] ∧ p.2.dict = none) ∨ ∃ dd f u x, fs = [(f, x)] ∧ p.2.dict = some dd ∧ w.I dd = some (.xd [(f, u)]) ∧ Dq K w.I u x) := by
  cases h with
  | @raw a =>
    have e' : (if ((a : Nat) : Int) = (p.1 : Nat) ∧ p.2.dict = none then some [] else none) = some fs := e
    split at e'
    · next q =>
      cases e'
      have ea : a = p.1 := by
        have z := q.1
        exact Int.ofNat.inj z
      exact ⟨by rw [ea], .inl ⟨rfl, q.2⟩⟩
    · cases e'
  | @exn a dd f u x h1 h2 =>
    have e' : (if ((a : Nat) : Int) = (p.1 : Nat) ∧ 0 ≤ ((dd : Nat) : Int) ∧ p.2.dict = some ((dd : Nat) : Int).toNat then some [(f, x)] else none) = some fs := e
    split at e'
    · next q =>
      cases e'
      have ea : a = p.1 := by
        have z := q.1
        exact Int.ofNat.inj z
      exact ⟨by rw [ea], .inr ⟨dd, f, u, x, rfl, by rw [q.2.2]; rfl, h1, h2⟩⟩
    · cases e'
  | non => cases e
  | bl b => cases e
  | int i => cases e
  | str x => cases e
  | lst _ _ => cases e
  | tup _ _ => cases e
  | scr _ _ => cases e
def xokB (K : Frag) (D : Addr) : Bool := decide (PySem.W.findIn K (.ref D) "__getattribute__" = some (some (.builtin "BaseException.__getattribute__"))) && (decide (PySem.W.findIn K (.ref D) "__getattr__" = some none) && (decide (PySem.W.subIn K (.ref D) (.type "BaseException") = some true) && (PySem.W.hasDictIn K D &&
  (decide (PySem.W.findIn K (.ref D) "__class__" = some (some (.builtin "object.__class__"))) && (decide (PySem.W.specialIn K (.builtin "object.__class__") "__get__" = some (some (.builtin "getset_descriptor.__get__"))) && (decide (PySem.W.takesIn K (.builtin "object.__class__") = some true) && decide (PySem.W.mroIn K D (.type "object") = some true)))))))
theorem xokB_ok {K : Frag} {D : Addr} (h : xokB K D = true) : _root_.L2.ExcC K D := by
  simp only [xokB, Bool.and_eq_true, decide_eq_true_eq] at h
  obtain ⟨h1, h2, h3, h4, h5, h6, h7, h8⟩ := h
  exact ⟨h1, h2, h3, h4, h5, h6, h7, h8⟩
/-- isinstance(e, C) -/
def isX (K : Frag) (p : Addr × Obj) (C' : Addr) (d : D) : Option Bool := match excOf p d, p.2.cls with
  | some _, .ref D => if xokB K D = true then PySem.W.kitOne K (.ref D) (.ref C') else none
  | _, _ => none
/-- e.f -/
def fldX (K : Frag) (p : Addr × Obj) (f : Str) (d : D) : Option D := match excOf p d, p.2.cls with
  | some [(g, x)], .ref D => if xokB K D = true ∧ g = f ∧ PySem.W.findIn K (.ref D) f = some none then some x else none
  | _, _ => none
def mIsX (K : Frag) (p : Addr × Obj) (C' : Addr) (ma : M D) : M D := fun E => match ma E with
  | .ok d E1 => lift ((isX K p C' d).map .bool) E1
  | _ => .no
def mFldX (K : Frag) (p : Addr × Obj) (f : Str) (ma : M D) : M D := fun E => match ma E with
  | .ok d E1 => lift (fldX K p f d) E1
  | _ => .no
def rIsX (K : Frag) (p : Addr × Obj) (D : Addr) : List V → Hp → VK → Prop := fun xs H Q => ∃ (C' : Addr) (b : Bool), xs = [.ref p.1, .ref C'] ∧ PySem.W.kitOne K (.ref D) (.ref C') = some b ∧ (p.2.dict = none ∨ ∃ dd fv, p.2.dict = some dd ∧ H dd = some (.xd fv)) ∧ Q (.bl b) H
theorem inst_pin {X : Cx} {pins : List (Addr × Obj)} {σ : L2.St} {H : Hp} {s : Shared} {p : Addr × Obj} {D : Addr} (I : Inv X pins σ H s) (hp : p ∈ X.pn) (hcls : p.2.cls = .ref D) (hf : ∃ vs, p.2.data = .fields vs) (hd : p.2.dict = none ∨ ∃ dd fv, p.2.dict = some dd ∧ H dd = some (.xd fv)) :
    ∃ od, PySem.W.InstAt s.heap p.1 p.2 D od := by
  obtain ⟨ha, _⟩ := I.pin p (List.mem_append_left _ hp)
  obtain ⟨vs, hv⟩ := hf
  have no : PySem.W.notCls p.2 = true := by unfold PySem.W.notCls; rw [hv] <;> rfl
  rcases hd with hd | ⟨dd, fv, hd, hx⟩
  · exact ⟨none, ha, hcls, no, by rw [hd]; trivial⟩
  · have hx' : ObjOk X.prog X.w H s.heap dd (.xd fv) := I.hok dd _ hx
    obtain ⟨mA, hns, hr⟩ := hx'
    obtain ⟨o, es, ep, ho, _⟩ := hns
    exact ⟨some o, ha, hcls, no, by rw [hd]; exact ho⟩
theorem call_isX {X : Cx} {p : Addr × Obj} {D : Addr} (T : _root_.L2.ExcC X.K D) (hp : p ∈ X.pn) (hcls : p.2.cls = .ref D) (hf : ∃ vs, p.2.data = .fields vs) : CallR X (.builtin "isinstance") (rIsX X.K p D) := by
  intro pins s σ H xs us Q I r h
  obtain ⟨C', b, rfl, e, hd, q⟩ := h
  obtain ⟨u1, u2, rfl, r1, r2⟩ := vals2 r
  obtain rfl : u1 = Value.ref p.1 := r1
  obtain rfl : u2 = Value.ref C' := r2
  obtain ⟨od, J⟩ := inst_pin I hp hcls hf hd
  have hcl : (PySem.W.clsIn X.K D).isSome = true := by
    obtain ⟨cd, hc, _⟩ := PySem.W.any_some T.hd
    rw [hc]; rfl
  exact PySem.W.kia_one (PySem.W.kitx_exc (od := od) hcl T.hg T.hk T.hs T.ha T.hn T.ht T.hm) I.kIn J e (fun z => nomatch z) fun tk => ⟨.bl b, H, I.kept (t' := tk) fun _ _ z => z, rfl, q⟩
section
variable {X : Cx} {W : WX} {e : Expr} {pos p1 p2 : Pos} {ma : M D} {p : Addr × Obj} {x : Str} {C' : Addr}
theorem ad_isX (hp : p ∈ X.pn) (hf : ∃ vs, p.2.data = .fields vs) (hg : Gl X "isinstance") (hm : X.mg "isinstance" = none) (hT : Gl X x) (hmT : X.mg x = some (.ref C')) (he : AD X W e ma) (hdT : (x == ("__debug__" : Str)) = false := by decide)
    (hst : starEach [e, .Name x p2] X.env = (false, eval e X.env) :: starEach [.Name x p2] X.env := by rfl) (hs2 : starEach [.Name x p2] X.env = (false, eval (.Name x p2) X.env) :: starEach [] X.env := by rfl) (hpl : (backTo pos (starEach [.Name x p2] X.env)).any (·.1) = false := by rfl) :
    AD X W (.Call (.Name "isinstance" p1) [e, .Name x p2] [] pos) (mIsX X.K p C' ma) := by
  by_cases hD : ∃ D, p.2.cls = .ref D ∧ xokB X.K D = true
  · obtain ⟨D, hcls, hx⟩ := hD
    obtain ⟨te, pe, s⟩ := he
    refine ⟨_, pe_callB (call_isX (xokB_ok hx) hp hcls hf) hg hm (by decide +kernel) (pa_cons pe (pa_cons (pe_glob (v := .ref C') hT hmT rfl hdT) pa_nil hs2) hst) (by decide) (by decide) hst hpl, fun w σ E Q k po => ?_⟩
    refine s w σ E _ k ?_
    unfold mIsX at po
    cases em : ma E with
    | no => rw [em] at po; exact po.elim
    | exc c fs E1 => rw [em] at po; exact po.elim
    | ok d E1 =>
      rw [em] at po
      intro w1 k1 s1 v hv
      obtain ⟨r, hr, q⟩ := po.lift
      unfold isX at hr
      rw [hcls] at hr
      cases eo : excOf p d with
      | none => rw [eo] at hr; cases hr
      | some fs =>
        rw [eo] at hr
        simp only [hx, if_true] at hr
        cases ek : PySem.W.kitOne X.K (.ref D) (.ref C') with
        | none => rw [ek] at hr; cases hr
        | some b =>
          rw [ek] at hr
          cases hr
          obtain ⟨rfl, hd⟩ := excOf_rel hv eo
          refine ⟨C', b, rfl, ek, ?_, q w1 k1 s1 _ (.bl b)⟩
          rcases hd with ⟨_, hd⟩ | ⟨dd, f, u, y, _, hd, hI, _⟩
          · exact .inl hd
          · exact .inr ⟨dd, _, hd, k1.sub _ _ hI⟩
  · refine ⟨fun _ _ _ => False, ⟨fun pins s σ H Q I h => h.elim⟩, fun w σ E Q k po => ?_⟩
    unfold mIsX at po
    cases em : ma E with
    | no => rw [em] at po; exact po.elim
    | exc c fs E1 => rw [em] at po; exact po.elim
    | ok d E1 =>
      rw [em] at po
      have z : isX X.K p C' d = none := by
        unfold isX
        split
        · next _ D h1 h2 =>
          rw [if_neg fun hx => hD ⟨D, h2, hx⟩]
        · rfl
      have po' : Po X.K X.mg W σ (RD X.K σ Q) w (lift ((isX X.K p C' d).map .bool) E1) := po
      rw [z] at po'
      exact po'.elim
theorem ad_fldX {f : Str} (hp : p ∈ X.pn) (hf : ∃ vs, p.2.data = .fields vs) (he : AD X W e ma) (hb : attributeBase e f X.env (eval e X.env) = eval e X.env) : AD X W (.Attribute e f pos) (mFldX X.K p f ma) := by
  by_cases hD : ∃ D, p.2.cls = .ref D ∧ xokB X.K D = true ∧ PySem.W.findIn X.K (.ref D) f = some none
  · obtain ⟨D, hcls, hx, hno⟩ := hD
    have T := xokB_ok hx
    obtain ⟨te, pe, s⟩ := he
    refine ⟨fun σ H Q => te σ H fun u H1 => u = .ref p.1 ∧ ∃ (dd : Addr) (fs : List (Str × V)) (v : V), p.2.dict = some dd ∧ H1 dd = some (.xd fs) ∧ fs.lookup f = some v ∧ Q v H1, ⟨fun pins s σ H Q I h => ?_⟩, fun w σ E Q k po => ?_⟩
    · refine attr_of hb (thn (pe.run pins s σ H _ I h) fun u s1 hh => ?_)
      obtain ⟨x, H1, I1, rx, ex, dd, fs, v, ed, ea, l, q⟩ := hh
      subst ex
      obtain rfl : u = Value.ref p.1 := rx
      obtain ⟨ha, _⟩ := I1.pin p (List.mem_append_left _ hp)
      obtain ⟨vs, hd⟩ := hf
      have hx : ObjOk X.prog X.w H1 s1.heap dd (.xd fs) := I1.hok dd _ ea
      obtain ⟨mA, hns, hr⟩ := hx
      obtain ⟨od, ho, hl⟩ := lookIn_ns hns
      obtain ⟨u, hu, ru⟩ := RelO.some_of (v := v) (o := mA f) (by rw [← l]; exact hr f)
      have J : PySem.W.InstAt s1.heap p.1 p.2 D (some od) := ⟨ha, hcls, by unfold PySem.W.notCls; rw [hd] <;> rfl, by rw [ed]; exact ho⟩
      exact PySem.HandSPX.exc_get I1.kIn J T.hg T.hk T.hs (PySem.W.findObj_own T.hd hno rfl (by rw [hl, hu])) (handed_of ru) ⟨v, H1, I1.tok _, ru, q⟩
    · refine s w σ E _ k ?_
      unfold mFldX at po
      cases em : ma E with
      | no => rw [em] at po; exact po.elim
      | exc c fs E1 => rw [em] at po; exact po.elim
      | ok d E1 =>
        rw [em] at po
        intro w1 k1 s1 v hv
        obtain ⟨r, hr, q⟩ := po.lift
        unfold fldX at hr
        rw [hcls] at hr
        split at hr
        · next g y D' eo ed =>
          split at hr
          · next hc =>
            cases hr
            obtain ⟨rfl, hd⟩ := excOf_rel hv eo
            rcases hd with ⟨hd, _⟩ | ⟨dd, f', u, y', hd, hd2, hI, hy⟩
            · cases hd
            · cases hd
              obtain ⟨_, rfl, _⟩ := hc
              exact ⟨rfl, dd, _, u, hd2, k1.sub _ _ hI, by simp [List.lookup], q w1 k1 s1 u hy⟩
          · cases hr
        · cases hr
  · refine ⟨fun _ _ _ => False, ⟨fun pins s σ H Q I h => h.elim⟩, fun w σ E Q k po => ?_⟩
    unfold mFldX at po
    cases em : ma E with
    | no => rw [em] at po; exact po.elim
    | exc c fs E1 => rw [em] at po; exact po.elim
    | ok d E1 =>
      rw [em] at po
      have z : fldX X.K p f d = none := by
        unfold fldX
        split
        · next _ _ D h1 h2 =>
          rw [if_neg fun hx => hD ⟨D, h2, hx.1, hx.2.2⟩]
        · rfl
      have po' : Po X.K X.mg W σ (RD X.K σ Q) w (lift (fldX X.K p f d) E1) := po
      rw [z] at po'
      exact po'.elim
end
end Lf
set_option Elab.async false
set_option linter.all false
set_option maxRecDepth 100000
set_option maxHeartbeats 4000000
/-! The lifting layer: try .. except C as e. -/
namespace Lf
open PySem PySem.Spec PyProof.Rows L2 HotX

theorem Ok.killX {K : Frag} {mg : Str → Option Value} {w : Wd} {σ : L2.St} {E : En} {i : Nat} (k : Ok K mg w σ E) (x : Option V) : ∃ w', w'.H = w.H ∧ w'.I = w.I ∧ (∀ a ∈ w'.FP, a ∈ w.FP) ∧ Ok K mg w' (σ.set i x) (E.set i none) ∧ Stp w w' := by
  by_cases hi : i < E.length
  · obtain ⟨s, e, fp0, FR, h1, h2, h3, h4, h5⟩ := k.env.focus hi
    obtain ⟨FP', p, r⟩ := h5 w.I w.H x none [] (Same.refl _) (fun a m => ⟨rfl, (k.env.there a (h4.mem_iff.mpr (List.mem_append_right _ m))).1⟩) .un
    have ndF := h4.nodup_iff.mp k.nd
    refine ⟨⟨w.I, w.H, FP'⟩, rfl, rfl, fun a m => h4.mem_iff.mpr (List.mem_append_right _ (p.mem_iff.mp m)), ⟨k.sub, r, p.nodup_iff.mpr (List.nodup_append.mp ndF).2.1⟩, ⟨Same.refl _, fun _ _ _ h => h, fun _ _ _ _ h => h, fun a m => .inl (h4.mem_iff.mpr (List.mem_append_right _ (p.mem_iff.mp m)))⟩⟩
  · have e1 : E.set i none = E := List.set_eq_of_length_le (Nat.le_of_not_lt hi)
    have e2 : σ.set i x = σ := List.set_eq_of_length_le (by rw [k.env.len]; exact Nat.le_of_not_lt hi)
    rw [e1, e2]
    exact ⟨w, rfl, rfl, fun _ h => h, k, Stp.refl w⟩
theorem Bes.sub {K : Frag} {mg : Str → Option Value} {w w' w2 : Wd} {v : V} {o : O} {fp : List Addr} (b : Bes K mg w w' v o fp) (hH : w2.H = w'.H) (hI : w2.I = w'.I) (hF : ∀ a ∈ w2.FP, a ∈ w'.FP) (nd : w2.FP.Nodup) : Bes K mg w w2 v o fp :=
  ⟨by rw [hH, hI]; exact b.rel, List.nodup_append.mpr ⟨(List.nodup_append.mp b.nd).1, nd, fun a m a' m' => (List.nodup_append.mp b.nd).2.2 a m a' (hF a' m')⟩, b.new⟩
def mTry (i : Nat) (cat : Str → Option Bool) (mb : M Out) (mH : Str → List (Str × D) → M Out) : M Out := fun E => match mb E with
  | .exc c fs E1 => (match cat c with
    | some true => if i < E1.length then (match mH c fs (E1.set i none) with
      | .ok out E2 => .ok out E2
      | _ => .no) else .no
    | some false => .exc c fs E1
    | none => .no)
  | r => r
section
variable {X : Cx} {W : WX} {pz : List Nat} {x n : Str} {cv : Value} {body suite : List Stmt} {b₀ : Stmt} {np pos pos' : Pos} {mb : M Out}
theorem as_try (i : Nat) (hpz : i ∉ pz) (hs : X.stack = X.env :: X.outer) (hf : X.env.frame = some X.env.locals) (hN : X.N.Nodup) (hi : X.N[i]? = some n) (hln : X.env.kindOf n = some .local) (hc : Names X x cv) (tk : L2N.Takes X W)
    (hb : ∀ (W' : WX) (pn : List (Addr × Obj)) (xe : Value → Shared → Prop), L2N.Takes (X.tr pn xe) W' → PassesOwn (model X.prog X.w) X.A X.env xe → AB (X.tr pn xe) W' pz body mb)
    (cat : Str → Option Bool) (hcat : ∀ c C b, cat c = some b → X.mg c = some (.ref C) → PySem.W.exmOne X.K (.ref C) cv = some b)
    (mh : Addr × Obj → M Out) (hsu : ∀ (p : Addr × Obj) (pn : List (Addr × Obj)), L2H.Hot1 (X.suite p.1 (p :: pn)).A p → AB (X.suite p.1 (p :: pn)) W0 pz (b₀ :: suite) (mh p))
    (mH : Str → List (Str × D) → M Out)
    (hH : ∀ (p : Addr × Obj) (C : Addr) (c : Str) (fs : List (Str × D)) (d : D) (E : En) (out : Out) (E2 : En), cat c = some true → X.mg c = some (.ref C) → p.2.cls = .ref C → excOf p d = some fs → mH c fs (E.set i none) = .ok out E2 → ∃ E3, mh p (E.set i (some (.dt d))) = .ok out E3 ∧ E3.set i none = E2) :
    AS X W pz (.Try body [.ExceptHandler (some (.Name x np)) (some n) (b₀ :: suite) pos'] [] [] pos) (mTry i cat mb mH) := by
  have hot : ∀ (p : Addr × Obj) (cls : Value) (d : Option Addr) (pn : List (Addr × Obj)), L2N.Zn cls d p.2 → (∃ vs, p.2.data = .fields vs) → L2H.Hot1 (X.suite p.1 (p :: pn)).A p := fun p cls d pn z h => by
    obtain ⟨vs, hv⟩ := h
    exact ⟨rfl, vs, hv, z.2.2 vs hv⟩
  refine ⟨_, L2N.ps_try_as (tb := fun W' D σ H => ∀ (pn : List (Addr × Obj)) (xe : Value → Shared → Prop) (h1 : L2N.Takes (X.tr pn xe) W') (h2 : PassesOwn (model X.prog X.w) X.A X.env xe), Classical.choose (hb W' pn xe h1 h2) D σ H)
    (ts := fun a cls d D σ H => ∀ (oe : Obj) (pn : List (Addr × Obj)) (h1 : L2N.Zn cls d oe) (h2 : ∃ vs, oe.data = .fields vs), Classical.choose (hsu (a, oe) pn (hot (a, oe) cls d pn h1 h2)) D σ H) hs hf hN hi hln hc tk
    (fun W' pn xe h1 h2 => ⟨fun pins s σ H D I q => (Classical.choose_spec (hb W' pn xe h1 h2)).1.run pins s σ H D I (q pn xe h1 h2)⟩)
    (fun a oe cls d pn h1 h2 => ⟨fun pins s σ H D I q => (Classical.choose_spec (hsu (a, oe) pn (hot (a, oe) cls d pn h1 h2))).1.run pins s σ H D I (q oe pn h1 h2)⟩), fun w σ E D k po => ?_⟩
  intro pn xe h1 h2
  refine (Classical.choose_spec (hb _ pn xe h1 h2)).2 w σ E D k ?_
  unfold mTry at po
  cases r : mb E with
  | ok out E1 => rw [r] at po; exact po
  | no => rw [r] at po; exact po
  | exc c fs E1 =>
    rw [r] at po
    intro w' σ' cls dd k' s' a' er
    obtain ⟨C, gC, rfl, hfs⟩ := er
    cases ec : cat c with
    | none => simp only [ec] at po; exact po.elim
    | some b =>
      simp only [ec] at po
      cases b with
      | false => exact ⟨false, hcat c C false ec gC, fun z => (by cases z), fun _ => po w' σ' _ _ k' s' a' ⟨C, gC, rfl, hfs⟩⟩
      | true =>
        refine ⟨true, hcat c C true ec gC, fun _ a ha => ?_, fun z => (by cases z)⟩
        intro oe pn2 z1 z2
        simp only at po
        by_cases hl : i < E1.length
        · rw [if_pos hl] at po
          obtain ⟨d, hd, he⟩ : ∃ d : PyData, Dq X.K w'.I (.ref a) d ∧ excOf (a, oe) d = some fs := by
            rcases hfs with ⟨rfl, rfl⟩ | ⟨dd', f, v, y, rfl, rfl, hI, hy⟩
            · refine ⟨_, .raw, ?_⟩
              show (if ((a : Nat) : Int) = (a : Nat) ∧ oe.dict = none then some [] else none) = some []
              rw [if_pos ⟨rfl, z1.2.1⟩]
            · refine ⟨_, .exn hI hy, ?_⟩
              show (if ((a : Nat) : Int) = (a : Nat) ∧ 0 ≤ ((dd' : Nat) : Int) ∧ oe.dict = some ((dd' : Nat) : Int).toNat then some [(f, y)] else none) = some [(f, y)]
              rw [if_pos ⟨rfl, Int.natCast_nonneg _, z1.2.1⟩]
          cases em : mH c fs (E1.set i none) with
          | no => rw [em] at po; exact po.elim
          | exc _ _ _ => rw [em] at po; exact po.elim
          | ok out E2 =>
            rw [em] at po
            obtain ⟨E3, e3, e4⟩ := hH (a, oe) C c fs d E1 out E2 ec gC z1.1 he em
            obtain ⟨w2, g1, k2, s2⟩ := k'.put (bes_dt (w := w') k' hd) hl (Stp.refl _)
            rw [← g1]
            refine (Classical.choose_spec (hsu (a, oe) pn2 (hot (a, oe) (.ref C) dd pn2 z1 z2))).2 w2 _ _ _ k2 ?_
            rw [e3]
            intro w3 σ3 k3 s3 a3
            have ag : Ag pz σ σ3 := a'.trans ((Ag.set hpz).trans a3)
            obtain ⟨w4, b1, b2, b3, k4, s4⟩ := k3.killX (i := i) none
            rw [e4] at k4
            have st : Stp w w4 := ((s'.trans s2).trans s3).trans s4
            have z := po w4 _ k4 st (ag.trans (Ag.set hpz))
            cases out with
            | nx => show D.nx (σ3.set i none) w3.H; rw [← b1]; exact z
            | br => show D.bk (σ3.set i none) w3.H; rw [← b1]; exact z
            | ct => show D.ct (σ3.set i none) w3.H; rw [← b1]; exact z
            | rt o =>
              intro v fp b
              show D.rt v w3.H
              rw [← b1]
              refine z v fp (Bes.sub ⟨b.rel, b.nd, fun a m => new_back (s'.trans s2) (b.new a m)⟩ b1 b2 b3 k4.nd)
        · rw [if_neg hl] at po; exact po.elim
end
end Lf
set_option Elab.async false
set_option linter.all false
set_option maxRecDepth 100000
set_option maxHeartbeats 4000000
/-! The lifting layer: the rules in short. -/
namespace Lf
open PySem PySem.Spec PyProof.Rows L2

theorem tk0 {X : Cx} : L2N.Takes X W0 := fun _ _ x => by
  obtain ⟨_, _, _, _, _, _, _, _, _, _, _, _, _, _, _, _, z⟩ := x
  exact z.elim
/-- a def of the text, as it is called -/
structure Df (P : Program) (w : World) (K : Frag) (mg : Str → Option Value) (base : Heap) (x : Str) (k : Nat) (np : Nat) (run : List O → Rs O) : Prop where
  ex : ∃ f fd ps, FnOk P w K mg base (L2N.CX P w) k f fd ps (spOf K mg np run) ∧ mg x = some (.ref f) ∧ PySem.W.keepIn K (.ref f) = true ∧ Binds K fd ps []
  np : ∀ os r, run os = r → (∀ a b, r = .ok a b → os.length = np) ∧ (∀ a b c, r = .exc a b c → os.length = np)
theorem df_mk {P : Program} {w : World} {K : Frag} {mg : Str → Option Value} {base : Heap} {x qual : Str} {st : Stmt} {f : Addr} {fd : FuncData} {N ps : List Str} {k : Nat} (F : FunD K x qual (defArgs st) (defBody st) (defScope st) [] [] f fd) (hm : mg x = some (.ref f)) (S : FnScope N ps (defScope st)) (fl : List Bool) (hfl : fl.length = ps.length) (hN : ps.length ≤ N.length) (body : M Out)
    (hbi : ∀ (kV doc pm : Value) (an : Option Addr) (cdv ct : Value) (us : List Value), us.length = ps.length → bindArgs (PySem.W.fnOf x qual (defArgs st) (defBody st) (defScope st) .none kV doc pm an cdv ct) ⟨us, []⟩ = pure (ps.zip us))
    (hb : ∀ (cdv : Value) (A : Around) (outer : List Env) (s : Shared) (H : Hp) (E : XK), Room k (A.deeper (envOfC qual (defScope st) s.heap.objs.size f cdv)) →
      AB (cxOf (L2N.CX P w) P w K mg base N qual (defScope st) f cdv A outer s H E) (fun cls d _ H' => E cls d H') (pinsOf 0 fl) (defBody st) body) :
    Df P w K mg base x (k + 1) fl.length (mFn fl N.length body) :=
  ⟨⟨f, fd, ps, by rw [hfl]; exact fn_ok F S fl hfl hN body hb, hm, F.kp, F.bindsN hbi⟩, fun os r h => mFn_len os r h⟩

section
variable {X : Cx} {W : WX} {pz : List Nat} {a b c e o i lo hi : Expr} {es : List Expr} {pos p p1 p2 p3 p4 xp apos cpos spos : Pos} {ma mb mc : M D} {x y : Str} {mo : M O} {kk np : Nat} {run : List O → Rs O} {mA : M (List Arg)}
/-! ### names -/
theorem gV (i : Nat) (h : PE X (.Name x pos) (tVar i) := by exact pv _) : AD X W (.Name x pos) (mVar i) := ad_var i h
theorem gF (i : Nat) (h : PE X (.Name x pos) (tVar i) := by exact pv _) : AD X W (.Name x pos) (mFrzV i) := ad_frzV i h
theorem gM (i : Nat) (h : PE X (.Name x pos) (tVar i) := by exact pv _) : AO X W (.Name x pos) (mMv i) := ao_mv i h
theorem gP (i : Nat) (h : PE X (.Name x pos) (tVar i) := by exact pv _) : APl X (.Name x pos) (plV i) := pl_var i h
/-! ### operators -/
theorem gAdd (ha : AD X W a ma) (hb : AD X W b mb) : AD X W (.BinOp a .Add b pos) (m2 pAdd ma mb) := ad_op or_add od_add ha hb
theorem gSub (ha : AD X W a ma) (hb : AD X W b mb) : AD X W (.BinOp a .Sub b pos) (m2 pSub ma mb) := ad_op op_sub od_sub ha hb
theorem gMul (ha : AD X W a ma) (hb : AD X W b mb) : AD X W (.BinOp a .Mult b pos) (m2 pMul ma mb) := ad_op or_mul od_mul ha hb
theorem gFdiv (ha : AD X W a ma) (hb : AD X W b mb) : AD X W (.BinOp a .FloorDiv b pos) (m2 pFdiv ma mb) := ad_op op_fdivN od_fdiv ha hb
theorem gMod (ha : AD X W a ma) (hb : AD X W b mb) : AD X W (.BinOp a .Mod b pos) (m2 pMod ma mb) := ad_op op_modN od_mod ha hb
theorem gPow (ha : AD X W a ma) (hb : AD X W b mb) : AD X W (.BinOp a .Pow b pos) (m2 pPow ma mb) := ad_op op_pow od_pow ha hb
theorem gShl (ha : AD X W a ma) (hb : AD X W b mb) : AD X W (.BinOp a .LShift b pos) (m2 pShl ma mb) := ad_op op_shl od_shl ha hb
theorem gShr (ha : AD X W a ma) (hb : AD X W b mb) : AD X W (.BinOp a .RShift b pos) (m2 pShr ma mb) := ad_op op_shr od_shr ha hb
theorem gBand (ha : AD X W a ma) (hb : AD X W b mb) : AD X W (.BinOp a .BitAnd b pos) (m2 pAnd ma mb) := ad_op op_and od_and ha hb
theorem gBor (ha : AD X W a ma) (hb : AD X W b mb) : AD X W (.BinOp a .BitOr b pos) (m2 pOr ma mb) := ad_op op_or od_or ha hb
theorem gNeg (ha : AD X W a ma) : AD X W (.UnaryOp .USub a pos) (m1 pNeg ma) := ad_un (fun p => pe_un un_neg p) ud_neg ha
theorem gAddO (ha : AD X W a ma) (hb : AD X W b mb) : AO X W (.BinOp a .Add b pos) (m2O catL ma mb) := ao_op or_add ol_cat ha hb
theorem gMulO (ha : AD X W a ma) (hb : AD X W b mb) : AO X W (.BinOp a .Mult b pos) (m2O repL ma mb) := ao_op or_mul ol_rep ha hb
/-! ### comparisons -/
theorem gLt (ha : AD X W a ma) (hb : AD X W b mb) : AD X W (.Compare a [.Lt] [b] pos) (m2 pLt ma mb) := ad_cmp op_lt (nomark _) od_lt ha hb
theorem gLe (ha : AD X W a ma) (hb : AD X W b mb) : AD X W (.Compare a [.LtE] [b] pos) (m2 pLe ma mb) := ad_cmp op_le (nomark _) od_le ha hb
theorem gGt (ha : AD X W a ma) (hb : AD X W b mb) : AD X W (.Compare a [.Gt] [b] pos) (m2 pGt ma mb) := ad_cmp op_gt (nomark _) od_gt ha hb
theorem gGe (ha : AD X W a ma) (hb : AD X W b mb) : AD X W (.Compare a [.GtE] [b] pos) (m2 pGe ma mb) := ad_cmp op_ge (nomark _) od_ge ha hb
theorem hu65 {k : Nat} (hr : Room k X.A) : X.A.units + 65 < cLine := by have := hr.un; omega
theorem gEq (hr : Room kk X.A) (ha : AD X W a ma) (hb : AD X W b mb) : AD X W (.Compare a [.Eq] [b] pos) (m2 pEq ma mb) := ad_cmp (op_eqD (by have := hu65 hr; omega)) (nomark _) od_eq ha hb
theorem gNe (hr : Room kk X.A) (ha : AD X W a ma) (hb : AD X W b mb) : AD X W (.Compare a [.NotEq] [b] pos) (m2 pNe ma mb) := ad_cmp (op_neD (by have := hu65 hr; omega)) (nomark _) od_ne ha hb
theorem gIn (hr : Room kk X.A) (ha : AD X W a ma) (hb : AD X W b mb) (hm : behindInMarks .In b = false := by rfl) : AD X W (.Compare a [.In] [b] pos) (m2 pIn ma mb) := ad_cmp (op_inD (hu65 hr)) hm od_in ha hb
theorem gNotIn (hr : Room kk X.A) (ha : AD X W a ma) (hb : AD X W b mb) (hm : behindInMarks .NotIn b = false := by rfl) : AD X W (.Compare a [.NotIn] [b] pos) (m2 pNotIn ma mb) := ad_cmp (op_notInD (hu65 hr)) hm od_notIn ha hb
theorem gIs (ha : AD X W a ma) (hb : AD X W b mb) : AD X W (.Compare a [.Is] [b] pos) (m2 pIs ma mb) := ad_cmp op_isN (nomark _) od_is ha hb
theorem gIsNot (ha : AD X W a ma) (hb : AD X W b mb) : AD X W (.Compare a [.IsNot] [b] pos) (m2 pIsNot ma mb) := ad_cmp op_notN (nomark _) od_isNot ha hb
theorem tLt (ha : AD X W a ma) (hb : AD X W b mb) : AT X W (.Compare a [.Lt] [b] pos) (mB (m2 pLt ma mb)) := at_cmp op_lt (nomark _) od_lt ha hb
theorem tLe (ha : AD X W a ma) (hb : AD X W b mb) : AT X W (.Compare a [.LtE] [b] pos) (mB (m2 pLe ma mb)) := at_cmp op_le (nomark _) od_le ha hb
theorem tGt (ha : AD X W a ma) (hb : AD X W b mb) : AT X W (.Compare a [.Gt] [b] pos) (mB (m2 pGt ma mb)) := at_cmp op_gt (nomark _) od_gt ha hb
theorem tGe (ha : AD X W a ma) (hb : AD X W b mb) : AT X W (.Compare a [.GtE] [b] pos) (mB (m2 pGe ma mb)) := at_cmp op_ge (nomark _) od_ge ha hb
theorem tEq (hr : Room kk X.A) (ha : AD X W a ma) (hb : AD X W b mb) : AT X W (.Compare a [.Eq] [b] pos) (mB (m2 pEq ma mb)) := at_cmp (op_eqD (by have := hu65 hr; omega)) (nomark _) od_eq ha hb
theorem tNe (hr : Room kk X.A) (ha : AD X W a ma) (hb : AD X W b mb) : AT X W (.Compare a [.NotEq] [b] pos) (mB (m2 pNe ma mb)) := at_cmp (op_neD (by have := hu65 hr; omega)) (nomark _) od_ne ha hb
theorem tIn (hr : Room kk X.A) (ha : AD X W a ma) (hb : AD X W b mb) (hm : behindInMarks .In b = false := by rfl) : AT X W (.Compare a [.In] [b] pos) (mB (m2 pIn ma mb)) := at_cmp (op_inD (hu65 hr)) hm od_in ha hb
theorem tNotIn (hr : Room kk X.A) (ha : AD X W a ma) (hb : AD X W b mb) (hm : behindInMarks .NotIn b = false := by rfl) : AT X W (.Compare a [.NotIn] [b] pos) (mB (m2 pNotIn ma mb)) := at_cmp (op_notInD (hu65 hr)) hm od_notIn ha hb
theorem tIs (ha : AD X W a ma) (hb : AD X W b mb) : AT X W (.Compare a [.Is] [b] pos) (mB (m2 pIs ma mb)) := at_cmp op_isN (nomark _) od_is ha hb
theorem tIsNot (ha : AD X W a ma) (hb : AD X W b mb) : AT X W (.Compare a [.IsNot] [b] pos) (mB (m2 pIsNot ma mb)) := at_cmp op_notN (nomark _) od_isNot ha hb
theorem tVal (ha : AD X W e ma) (he : ∀ whole, isTrue e X.env whole = (do let v ← whole; standAt e.pos; holding [v] (truthy v)) := by intro _; rfl) : AT X W e (mB ma) := at_val he ha
theorem tTru (ha : AD X W e ma) (he : ∀ whole, isTrue e X.env whole = (do let v ← whole; standAt e.pos; holding [v] (truthy v)) := by intro _; rfl) : AT X W e (mTru truD ma) := at_tru he ha
theorem tTruPl {mp : En → Option (Nat × List PSt)} (ha : APl X e mp) (he : ∀ whole, isTrue e X.env whole = (do let v ← whole; standAt e.pos; holding [v] (truthy v)) := by intro _; rfl) : AT X W e (mTruPl mp) := at_truPl he ha
/-! ### subscripts, places -/
theorem gIx (ha : AD X W a ma) (hb : AD X W b mb) (hs : PlainIx b := by exact fun _ _ => rfl) : AD X W (.Subscript a b pos) (m2 pIx ma mb) := ad_ix ix_seq od_ix ha hb fun p q => pe_ix ix_seq p q hs
theorem gPix {mp : En → Option (Nat × List PSt)} {f : En → Option D} (ha : APl X a mp) (hb : APu X b f) (hs : PlainIx b := by exact fun _ _ => rfl) : APl X (.Subscript a b pos) (plIx mp f) := pl_ix ha hb fun p q => pe_ix ix_seq p q hs
theorem gPfld {mp : En → Option (Nat × List PSt)} {c f : Str} (hc : ClsF X c f) (ha : APl X a mp) (hb : attributeBase a f X.env (eval a X.env) = eval a X.env := by rfl) : APl X (.Attribute a f pos) (plFld mp c f) := pl_fld ha hc fun p => pe_fld p hb
theorem gLoad {mp : En → Option (Nat × List PSt)} (h : APl X e mp) : AD X W e (mPu (uLoad mp)) := ad_pu (pu_load h)
theorem gRev {k : Nat} (he : AD X W e ma) : AD X W (.Subscript e (.Slice none none (some (.UnaryOp .USub (.Constant (.int 1) k p1) p3)) p4) pos) (m1 pRev ma) := ad_rev he
theorem gSl {ml mh : M (Option Int)} {l h : Option Expr} (he : AD X W e ma) (hl : AP X W l ml) (hh : AP X W h mh) : AD X W (.Subscript e (.Slice l h none p2) pos) (mSl ma ml mh) := ad_sl he hl hh
/-! ### arguments -/
theorem gA (ha : AD X W e ma) (hr : AA X W es mA) (hs : starEach (e :: es) X.env = (false, eval e X.env) :: starEach es X.env := by rfl) : AA X W (e :: es) (mArgD ma mA) := aa_d ha hr hs
theorem gAs (i : Nat) (hr : AA X W es mA) (hs : starEach (.Name x xp :: es) X.env = (false, eval (.Name x xp) X.env) :: starEach es X.env := by rfl) (h : PE X (.Name x xp) (tVar i) := by exact pv _) : AA X W (.Name x xp :: es) (mArgS i mA) := aa_s i h hr hs
/-! ### built-ins -/
theorem gLen (hm : X.mg "len" = none) (ha : AA X W [e] mA) (hg : Gl X "len" := by rfl) (he : starEach [e] X.env = (false, eval e X.env) :: starEach [] X.env := by rfl) : AD X W (.Call (.Name "len" p) [e] [] pos) (mCallD cLen mA) := ad_callB cr_len cd_len hg hm (by decide +kernel) ha (by decide) (by decide) he rfl
theorem gAbs (hm : X.mg "abs" = none) (ha : AA X W [e] mA) (hg : Gl X "abs" := by rfl) (he : starEach [e] X.env = (false, eval e X.env) :: starEach [] X.env := by rfl) : AD X W (.Call (.Name "abs" p) [e] [] pos) (mCallD cAbs mA) := ad_callB call_abs cd_abs hg hm (by decide +kernel) ha (by decide) (by decide) he rfl
theorem gInt (hm : X.mg "int" = none) (ha : AA X W [e] mA) (hg : Gl X "int" := by rfl) (he : starEach [e] X.env = (false, eval e X.env) :: starEach [] X.env := by rfl) : AD X W (.Call (.Name "int" p) [e] [] pos) (mCallD cInt mA) := ad_callTy call_int1 cd_int hg hm (by decide +kernel) ha (by decide) (by decide) he rfl
theorem gSum (hm : X.mg "sum" = none) (ha : AA X W [e] mA) (hc : X.calm = true := by rfl) (hg : Gl X "sum" := by rfl) (he : starEach [e] X.env = (false, eval e X.env) :: starEach [] X.env := by rfl) : AD X W (.Call (.Name "sum" p) [e] [] pos) (mCallD cSum mA) := ad_callB (cr_sum hc) cd_sum hg hm (by decide +kernel) ha (by decide) (by decide) he rfl
theorem gTuple (hm : X.mg "tuple" = none) (ha : AA X W [e] mA) (hg : Gl X "tuple" := by rfl) (he : starEach [e] X.env = (false, eval e X.env) :: starEach [] X.env := by rfl) : AD X W (.Call (.Name "tuple" p) [e] [] pos) (mCallD cTuple mA) := ad_callTy call_tuple_of cd_tuple hg hm (by decide +kernel) ha (by decide) (by decide) he rfl
theorem gSorted (hm : X.mg "sorted" = none) (ha : AA X W [e] mA) (hg : Gl X "sorted" := by rfl) (he : starEach [e] X.env = (false, eval e X.env) :: starEach [] X.env := by rfl) : AO X W (.Call (.Name "sorted" p) [e] [] pos) (mCallO cSorted mA) := ao_callB cr_sorted2 cl_sorted hg hm (by decide +kernel) ha (by decide) (by decide) he rfl
theorem gList (hm : X.mg "list" = none) (ha : AA X W [e] mA) (hg : Gl X "list" := by rfl) (he : starEach [e] X.env = (false, eval e X.env) :: starEach [] X.env := by rfl) : AO X W (.Call (.Name "list" p) [e] [] pos) (mCallO cList mA) := ao_callTy call_list_of cl_list hg hm (by decide +kernel) ha (by decide) (by decide) he rfl
theorem gAll (hm : X.mg "all" = none) (ha : AA X W [e] mA) (hc : X.calm = true := by rfl) (hg : Gl X "all" := by rfl) (he : starEach [e] X.env = (false, eval e X.env) :: starEach [] X.env := by rfl) : AD X W (.Call (.Name "all" p) [e] [] pos) (mCallD cAll mA) := ad_callB (cr_all hc) cd_all hg hm (by decide +kernel) ha (by decide) (by decide) he rfl
theorem gAny (hm : X.mg "any" = none) (ha : AA X W [e] mA) (hc : X.calm = true := by rfl) (hg : Gl X "any" := by rfl) (he : starEach [e] X.env = (false, eval e X.env) :: starEach [] X.env := by rfl) : AD X W (.Call (.Name "any" p) [e] [] pos) (mCallD cAny mA) := ad_callB (cr_any hc) cd_any hg hm (by decide +kernel) ha (by decide) (by decide) he rfl
theorem gMax (hm : X.mg "max" = none) (ha : AA X W [a, b] mA) (hc : X.calm = true := by rfl) (hg : Gl X "max" := by rfl) (he : starEach [a, b] X.env = (false, eval a X.env) :: starEach [b] X.env := by rfl) (hpl : (backTo pos (starEach [b] X.env)).any (·.1) = false := by rfl) : AD X W (.Call (.Name "max" p) [a, b] [] pos) (mCallD cMax2 mA) := ad_callB (call_max2 hc) cd_max2 hg hm (by decide +kernel) ha (by decide) (by decide) he hpl
theorem gMin (hm : X.mg "min" = none) (ha : AA X W [a, b] mA) (hc : X.calm = true := by rfl) (hg : Gl X "min" := by rfl) (he : starEach [a, b] X.env = (false, eval a X.env) :: starEach [b] X.env := by rfl) (hpl : (backTo pos (starEach [b] X.env)).any (·.1) = false := by rfl) : AD X W (.Call (.Name "min" p) [a, b] [] pos) (mCallD cMin2 mA) := ad_callB (call_min2 hc) cd_min2 hg hm (by decide +kernel) ha (by decide) (by decide) he hpl
theorem gListR1 (hm : X.mg "list" = none) (hm2 : X.mg "range" = none) (ha : AD X W e ma) (hc : X.calm = true := by rfl) (hg : Gl X "list" := by rfl) (hg2 : Gl X "range" := by rfl) (he : starEach [e] X.env = (false, eval e X.env) :: starEach [] X.env := by rfl) : AO X W (.Call (.Name "list" p1) [.Call (.Name "range" p2) [e] [] p3] [] pos) (mCallO rngO1 (mArgD ma mNilA)) := ao_listRg1 hc hg hm hg2 hm2 ha he rfl
theorem gListR2 (hm : X.mg "list" = none) (hm2 : X.mg "range" = none) (ha : AD X W a ma) (hb : AD X W b mb) (hc : X.calm = true := by rfl) (hg : Gl X "list" := by rfl) (hg2 : Gl X "range" := by rfl) (he : starEach [a, b] X.env = (false, eval a X.env) :: starEach [b] X.env := by rfl) (he2 : starEach [b] X.env = (false, eval b X.env) :: starEach [] X.env := by rfl) (hp : (backTo p3 (starEach [b] X.env)).any (·.1) = false := by rfl) : AO X W (.Call (.Name "list" p1) [.Call (.Name "range" p2) [a, b] [] p3] [] pos) (mCallO rngO2 (mArgD ma (mArgD mb mNilA))) := ao_listRg2 hc hg hm hg2 hm2 ha hb he he2 hp rfl
theorem gIsi {t : String} (hm : X.mg "isinstance" = none) (hmT : X.mg x = none) (hv : bootBuiltins x = some (.type t)) (ha : AD X W e ma) (hg : Gl X "isinstance" := by rfl) (hT : Gl X x := by rfl) (hn : x ≠ "__name__" := by decide) (hdT : (x == ("__debug__" : Str)) = false := by decide)
    (hst : starEach [e, .Name x p2] X.env = (false, eval e X.env) :: starEach [.Name x p2] X.env := by rfl) : AD X W (.Call (.Name "isinstance" p1) [e, .Name x p2] [] pos) (mIsi t ma) := ad_isi hg hm hT hmT hv ha hn hdT hst rfl rfl
/-! ### calls of defs -/
theorem gCall (F : Df X.prog X.w X.K X.mg X.base x kk np run) (hr : Room kk X.A) (tk : L2N.Takes X W) (ha : AA X W (e :: es) mA) (hg : Gl X x := by rfl) (hdb : (x == ("__debug__" : Str)) = false := by decide) (he : starEach (e :: es) X.env = (false, eval e X.env) :: starEach es X.env := by rfl) (hpl : (backTo pos (starEach es X.env)).any (·.1) = false := by rfl) :
    AO X W (.Call (.Name x p) (e :: es) [] pos) (mCall run mA) := by
  obtain ⟨f, fd, ps, h1, h2, h3, h4⟩ := F.ex
  exact ao_call h1 hr hg h2 h3 h4 tk F.np ha hdb he hpl
theorem gCall0 (F : Df X.prog X.w X.K X.mg X.base x kk np run) (hr : Room kk X.A) (tk : L2N.Takes X W) (hg : Gl X x := by rfl) (hdb : (x == ("__debug__" : Str)) = false := by decide) :
    AO X W (.Call (.Name x p) [] [] pos) (mCall run mNilA) := by
  obtain ⟨f, fd, ps, h1, h2, h3, h4⟩ := F.ex
  exact ao_call0 h1 hr hg h2 h3 h4 tk F.np hdb
/-! ### statements -/
theorem gExpr (he : AD X W e ma) (hs : swapsWith e none pos.line X.env = pure false := by rfl) : AS X W pz (.Expr e pos) (mDrop ma) := as_expr he hs
theorem gSet (i : Nat) (nd : X.N.Nodup) (he : AD X W e ma) (hi : X.N[i]? = some x := by rfl) (hpz : i ∉ pz := by decide) (hx : Loc X.env.scope x := by first | exact Or.inl rfl | exact Or.inr rfl) (hs : swapsWith e (some (.Name x xp)) pos.line X.env = pure false := by rfl) (hf : X.fn x = true ∨ X.env.scope.names.lookup x = some .local := by first | exact .inl rfl | exact .inr rfl) :
    AS X W pz (.Assign [.Name x xp] e pos) (mSet i ma) := as_set i hpz (fun h => ps_set nd hi hx h hs hf) he
theorem gSetO (i : Nat) (nd : X.N.Nodup) (he : AO X W e mo) (hi : X.N[i]? = some x := by rfl) (hpz : i ∉ pz := by decide) (hx : Loc X.env.scope x := by first | exact Or.inl rfl | exact Or.inr rfl) (hs : swapsWith e (some (.Name x xp)) pos.line X.env = pure false := by rfl) (hf : X.fn x = true ∨ X.env.scope.names.lookup x = some .local := by first | exact .inl rfl | exact .inr rfl) :
    AS X W pz (.Assign [.Name x xp] e pos) (mSetO i mo) := as_setO i hpz (fun h => ps_set nd hi hx h hs hf) he
end
end Lf
set_option Elab.async false
set_option linter.all false
set_option maxRecDepth 100000
set_option maxHeartbeats 4000000
/-! The lifting layer: the rules in short, statements. -/
namespace Lf
open PySem PySem.Spec PyProof.Rows L2
section
variable {X : Cx} {W : WX} {pz : List Nat} {a b c e o i lo hi : Expr} {es ts : List Expr} {pos p p1 p2 p3 p4 xp yp zp apos cpos spos : Pos} {ma mb mc : M D} {x y z : Str} {mo : M O} {kk np : Nat} {run : List O → Rs O} {mA : M (List Arg)} {mL : M (List O)} {mp : En → Option (Nat × List PSt)} {f fe : En → Option D}
/-! ### own displays, targets -/
theorem gLstO {mA : M (List O)} (h : AAO X W es mA) : AO X W (.List es pos) (mLstOO mA) := ao_lstO h
theorem gAO (ha : AO X W e mo) (hr : AAO X W es mL) (hs : starEach (e :: es) X.env = (false, eval e X.env) :: starEach es X.env := by rfl) : AAO X W (e :: es) (mConsO mo mL) := aao_cons ha hr hs
theorem gPar2 (i j : Nat) {kt k2 : Nat} (nd : X.N.Nodup) (he : AAO X W [a, b] mL) (hc : X.calm = true := by rfl) (hi : X.N[i]? = some x := by rfl) (hj : X.N[j]? = some y := by rfl) (hij : i ≠ j := by decide) (hx : X.env.scope.names.lookup x = some .local := by rfl) (hy : X.env.scope.names.lookup y = some .local := by rfl)
    (hd : ∀ q ∈ pz, q ∉ [i, j] := by decide) (hw : swappedStores [.Tuple [.Name x xp, .Name y yp] kt p1] (.Tuple [a, b] k2 p2) X.env = pure (some [x, y]) := by rfl) : AS X W pz (.Assign [.Tuple [.Name x xp, .Name y yp] kt p1] (.Tuple [a, b] k2 p2) pos) (mPar ([i, j].map bNameO) mL) :=
  as_par he hd fun h => par2 hc nd hi hj hij hx hy hw rfl h
theorem gPar3 (i j l : Nat) {kt k2 : Nat} (nd : X.N.Nodup) (he : AAO X W [a, b, c] mL) (hc : X.calm = true := by rfl) (hi : X.N[i]? = some x := by rfl) (hj : X.N[j]? = some y := by rfl) (hl : X.N[l]? = some z := by rfl) (hij : i ≠ j := by decide) (hil : i ≠ l := by decide) (hjl : j ≠ l := by decide) (hx : X.env.scope.names.lookup x = some .local := by rfl) (hy : X.env.scope.names.lookup y = some .local := by rfl) (hz : X.env.scope.names.lookup z = some .local := by rfl)
    (hd : ∀ q ∈ pz, q ∉ [i, j, l] := by decide) (hw : swappedStores [.Tuple [.Name x xp, .Name y yp, .Name z zp] kt p1] (.Tuple [a, b, c] k2 p2) X.env = pure (some [x, y, z]) := by rfl) : AS X W pz (.Assign [.Tuple [.Name x xp, .Name y yp, .Name z zp] kt p1] (.Tuple [a, b, c] k2 p2) pos) (mPar ([i, j, l].map bNameO) mL) :=
  as_par he hd fun h => par3 hc nd hi hj hl hij hil hjl hx hy hz hw rfl h
theorem gTgN (i : Nat) (nd : X.N.Nodup) (hi : X.N[i]? = some x := by rfl) (hx : Loc X.env.scope x := by first | exact Or.inl rfl | exact Or.inr rfl) (hf : X.fn x = true ∨ X.env.scope.names.lookup x = some .local := by first | exact .inl rfl | exact .inr rfl) : AGO X [i] (.Name x xp) (bNameO i) := ago_name i (pg_name nd hi hx hf)
def bSetIx (mp : En → Option (Nat × List PSt)) (f : En → Option D) : O → En → Option En := fun o E => match o, mp E, f E with
  | .dt d, some (k, π), some (.int i) => (match nodeE E k π with
    | some (.lst os) => (match ixN os.length i with
      | some j => some (putE E k π (.lst (os.set j (.dt d))))
      | none => none)
    | _ => none)
  | _, _, _ => none
theorem gTgIx (ho : APl X o mp) (hi : APu X i f) (ha : ∀ v, assign (.Subscript o i spos) X.env v = (do
      let ov ← holding [v] (eval o X.env)
      let iv ← holding [v, ov] (eval i X.env)
      standAt spos
      holding [v, ov, iv] (setItem ov iv v)
      release [v, ov, iv] []) := by intro _; rfl) : AGO X [] (.Subscript o i spos) (bSetIx mp f) := by
  obtain ⟨to, po_, so⟩ := ho
  obtain ⟨ti, pi, si⟩ := hi
  refine ⟨_, pg_sub po_ pi set_list ha, fun w σ E oo v fp R k ho nd po => ?_⟩
  unfold bSetIx at po
  cases oo with
  | dt d =>
    cases ho with
    | dt hd =>
      cases em : mp E with
      | none => rw [em] at po; exact po.elim
      | some kp =>
        obtain ⟨k', π⟩ := kp
        cases ef : f E with
        | none => rw [em, ef] at po; exact po.elim
        | some di =>
          rw [em, ef] at po
          cases di with
          | int zi =>
            cases en : nodeE E k' π with
            | none => first | (simp only [en] at po; done) | (simp only [en] at po; exact po.elim)
            | some nn =>
              cases nn with
              | lst os =>
                simp only [en] at po
                cases hj : ixN os.length zi with
                | none => first | (simp only [hj] at po; done) | (simp only [hj] at po; exact po.elim)
                | some j =>
                  simp only [hj] at po
                  refine so w σ E _ k k' π em fun w2 u ok2 p2 hu => ?_
                  refine si w2 σ E _ ok2 (.int zi) ef fun w3 vi ok3 p3 hvi => ?_
                  obtain ⟨vv, hv, hat⟩ := hu
                  rw [dp_int hvi]
                  refine set_ok ok3 en hj (dp_mono (p2.trans p3).ii _ _ hd) hv (VAt.mono p3.hh hat) fun w' k2 s2 => ?_
                  have s02 := (p2.trans p3).stp.trans s2
                  exact po w' σ k2 (by simpa using s02) (Agx.refl _ _)
              | _ => first | (simp only [en] at po; done) | (simp only [en] at po; exact po.elim)
          | _ => exact po.elim
  | _ => exact po.elim
theorem gTgs {is js : List Nat} {t : Expr} {bd : O → En → Option En} {bs : List (O → En → Option En)} (h : AGO X is t bd) (hr : AGOs X js ts bs) (hs : (assignEach (t :: ts) X.env).map (·.2) = assign t X.env :: (assignEach ts X.env).map (·.2) := by rfl) : AGOs X (is ++ js) (t :: ts) (bd :: bs) := agos_cons h hr hs
theorem gAsgT {k1 k2 : Nat} {is : List Nat} {bs : List (O → En → Option En)} (he : AAO X W es mL) (hg : AGOs X is ts bs) (hd : ∀ j ∈ pz, j ∉ is := by decide) (hc : X.calm = true := by rfl) (hlen : bs.length = ts.length := by rfl) (hsz : ts.length ≤ 16777216 := by decide) (hn : (assignEach ts X.env).length = ts.length := by rfl) (hst : (assignEach ts X.env).findIdx? (·.1) = none := by rfl)
    (hw : swappedStores [.Tuple ts k1 p1] (.Tuple es k2 p2) X.env = pure none := by rfl) : AS X W pz (.Assign [.Tuple ts k1 p1] (.Tuple es k2 p2) pos) (mPar bs mL) := as_asgT hc he hg hd hlen hsz hn hst rfl hw
/-! ### one target, data -/
def mAsgD (bd : D → En → Option En) (ma : M D) : M Out := fun E => (ma E).bind fun d E1 => match bd d E1 with
  | some E2 => .ok .nx E2
  | none => .no
theorem as_asgD {tg : Expr} {is : List Nat} {bd : D → En → Option En} (he : AD X W e ma) (hg : AG X is tg bd) (hd : ∀ j ∈ pz, j ∉ is := by decide) (hs : swapsWithSole [tg] e pos.line X.env = pure false := by rfl) (hw : swappedStores [tg] e X.env = pure none := by rfl) (h1 : (assignEach [tg] X.env).map (·.2) = [assign tg X.env] := by rfl) : AS X W pz (.Assign [tg] e pos) (mAsgD bd ma) := by
  obtain ⟨te, pe, s⟩ := he
  obtain ⟨g, pg, sg⟩ := hg
  refine ⟨_, ps_asg pe pg hs hw h1, fun w σ E D k po => s.runS k po fun d E1 w1 k1 s1 po1 v hv => ?_⟩
  refine sg w1 σ E1 d v _ k1 hv ?_
  cases r : bd d E1 with
  | none => simp only [r] at po1; exact po1.elim
  | some E2 =>
    simp only [r] at po1
    exact fun w' σ' k' s' a' => po1 w' σ' k' (s1.trans s') (a'.ag hd)
def bLst (is : List Nat) : D → En → Option En := fun d E => match d with
  | .list ds => setAll is ds E
  | _ => none
theorem setAll_len : ∀ (is : List Nat) (ds : List D) (E E' : En), setAll is ds E = some E' → ds.length = is.length
  | [], ds, E, E', q => by
    cases ds with
    | nil => rfl
    | cons _ _ => cases q
  | i :: is, ds, E, E', q => by
    cases ds with
    | nil => cases q
    | cons d ds =>
      have q' : (if i < E.length then setAll is ds (E.set i (some (.dt d))) else none) = some E' := q
      split at q'
      · simp [setAll_len is ds _ _ q']
      · cases q'
theorem ag_lst {kk : Nat} {is : List Nat} (hc : X.calm = true) (hr : AGs X es is) (hn : (assignEach es X.env).length = is.length) (hst : (assignEach es X.env).findIdx? (·.1) = none) : AG X is (.Tuple es kk pos) (bLst is) := by
  obtain ⟨g, p, s⟩ := hr
  refine ⟨_, pg_lst hc p hn hst, fun w σ E d v R k hd po => ?_⟩
  unfold bLst at po
  cases d with
  | list ds =>
    obtain ⟨a, vs, rfl, h1, h2⟩ := dp_list hd
    refine ⟨a, vs, rfl, SqL.of (k.sub _ _ h1), ?_, s w σ E ds vs R k h2 ?_⟩
    · rw [dps_length h2]
      simp only at po
      cases q : setAll is ds E with
      | none => rw [q] at po; exact po.elim
      | some E' => exact setAll_len _ _ _ _ q
    · simp only at po
      cases q : setAll is ds E with
      | none => rw [q] at po; exact po.elim
      | some E' => rw [q] at po; exact po
  | _ => exact po.elim
theorem gGn (i : Nat) (nd : X.N.Nodup) (hi : X.N[i]? = some x := by rfl) (hx : Loc X.env.scope x := by first | exact Or.inl rfl | exact Or.inr rfl) (hf : X.fn x = true ∨ X.env.scope.names.lookup x = some .local := by first | exact .inl rfl | exact .inr rfl) : AG X [i] (.Name x xp) (bName i) := ag_name i (pg_name nd hi hx hf)
theorem gGs (i : Nat) {is : List Nat} (nd : X.N.Nodup) (hr : AGs X ts is) (hi : X.N[i]? = some x := by rfl) (hx : Loc X.env.scope x := by first | exact Or.inl rfl | exact Or.inr rfl) (hf : X.fn x = true ∨ X.env.scope.names.lookup x = some .local := by first | exact .inl rfl | exact .inr rfl)
    (hs : (assignEach (.Name x xp :: ts) X.env).map (·.2) = assign (.Name x xp) X.env :: (assignEach ts X.env).map (·.2) := by rfl) : AGs X (.Name x xp :: ts) (i :: is) := ags_cons i (pg_name nd hi hx hf) hr hs
theorem gTgT {k : Nat} {is : List Nat} (hr : AGs X es is) (hc : X.calm = true := by rfl) (hn : (assignEach es X.env).length = is.length := by rfl) (hst : (assignEach es X.env).findIdx? (·.1) = none := by rfl) : AG X is (.Tuple es k pos) (bTup is) := ag_tup hc hr hn hst
theorem gTgL {k : Nat} {is : List Nat} (hr : AGs X es is) (hc : X.calm = true := by rfl) (hn : (assignEach es X.env).length = is.length := by rfl) (hst : (assignEach es X.env).findIdx? (·.1) = none := by rfl) : AG X is (.Tuple es k pos) (bLst is) := ag_lst hc hr hn hst
end
end Lf
set_option Elab.async false
set_option linter.all false
set_option maxRecDepth 100000
set_option maxHeartbeats 4000000
/-! The lifting layer: the rules in short, loops. -/
namespace Lf
open PySem PySem.Spec PyProof.Rows L2
section
variable {X : Cx} {W : WX} {pz : List Nat} {a b c e o i elt tg iter tg1 iter1 cnd : Expr} {es ts body : List Expr} {sts : List Stmt} {scope : Scope} {pos p p1 p2 p3 p4 xp yp zp apos cpos spos : Pos} {ma mb mc : M D} {x y z : Str} {mo me : M O} {kk np : Nat} {run : List O → Rs O} {mA : M (List Arg)} {mL : M (List O)} {mp : En → Option (Nat × List PSt)} {f fe : En → Option D} {mi mi1 : M (List D)} {bd bd1 : D → En → Option En} {mt : M Bool} {is is1 : List Nat} {mst : M Out}
/-- name = [..] -/
theorem gSetLc (j : Nat) (own : List (Str × Nat)) (nd : X.N.Nodup) (hi : AI X W tg iter mi) (ok : blkC X.N X.env.scope scope own = true) (hg : ∀ (s : Shared) (H : Hp) (C : Addr) (cl : List (Str × Addr)) (fp : List Addr), AG (X.blk s H scope (compEnvC scope cl C X.env) fp) is tg bd)
    (he : ∀ (s : Shared) (H : Hp) (C : Addr) (cl : List (Str × Addr)) (fp : List Addr), AO (X.blk s H scope (compEnvC scope cl C X.env) fp) W0 elt me) (his : ∀ i ∈ is, i ∈ own.map (·.2) := by decide) (hpz : j ∉ pz := by decide) (hc : X.calm = true := by rfl) (hy : X.N[j]? = some y := by rfl) (hyl : X.env.scope.names.lookup y = some .local := by rfl)
    (hsw : swapsWith (.ListComp elt [⟨tg, iter, [], 0⟩] scope pos) (some (.Name y yp)) spos.line X.env = pure true := by exact sw_true rfl rfl rfl (by decide +kernel)) (hs : ∀ x, foldedSetIterable iter X.env x = pure x := by intro _; rfl) :
    AS X W pz (.Assign [.Name y yp] (.ListComp elt [⟨tg, iter, [], 0⟩] scope pos) spos) (mSetO j (mLc (own.map (·.2)) mi bd (fun E => .ok true E) me)) := by
  obtain ⟨wi, pi, si⟩ := hi
  obtain ⟨te, pe, se⟩ := ao_unif (ι := Ix5) (X := fun i => X.blk i.s i.H scope (compEnvC scope i.cl i.C X.env) i.fp) (K := X.K) (mg := X.mg) fun i => he i.s i.H i.C i.cl i.fp
  obtain ⟨g, pg, sg⟩ := ag_unif (ι := Ix5) (X := fun i => X.blk i.s i.H scope (compEnvC scope i.cl i.C X.env) i.fp) (K := X.K) (mg := X.mg) fun i => hg i.s i.H i.C i.cl i.fp
  have sn := lc_sn (W := W) (K := X.K) (mg := X.mg) (own.map (·.2)) si sg (tt := tYes) (mt := fun E => .ok true E) (fun w σ E Q k po => po w k (Stp.refl _)) se his
  refine ⟨_, ps_setLc hc nd hy hyl hsw pi (blkOk_by ok) (fun s H C cl fp => pg ⟨s, H, C, cl, fp⟩) (fun _ _ _ _ _ => pts_nil) (fun s H C cl fp => pe ⟨s, H, C, cl, fp⟩) hs, fun w σ E D k po => ?_⟩
  refine sn.runS (pz := pz) (D := D) k po fun o E1 w1 k1 s1 po1 v fp b => ?_
  split at po1
  · next hl =>
    obtain ⟨w2, e2, k2, s2⟩ := k1.put b hl s1
    have r := po1 w2 _ k2 s2 (Ag.set hpz)
    show D.nx _ _
    rw [← e2]; exact r
  · exact po1.elim
theorem gLc (own : List (Str × Nat)) (nd : X.N.Nodup) (hi : AI X W tg iter mi) (ok : blkC X.N X.env.scope scope own = true) (hg : ∀ (s : Shared) (H : Hp) (C : Addr) (cl : List (Str × Addr)) (fp : List Addr), AG (X.blk s H scope (compEnvC scope cl C X.env) fp) is tg bd)
    (he : ∀ (s : Shared) (H : Hp) (C : Addr) (cl : List (Str × Addr)) (fp : List Addr), AO (X.blk s H scope (compEnvC scope cl C X.env) fp) W0 elt me) (his : ∀ i ∈ is, i ∈ own.map (·.2) := by decide) (hc : X.calm = true := by rfl) (hs : ∀ x, foldedSetIterable iter X.env x = pure x := by intro _; rfl) :
    AO X W (.ListComp elt [⟨tg, iter, [], 0⟩] scope pos) (mLc (own.map (·.2)) mi bd (fun E => .ok true E) me) := ao_lc hc nd hi (blkOk_by ok) hg his he hs
theorem gLcIf (own : List (Str × Nat)) (nd : X.N.Nodup) (hi : AI X W tg iter mi) (ok : blkC X.N X.env.scope scope own = true) (hg : ∀ (s : Shared) (H : Hp) (C : Addr) (cl : List (Str × Addr)) (fp : List Addr), AG (X.blk s H scope (compEnvC scope cl C X.env) fp) is tg bd)
    (ht : ∀ (s : Shared) (H : Hp) (C : Addr) (cl : List (Str × Addr)) (fp : List Addr), AT (X.blk s H scope (compEnvC scope cl C X.env) fp) W0 cnd mt)
    (he : ∀ (s : Shared) (H : Hp) (C : Addr) (cl : List (Str × Addr)) (fp : List Addr), AO (X.blk s H scope (compEnvC scope cl C X.env) fp) W0 elt me) (his : ∀ i ∈ is, i ∈ own.map (·.2) := by decide) (hc : X.calm = true := by rfl) (hs : ∀ x, foldedSetIterable iter X.env x = pure x := by intro _; rfl) :
    AO X W (.ListComp elt [⟨tg, iter, [cnd], 0⟩] scope pos) (mLc (own.map (·.2)) mi bd mt me) := ao_lcIf hc nd hi (blkOk_by ok) hg his ht he hs
theorem gLc2 (own : List (Str × Nat)) (vs1 : List Nat) (nd : X.N.Nodup) (hi : AI X W tg iter mi) (ok : blkC X.N X.env.scope scope own = true) (hg : ∀ (s : Shared) (H : Hp) (C : Addr) (cl : List (Str × Addr)) (fp : List Addr), AG (X.blk s H scope (compEnvC scope cl C X.env) fp) is tg bd)
    (hi1 : ∀ (s : Shared) (H : Hp) (C : Addr) (cl : List (Str × Addr)) (fp : List Addr), AI (X.blk s H scope (compEnvC scope cl C X.env) fp) W0 tg1 iter1 mi1)
    (hg1 : ∀ (s : Shared) (H : Hp) (C : Addr) (cl : List (Str × Addr)) (fp : List Addr), AG (X.blk s H scope (compEnvC scope cl C X.env) fp) is1 tg1 bd1)
    (he : ∀ (s : Shared) (H : Hp) (C : Addr) (cl : List (Str × Addr)) (fp : List Addr), AD (X.blk s H scope (compEnvC scope cl C X.env) fp) W0 elt ma) (hv : ∀ i ∈ vs1, i ∈ own.map (·.2) := by decide) (his : ∀ i ∈ is, i ∈ own.map (·.2) := by decide) (his1 : ∀ i ∈ is1, i ∈ vs1 := by decide) (hc : X.calm = true := by rfl) (hs : ∀ x, foldedSetIterable iter X.env x = pure x := by intro _; rfl) (hs1 : ∀ env x, foldedSetIterable iter1 env x = pure x := by intro _ _; rfl) :
    AO X W (.ListComp elt [⟨tg, iter, [], 0⟩, ⟨tg1, iter1, [], 0⟩] scope pos) (mLc2 (own.map (·.2)) vs1 mi bd (fun E => .ok true E) mi1 bd1 (fun E => .ok true E) ma) := ao_lc2 vs1 hc nd hi (blkOk_by ok) hv hg his hi1 hg1 his1 he hs hs1
/-! ### iterables -/
theorem gIr1 (hm : X.mg "range" = none) (h : AA X W [e] mA) (hg : Gl X "range" := by rfl) (hs : starEach [e] X.env = [(false, eval e X.env)] := by rfl) : AI X W tg (.Call (.Name "range" p) [e] [] pos) (mRng rng1 mA) := ai_rng1 hg hm h hs
theorem gIr2 (hm : X.mg "range" = none) (h : AA X W [a, b] mA) (hg : Gl X "range" := by rfl) (hs : starEach [a, b] X.env = [(false, eval a X.env), (false, eval b X.env)] := by rfl) (hs2 : starEach [b] X.env = [(false, eval b X.env)] := by rfl) : AI X W tg (.Call (.Name "range" p) [a, b] [] pos) (mRng rng2 mA) := ai_rng2 hg hm h hs hs2
theorem gIr3 (hm : X.mg "range" = none) (h : AA X W [a, b, c] mA) (hg : Gl X "range" := by rfl) (hs : starEach [a, b, c] X.env = (false, eval a X.env) :: starEach [b, c] X.env := by rfl) (hs2 : (backTo pos (starEach [b, c] X.env)).any (·.1) = false := by rfl) : AI X W tg (.Call (.Name "range" p) [a, b, c] [] pos) (mRng rng3 mA) := ai_rng3 hg hm h hs hs2
theorem gIe {k : Nat} (hm : X.mg "enumerate" = none) (h : AA X W [e] mA) (hg : Gl X "enumerate" := by rfl) (hs : starEach [e] X.env = [(false, eval e X.env)] := by rfl) : AI X W (.Tuple es k p1) (.Call (.Name "enumerate" p) [e] [] pos) (mRng enumD mA) := ai_enum hg hm h hs
/-! ### stores -/
theorem gAug {op : Operator} {r : R2} {g : D → D → Option D} (j : Nat) (hr : OpR X (inplaceOp op) r) (hg : OpD X.K r g) (nd : X.N.Nodup) (he : AD X W e ma) (hi : X.N[j]? = some x := by rfl) (hpz : j ∉ pz := by decide) (hx : Loc X.env.scope x := by first | exact Or.inl rfl | exact Or.inr rfl) (hf : X.fn x = true ∨ X.env.scope.names.lookup x = some .local := by first | exact .inl rfl | exact .inr rfl) :
    AS X W pz (.AugAssign (.Name x xp) op e pos) (mAug g j ma) := as_aug j hpz hg (fun h => ps_aug nd hi hx h hr hf) he
def pIadd : D → D → Option D
  | .int i, .int j => some (.int (i + j))
  | _, _ => none
def pIsub : D → D → Option D
  | .int i, .int j => some (.int (i - j))
  | _, _ => none
theorem od_iadd {K : Frag} : OpD K (rI0 fun i j => .int (i + j)) pIadd := od_I0 (gd := fun i j => .int (i + j)) (fun _ _ _ => .int _) (f_int2 (fun _ _ => rfl) fun x y d e => by unfold pIadd at e; split at e <;> first | exact ⟨_, _, rfl, rfl⟩ | cases e)
theorem od_isub {K : Frag} : OpD K (rI0 fun i j => .int (i - j)) pIsub := od_I0 (gd := fun i j => .int (i - j)) (fun _ _ _ => .int _) (f_int2 (fun _ _ => rfl) fun x y d e => by unfold pIsub at e; split at e <;> first | exact ⟨_, _, rfl, rfl⟩ | cases e)
theorem gAugAdd (j : Nat) (nd : X.N.Nodup) (he : AD X W e ma) (hi : X.N[j]? = some x := by rfl) (hpz : j ∉ pz := by decide) (hx : Loc X.env.scope x := by first | exact Or.inl rfl | exact Or.inr rfl) (hf : X.fn x = true ∨ X.env.scope.names.lookup x = some .local := by first | exact .inl rfl | exact .inr rfl) : AS X W pz (.AugAssign (.Name x xp) .Add e pos) (mAug pIadd j ma) := gAug j iop_add od_iadd nd he hi hpz hx hf
theorem gAugSub (j : Nat) (nd : X.N.Nodup) (he : AD X W e ma) (hi : X.N[j]? = some x := by rfl) (hpz : j ∉ pz := by decide) (hx : Loc X.env.scope x := by first | exact Or.inl rfl | exact Or.inr rfl) (hf : X.fn x = true ∨ X.env.scope.names.lookup x = some .local := by first | exact .inl rfl | exact .inr rfl) : AS X W pz (.AugAssign (.Name x xp) .Sub e pos) (mAug pIsub j ma) := gAug j iop_sub od_isub nd he hi hpz hx hf
theorem gSetIx (ho : APl X o mp) (hi : APu X i f) (he : AD X W e ma) (ha : ∀ v, assign (.Subscript o i spos) X.env v = (do
      let ov ← holding [v] (eval o X.env)
      let iv ← holding [v, ov] (eval i X.env)
      standAt spos
      holding [v, ov, iv] (setItem ov iv v)
      release [v, ov, iv] []) := by intro _; rfl) (hs : swapsWithSole [.Subscript o i spos] e pos.line X.env = pure false := by rfl) (hw : swappedStores [.Subscript o i spos] e X.env = pure none := by rfl) (h1 : (assignEach [.Subscript o i spos] X.env).map (·.2) = [assign (.Subscript o i spos) X.env] := by rfl) :
    AS X W pz (.Assign [.Subscript o i spos] e pos) (mSetIx mp f ma) := as_setIx ho hi he fun p q r => ps_asg r (pg_sub p q set_list ha) hs hw h1
theorem get_list : PGet X (rIxL X.K) := by
  intro pins s σ H x y v u Q I rx ry h
  obtain ⟨p, xs, i, z, rfl, rfl, hq, he, q⟩ := h
  cases rx
  obtain ⟨t, rfl⟩ := ry
  obtain ⟨its, r, pl, hz⟩ := I.list hq
  obtain ⟨j, h1, h2, h3, h4, h5⟩ := atI_get he
  obtain ⟨w, ew, rw'⟩ := r.get h2
  have hl := r.length
  have hn := line63
  have fin : EP X pins σ Q w s := ⟨z, H, I, rw', q⟩
  by_cases h0 : 0 ≤ i
  · have hj : i.toNat = j := by
      rw [seqIndex_of h0 h5] at h1
      exact Option.some.inj h1
    exact wpAny_getItem_list pl.isList h0 (by omega) (by rw [hj]; simpa using ew) fin
  · have hj : (i + (its.toArray.size : Int)).toNat = j := by
      rw [seqIndex_neg (by omega) h4] at h1
      rw [List.size_toArray, ← hl]
      exact Option.some.inj h1
    exact wpAny_getItem_list_neg pl.isList (by omega) (by rw [List.size_toArray] <;> omega) (by omega) (by rw [hj]; simpa using ew) fin
theorem gAugIxAdd (ho : APl X o mp) (hi : APu X i f) (he : APu X e fe) (ha : ∀ ov iv new, augStore i ov iv new = (do holding [new, ov, iv] (setItem ov iv new); release [new, ov, iv] []; pure .next) := by intros; rfl) :
    AS X W pz (.AugAssign (.Subscript o i spos) .Add e pos) (mAugIx pIadd mp f fe) := as_augIx od_iadd ho hi he fun p q s => ps_augS p q get_list s iop_add set_list ha
theorem gAugIxSub (ho : APl X o mp) (hi : APu X i f) (he : APu X e fe) (ha : ∀ ov iv new, augStore i ov iv new = (do holding [new, ov, iv] (setItem ov iv new); release [new, ov, iv] []; pure .next) := by intros; rfl) :
    AS X W pz (.AugAssign (.Subscript o i spos) .Sub e pos) (mAugIx pIsub mp f fe) := as_augIx od_isub ho hi he fun p q s => ps_augS p q get_list s iop_sub set_list ha
theorem gAppend (ho : APl X o mp) (ha : APu X e f) (hbase : attributeBase o "append" X.env (eval o X.env) = eval o X.env := by rfl)
    (hfew : ((backTo cpos (starEach [e] X.env)).all (fun x => !x.1) && (backToKw cpos (keywordEach [] X.env)).all (fun x => x.1.isSome) && decide (([e] : List Expr).length + ([] : List Keyword).length + (if ([] : List Keyword).isEmpty then 0 else 1) < 30)) = true := by rfl)
    (hline : (apos.endLine == cpos.line) = true := by rfl) (hs : starEach [e] X.env = (false, eval e X.env) :: starEach [] X.env := by rfl) (hsw : swapsWith (.Call (.Attribute o "append" apos) [e] [] cpos) none pos.line X.env = pure false := by rfl) :
    AS X W pz (.Expr (.Call (.Attribute o "append" apos) [e] [] cpos) pos) (mAppend mp f) := as_append ho ha fun p q => ps_expr (pe_bm PySem.F.plainAttrs_list PySem.F.slot_list_append PySem.F.type_list_append mt_append p (pa_cons q pa_nil hs) hbase hfew hline hs rfl) hsw
theorem gAppendV (k : Nat) (ha : AD X W e ma) (hx : PE X (.Name x xp) (tVar k) := by exact pv _) (hbase : attributeBase (.Name x xp) "append" X.env (eval (.Name x xp) X.env) = eval (.Name x xp) X.env := by rfl)
    (hfew : ((backTo cpos (starEach [e] X.env)).all (fun x => !x.1) && (backToKw cpos (keywordEach [] X.env)).all (fun x => x.1.isSome) && decide (([e] : List Expr).length + ([] : List Keyword).length + (if ([] : List Keyword).isEmpty then 0 else 1) < 30)) = true := by rfl)
    (hline : (apos.endLine == cpos.line) = true := by rfl) (hs : starEach [e] X.env = (false, eval e X.env) :: starEach [] X.env := by rfl) (hsw : swapsWith (.Call (.Attribute (.Name x xp) "append" apos) [e] [] cpos) none pos.line X.env = pure false := by rfl) :
    AS X W pz (.Expr (.Call (.Attribute (.Name x xp) "append" apos) [e] [] cpos) pos) (mAppendV k ma) := as_appendV k hx ha fun p q => ps_expr (pe_bm PySem.F.plainAttrs_list PySem.F.slot_list_append PySem.F.type_list_append mt_append p (pa_cons q pa_nil hs) hbase hfew hline hs rfl) hsw
theorem gAppendO (k : Nat) (ha : AO X W e mo) (hx : PE X (.Name x xp) (tVar k) := by exact pv _) (hbase : attributeBase (.Name x xp) "append" X.env (eval (.Name x xp) X.env) = eval (.Name x xp) X.env := by rfl)
    (hfew : ((backTo cpos (starEach [e] X.env)).all (fun x => !x.1) && (backToKw cpos (keywordEach [] X.env)).all (fun x => x.1.isSome) && decide (([e] : List Expr).length + ([] : List Keyword).length + (if ([] : List Keyword).isEmpty then 0 else 1) < 30)) = true := by rfl)
    (hline : (apos.endLine == cpos.line) = true := by rfl) (hs : starEach [e] X.env = (false, eval e X.env) :: starEach [] X.env := by rfl) (hsw : swapsWith (.Call (.Attribute (.Name x xp) "append" apos) [e] [] cpos) none pos.line X.env = pure false := by rfl) :
    AS X W pz (.Expr (.Call (.Attribute (.Name x xp) "append" apos) [e] [] cpos) pos) (mAppendO k mo) := as_appendO k hx ha fun p q => ps_expr (pe_bm PySem.F.plainAttrs_list PySem.F.slot_list_append PySem.F.type_list_append mt_append p (pa_cons q pa_nil hs) hbase hfew hline hs rfl) hsw
theorem gPop (ho : APl X o mp) (hbase : attributeBase o "pop" X.env (eval o X.env) = eval o X.env := by rfl) (hline : (apos.endLine == cpos.line) = true := by rfl) : AD X W (.Call (.Attribute o "pop" apos) [] [] cpos) (mPop mp) := ad_pop ho fun p => pe_bm0 PySem.F.plainAttrs_list PySem.F.slot_list_pop PySem.F.type_list_pop mt_pop p hbase hline
/-! ### loops -/
theorem gFor (ks : List Nat) (hp : PassesOwn (model X.prog X.w) X.A X.env X.xe) (hi : AI X W tg iter mi) (hg : AG X is tg bd) (hb : AB X W pz sts mst) (hd : ∀ j ∈ pz, j ∉ is := by decide) (hc : X.calm = true := by rfl) (hs : ∀ x, foldedSetIterable iter X.env x = pure x := by intro _; rfl) : AS X W pz (.For tg iter sts [] pos) (mFor ks mi bd mst) := as_for ks hp hc hi hg hd hb hs
theorem gWhile (N : Nat) (ks : List Nat) (hp : PassesOwn (model X.prog X.w) X.A X.env X.xe) (hc : AT X W c mt) (hb : AB X W pz sts mst) : AS X W pz (.While c sts [] pos) (mWhile N ks mt mst) := as_while N ks hp hc hb
end
end Lf
set_option Elab.async false
set_option linter.all false
set_option maxRecDepth 100000
set_option maxHeartbeats 4000000
/-! The lifting layer: last rules in short. -/
namespace Lf
open PySem PySem.Spec PyProof.Rows L2
theorem sn_fz {K : Frag} {mg : Str → Option Value} {W : WX} {t : TE} {m : M O} (s : Sn K mg W (RO K mg) t m) : Sn K mg W (RD K) t (mFz m) := fun w σ E Q k po => s.runw k po fun o E1 w1 k1 s1 po1 v fp b => by
  obtain ⟨d, hd, q⟩ := po1.lift
  obtain ⟨w2, e, k2, s2, hv⟩ := Bes.freeze k1 b s1 hd
  rw [← e]
  exact q w2 k2 s2 v hv
section
variable {X : Cx} {W : WX} {pz : List Nat} {a b c e o i elt tg iter tg1 iter1 cnd : Expr} {es ts body : List Expr} {sts : List Stmt} {scope : Scope} {pos p p1 p2 p3 p4 xp yp zp apos cpos spos : Pos} {ma mb mc : M D} {x y z : Str} {mo me : M O} {kk np : Nat} {run : List O → Rs O} {mA : M (List Arg)} {mL : M (List O)} {mp : En → Option (Nat × List PSt)} {f fe : En → Option D} {mi mi1 : M (List D)} {bd bd1 : D → En → Option En} {mt : M Bool} {is is1 : List Nat} {mst : M Out}
/-- name = [..], as data -/
theorem gSetLcD (j : Nat) (own : List (Str × Nat)) (nd : X.N.Nodup) (hi : AI X W tg iter mi) (ok : blkC X.N X.env.scope scope own = true) (hg : ∀ (s : Shared) (H : Hp) (C : Addr) (cl : List (Str × Addr)) (fp : List Addr), AG (X.blk s H scope (compEnvC scope cl C X.env) fp) is tg bd)
    (he : ∀ (s : Shared) (H : Hp) (C : Addr) (cl : List (Str × Addr)) (fp : List Addr), AO (X.blk s H scope (compEnvC scope cl C X.env) fp) W0 elt me) (his : ∀ i ∈ is, i ∈ own.map (·.2) := by decide) (hpz : j ∉ pz := by decide) (hc : X.calm = true := by rfl) (hy : X.N[j]? = some y := by rfl) (hyl : X.env.scope.names.lookup y = some .local := by rfl)
    (hsw : swapsWith (.ListComp elt [⟨tg, iter, [], 0⟩] scope pos) (some (.Name y yp)) spos.line X.env = pure true := by exact sw_true rfl rfl rfl (by decide +kernel)) (hs : ∀ x, foldedSetIterable iter X.env x = pure x := by intro _; rfl) :
    AS X W pz (.Assign [.Name y yp] (.ListComp elt [⟨tg, iter, [], 0⟩] scope pos) spos) (mSet j (mFz (mLc (own.map (·.2)) mi bd (fun E => .ok true E) me))) := by
  obtain ⟨wi, pi, si⟩ := hi
  obtain ⟨te, pe, se⟩ := ao_unif (ι := Ix5) (X := fun i => X.blk i.s i.H scope (compEnvC scope i.cl i.C X.env) i.fp) (K := X.K) (mg := X.mg) fun i => he i.s i.H i.C i.cl i.fp
  obtain ⟨g, pg, sg⟩ := ag_unif (ι := Ix5) (X := fun i => X.blk i.s i.H scope (compEnvC scope i.cl i.C X.env) i.fp) (K := X.K) (mg := X.mg) fun i => hg i.s i.H i.C i.cl i.fp
  have sn := sn_fz (lc_sn (W := W) (K := X.K) (mg := X.mg) (own.map (·.2)) si sg (tt := tYes) (mt := fun E => .ok true E) (fun w σ E Q k po => po w k (Stp.refl _)) se his)
  refine ⟨_, ps_setLc hc nd hy hyl hsw pi (blkOk_by ok) (fun s H C cl fp => pg ⟨s, H, C, cl, fp⟩) (fun _ _ _ _ _ => pts_nil) (fun s H C cl fp => pe ⟨s, H, C, cl, fp⟩) hs, fun w σ E D k po => ?_⟩
  refine sn.runS (pz := pz) (D := D) k po fun d E1 w1 k1 s1 po1 v h1 => ?_
  split at po1
  · next hl =>
    obtain ⟨w2, e2, k2, s2⟩ := k1.put (bes_dt (w := w) k1 h1) hl s1
    have r := po1 w2 _ k2 s2 (Ag.set hpz)
    show D.nx _ _
    rw [← e2]; exact r
  · exact po1.elim
theorem gMvIx (i j : Nat) {jt} (h : PE X (.Name x xp) (tVar i) := by exact pv _) : AO X W (.Subscript (.Name x xp) (.Constant (.int (j : Int)) jt p1) pos) (mMvIx i j) := ao_mvIx i j h fun p q => pe_ix ix_seq p q fun _ _ => rfl
theorem gFld (i : Nat) {c f : Str} (hc : ClsF X c f) (he : AO X W e mo) (hy : PE X (.Name y yp) (tVar i) := by exact pv _) (hs : swapsWith e (some (.Attribute (.Name y yp) f apos)) pos.line X.env = pure false := by rfl) : AS X W pz (.Assign [.Attribute (.Name y yp) f apos] e pos) (mFldO i c f mo) := as_fld i hc hy he hs
end
end Lf
set_option Elab.async false
set_option linter.all false
set_option maxRecDepth 100000
set_option maxHeartbeats 4000000
/-! The lifting layer: facts about a text; methods, instances. -/
namespace Lf
open PySem PySem.Spec PyProof.Rows L2
/-- what is known of a text's heap -/
structure Tx (P : Program) (w : World) (K : Frag) (mg : Str → Option Value) (base : Heap) (eb : Frag → Bool) (fa : List He.Fa) (fn : List He.DefD) : Prop where
  sd : He.SaysD fa fn K
  kin : K.In base
  ns : base.Ns mainGlobals mg
  ex : eb K = true
section
variable {P : Program} {w : World} {K : Frag} {mg : Str → Option Value} {base : Heap} {eb : Frag → Bool} {fa : List He.Fa} {fn : List He.DefD}
theorem Tx.glo (T : Tx P w K mg base eb fa fn) (i : Nat) (x : Str) (h : fa[i]? = some (.glo x)) : mg x = some (.ref (He.ga K x)) := He.glo_ok T.kin T.ns (T.sd.fact i h)
theorem Tx.fre (T : Tx P w K mg base eb fa fn) (i : Nat) (x : Str) (h : fa[i]? = some (.free x)) : mg x = none := He.free_ok T.kin T.ns (T.sd.fact i h)
theorem Tx.int (T : Tx P w K mg base eb fa fn) (i : Nat) (x : Str) (v : Int) (h : fa[i]? = some (.int x v)) : ∃ t, mg x = some (.int v t) := He.int_ok T.kin T.ns (T.sd.fact i h)
theorem Tx.cls (T : Tx P w K mg base eb fa fn) (i : Nat) (x : Str) (h : fa[i]? = some (.cls x)) : Cls K (He.ga K x) := He.cls_ok (T.sd.fact i h)
theorem Tx.meth (T : Tx P w K mg base eb fa fn) (i : Nat) (x m : Str) (h : fa[i]? = some (.meth x m)) : Meth K (He.ga K x) m (He.ma K (He.ga K x) m) := He.meth_ok (T.sd.fact i h)
theorem Tx.mkr (T : Tx P w K mg base eb fa fn) (i : Nat) (x : Str) (h : fa[i]? = some (.mkr x)) : Mk K (He.ga K x) (He.ma K (He.ga K x) "__init__") := He.mkr_ok (T.sd.fact i h)
theorem Tx.clsF (T : Tx P w K mg base eb fa fn) (i j l : Nat) (c f : Str) (h : fa[i]? = some (.glo c)) (h2 : fa[j]? = some (.cls c)) (h3 : fa[l]? = some (.noat c f)) : ∀ C, mg c = some (.ref C) → Cls K C ∧ NoAttr K C f := fun C e => by
  have q := T.glo i c h
  rw [e] at q
  cases q
  exact ⟨T.cls j c h2, He.noat_ok (T.sd.fact l h3)⟩
/-- a method of the text, as it is called -/
structure DfM (P : Program) (w : World) (K : Frag) (mg : Str → Option Value) (base : Heap) (c m : Str) (k : Nat) (np : Nat) (run : List O → Rs O) : Prop where
  ex : ∃ fd ps, FnOk P w K mg base (L2N.CX P w) k (He.ma K (He.ga K c) m) fd ps (spOf K mg np run) ∧ Binds K fd ps []
  np : ∀ os r, run os = r → (∀ a b, r = .ok a b → os.length = np) ∧ (∀ a b c, r = .exc a b c → os.length = np)
theorem dfm_mk {c m x qual : Str} {st : Stmt} {fd : FuncData} {N ps : List Str} {k : Nat} (F : FunD K x qual (defArgs st) (defBody st) (defScope st) [] [] (He.ma K (He.ga K c) m) fd) (S : FnScope N ps (defScope st)) (fl : List Bool) (hfl : fl.length = ps.length) (hN : ps.length ≤ N.length) (body : M Out)
    (hbi : ∀ (kV doc pm : Value) (an : Option Addr) (cdv ct : Value) (us : List Value), us.length = ps.length → bindArgs (PySem.W.fnOf x qual (defArgs st) (defBody st) (defScope st) .none kV doc pm an cdv ct) ⟨us, []⟩ = pure (ps.zip us))
    (hb : ∀ (cdv : Value) (A : Around) (outer : List Env) (s : Shared) (H : Hp) (E : XK), Room k (A.deeper (envOfC qual (defScope st) s.heap.objs.size (He.ma K (He.ga K c) m) cdv)) →
      AB (cxOf (L2N.CX P w) P w K mg base N qual (defScope st) (He.ma K (He.ga K c) m) cdv A outer s H E) (fun cls d _ H' => E cls d H') (pinsOf 0 fl) (defBody st) body) :
    DfM P w K mg base c m (k + 1) fl.length (mFn fl N.length body) :=
  ⟨⟨fd, ps, by rw [hfl]; exact fn_ok F S fl hfl hN body hb, F.bindsN hbi⟩, fun os r h => mFn_len os r h⟩
end
section
variable {X : Cx} {W : WX} {e : Expr} {es : List Expr} {pos p yp apos : Pos} {x y c m : Str} {kk np : Nat} {run : List O → Rs O} {mA : M (List Arg)}
theorem gMake (F : DfM X.prog X.w X.K X.mg X.base x "__init__" kk np run) (M : Mk X.K (He.ga X.K x) (He.ma X.K (He.ga X.K x) "__init__")) (gm : X.mg x = some (.ref (He.ga X.K x))) (hr : Room (kk + 1) X.A) (tk : L2N.Takes X W) (ha : AA X W (e :: es) mA) (hg : Gl X x := by rfl) (hdb : (x == ("__debug__" : Str)) = false := by decide) (he : starEach (e :: es) X.env = (false, eval e X.env) :: starEach es X.env := by rfl) (hpl : (backTo pos (starEach es X.env)).any (·.1) = false := by rfl) :
    AO X W (.Call (.Name x p) (e :: es) [] pos) (mMake x run mA) := by
  obtain ⟨fd, ps, h1, h4⟩ := F.ex
  exact ao_make M h1 hr hg gm h4 tk F.np ha hdb he hpl
theorem gMeth (i : Nat) {pl : Sem Bool} (F : DfM X.prog X.w X.K X.mg X.base c m kk np run) (hm : Meth X.K (He.ga X.K c) m (He.ma X.K (He.ga X.K c) m)) (gm : X.mg c = some (.ref (He.ga X.K c))) (cl : Cls X.K (He.ga X.K c)) (hr : Room kk X.A) (tk : L2N.Takes X W) (ha : AA X W (e :: es) mA) (hy : PE X (.Name y yp) (tVar i) := by exact pv _)
    (hst : starEach (e :: es) X.env = (false, eval e X.env) :: starEach es X.env := by rfl) (hpl : (backTo pos (starEach es X.env)).any (·.1) = false := by rfl)
    (ht : eval (.Call (.Attribute (.Name y yp) m apos) (e :: es) [] pos) X.env = (do
      let ov ← eval (.Name y yp) X.env
      standAt apos.atName
      let (f, first) ← holding [ov] (getMethod ov m pl)
      callWith pos f first (backTo pos (starEach (e :: es) X.env)) (backToKw pos (keywordEach [] X.env))) := by rfl) :
    AO X W (.Call (.Attribute (.Name y yp) m apos) (e :: es) [] pos) (mMeth i c m run mA) := by
  obtain ⟨fd, ps, h1, h4⟩ := F.ex
  exact ao_meth (pl := pl) i gm hy cl hm h1 hr h4 tk F.np ha hst hpl ht
theorem gMeth0 (i : Nat) {pl : Sem Bool} (F : DfM X.prog X.w X.K X.mg X.base c m kk np run) (hm : Meth X.K (He.ga X.K c) m (He.ma X.K (He.ga X.K c) m)) (gm : X.mg c = some (.ref (He.ga X.K c))) (cl : Cls X.K (He.ga X.K c)) (hr : Room kk X.A) (tk : L2N.Takes X W) (hy : PE X (.Name y yp) (tVar i) := by exact pv _)
    (ht : eval (.Call (.Attribute (.Name y yp) m apos) [] [] pos) X.env = (do
      let ov ← eval (.Name y yp) X.env
      standAt apos.atName
      let (f, first) ← holding [ov] (getMethod ov m pl)
      callWith pos f first (backTo pos (starEach [] X.env)) (backToKw pos (keywordEach [] X.env))) := by rfl) :
    AO X W (.Call (.Attribute (.Name y yp) m apos) [] [] pos) (mMeth i c m run mNilA) := by
  obtain ⟨fd, ps, h1, h4⟩ := F.ex
  exact ao_meth0 (pl := pl) i gm hy cl hm h1 hr h4 tk F.np ht
end
end Lf
set_option Elab.async false
set_option linter.all false
set_option maxRecDepth 100000
set_option maxHeartbeats 4000000
/-! The lifting layer: second names in short. -/
namespace Lf
open PySem PySem.Spec PyProof.Rows L2
def RootIs (k : Nat) (mp : En → Option (Nat × List PSt)) : Prop := ∀ E k' π, mp E = some (k', π) → k' = k
theorem rt_v {k : Nat} : RootIs k (plV k) := fun E k' π h => by
  unfold plV at h
  split at h
  · cases h; rfl
  · cases h
theorem rt_ix {k : Nat} {mp : En → Option (Nat × List PSt)} {f : En → Option D} (r : RootIs k mp) : RootIs k (plIx mp f) := fun E k' π h => by
  unfold plIx at h
  split at h
  · next k2 π2 i e1 e2 =>
    split at h
    · cases q : ixN _ i with
      | none => rw [q] at h; cases h
      | some j => rw [q] at h; cases h; exact r E _ _ e1
    · cases h
  · cases h
theorem rt_fld {k : Nat} {mp : En → Option (Nat × List PSt)} {c f : Str} (r : RootIs k mp) : RootIs k (plFld mp c f) := fun E k' π h => by
  unfold plFld at h
  split at h
  · next k2 π2 e1 =>
    split at h
    · next c' fs e2 =>
      split at h
      · cases q : fGet f fs with
        | none => rw [q] at h; cases h
        | some j => rw [q] at h; cases h; exact r E _ _ e1
      · cases h
    · cases h
  · cases h
/-- the place does not hang on slot p -/
def Off (p : Nat) (mp : En → Option (Nat × List PSt)) : Prop := (∀ E d, mp (E.set p (some (.dt d))) = mp E)
theorem nodeE_off {p k : Nat} (h : p ≠ k) (E : En) (d : D) (π : List PSt) : nodeE (E.set p (some (.dt d))) k π = nodeE E k π := by
  unfold nodeE
  rw [List.getElem?_set_ne h]
theorem off_v {p k : Nat} (h : p ≠ k) : Off p (plV k) := fun E d => by
  unfold plV
  rw [List.getElem?_set_ne h]
theorem off_fld {p k : Nat} {mp : En → Option (Nat × List PSt)} {c f : Str} (h : p ≠ k) (r : RootIs k mp) (o : Off p mp) : Off p (plFld mp c f) := fun E d => by
  unfold plFld
  rw [o E d]
  cases e : mp E with
  | none => rfl
  | some kp =>
    obtain ⟨k', π⟩ := kp
    have := r E k' π e
    subst this
    simp only [nodeE_off h]
section
variable {X : Cx} {W : WX} {pz : List Nat} {e e1 : Expr} {sts : List Stmt} {pos xp yp tp tp2 : Pos} {x y : Str} {m : M Out} {ma : M D} {mp : En → Option (Nat × List PSt)}
theorem gAlias (k s : Nat) (nd : X.N.Nodup) (ha : APl X e mp) (hb : AB X W (k :: s :: pz) sts m) (hk : RootIs k mp := by first | exact rt_v | exact rt_fld rt_v | exact rt_ix rt_v) (hs : s ∉ pz := by decide) (hi : X.N[s]? = some x := by rfl) (hx : Loc X.env.scope x := by first | exact Or.inl rfl | exact Or.inr rfl) (hsw : swapsWith e (some (.Name x xp)) pos.line X.env = pure false := by rfl) (hf : X.fn x = true ∨ X.env.scope.names.lookup x = some .local := by first | exact .inl rfl | exact .inr rfl) :
    AB X W pz (.Assign [.Name x xp] e pos :: sts) (mAlias k s mp m) := ab_alias k s hs hk ha (fun h => ps_set nd hi hx h hsw hf) hb
theorem gAlias2 (k p s : Nat) {kt kt2 : Nat} (nd : X.N.Nodup) (h1 : AD X W e1 ma) (ha : APl X e mp) (hb : AB X W (k :: s :: pz) sts m) (hc : X.calm = true := by rfl) (hk : RootIs k mp := by first | exact rt_v | exact rt_fld rt_v | exact rt_ix rt_v) (ho : Off p mp := by first | exact off_v (by decide) | exact off_fld (by decide) rt_v (off_v (by decide))) (hs : s ∉ pz := by decide) (hp : p ∉ pz := by decide) (hpk : p ≠ k := by decide) (hps : p ≠ s := by decide)
    (hi : X.N[p]? = some y := by rfl) (hj : X.N[s]? = some x := by rfl) (hy : X.env.scope.names.lookup y = some .local := by rfl) (hx : X.env.scope.names.lookup x = some .local := by rfl)
    (h2 : starEach [e1, e] X.env = (false, eval e1 X.env) :: starEach [e] X.env := by rfl) (h3 : starEach [e] X.env = (false, eval e X.env) :: starEach [] X.env := by rfl)
    (hw : swappedStores [.Tuple [.Name y yp, .Name x xp] kt tp] (.Tuple [e1, e] kt2 tp2) X.env = pure (some [y, x]) := by rfl) :
    AB X W pz (.Assign [.Tuple [.Name y yp, .Name x xp] kt tp] (.Tuple [e1, e] kt2 tp2) pos :: sts) (mPair p ma (mAlias k s mp m)) :=
  ab_alias2 k p s hs hp hpk hk ho h1 ha (fun pe pf => ps_par hc nd hi hj hps hy hx (pa_cons pe (pa_cons pf pa_nil h3) h2) hw rfl) hb
end
end Lf
set_option Elab.async false
set_option linter.all false
set_option maxRecDepth 100000
set_option maxHeartbeats 4000000
/-! The lifting layer: a place's cells become data; defs, methods with what they need. -/
namespace Lf
open PySem PySem.Spec PyProof.Rows L2
theorem ok_frzPl {K : Frag} {mg : Str → Option Value} {w : Wd} {σ : L2.St} {E : En} {i : Nat} {o n : O} {π : List PSt} {d : D} (k : Ok K mg w σ E) (e : E[i]? = some (some o)) (g : o.get π = some n) (q : n.toD = some d) :
    ∃ w' v u, w'.H = w.H ∧ σ[i]? = some (some v) ∧ VAt w.H v π u ∧ Ok K mg w' σ (E.set i (some (o.put π (.dt d)))) ∧ Stp w w' ∧ Dq K w'.I u d := by
  have hi : i < E.length := (List.getElem?_eq_some_iff.mp e).1
  obtain ⟨s, e', fp, FR, h1, h2, h3, h4, h5⟩ := k.env.focus hi
  rw [e] at h2
  cases h2
  cases h3 with
  | @ow v _ _ h3 =>
    obtain ⟨u, fpn, FN, c1, c2, c3, c4⟩ := h3.node g
    have ndF := List.nodup_append.mp (h4.nodup_iff.mp k.nd)
    have ndN := List.nodup_append.mp (c3.nodup_iff.mp ndF.1)
    have inN : ∀ a ∈ fpn, a ∈ fp := fun a m => c3.mem_iff.mpr (List.mem_append_left _ m)
    have inF : ∀ a ∈ FN, a ∈ fp := fun a m => c3.mem_iff.mpr (List.mem_append_right _ m)
    have nn : ∀ a ∈ fpn, w.I a = none := fun a m => (c2.there a m).1
    have s1 : Same w.I (frz w.I w.H fpn) := frz_sub nn
    have dd : Dq K (frz w.I w.H fpn) u d := c2.data s1 (fun a m => frz_in m) q
    obtain ⟨fp', p1, p2⟩ := c4 (frz w.I w.H fpn) w.H (.dt d) [] s1 (fun a m => ⟨rfl, by
      rw [frz_out fun m' => ndN.2.2 a m' a m rfl]
      exact (h3.there a (inF a m)).1⟩) (.dt dd)
    obtain ⟨FP', p, r⟩ := h5 (frz w.I w.H fpn) w.H (some v) (some (o.put π (.dt d))) fp' s1 (fun a m => ⟨rfl, by
      rw [frz_out fun m' => ndF.2.2 a (inN a m') a m rfl]
      exact (k.env.there a (h4.mem_iff.mpr (List.mem_append_right _ m))).1⟩) (.ow p2)
    have es : σ.set i (some v) = σ := by
      apply List.ext_getElem?
      intro j
      by_cases z : j = i
      · subst z
        have hj : j < σ.length := (List.getElem?_eq_some_iff.mp h1).1
        rw [List.getElem?_set_self hj, h1]
      · rw [List.getElem?_set_ne (Ne.symm z)]
    rw [es] at r
    have inP : ∀ a ∈ fp', a ∈ FN := fun a m => by simpa using p1.mem_iff.mp m
    refine ⟨⟨frz w.I w.H fpn, w.H, FP'⟩, v, u, rfl, h1, c1, ⟨frz_le k.sub, r, p.nodup_iff.mpr (List.nodup_append.mpr ⟨p1.nodup_iff.mpr (by simpa using ndN.2.1), ndF.2.1, fun a m b m' q => ndF.2.2 a (inF a (inP a m)) b m' q⟩)⟩, ⟨s1, fun _ _ _ h => h, fun a u n h i => ?_, fun a m => .inl ?_⟩, dd⟩
    · show frz w.I w.H fpn a = none
      rw [frz_out fun m => n (h4.mem_iff.mpr (List.mem_append_left _ (inN a m)))]
      exact i
    · rcases List.mem_append.mp (p.mem_iff.mp m) with m | m
      · exact h4.mem_iff.mpr (List.mem_append_left _ (inF a (inP a m)))
      · exact h4.mem_iff.mpr (List.mem_append_right _ m)
/-- a place's cells, for good data -/
def mFrzPl (mp : En → Option (Nat × List PSt)) : M D := fun E => match mp E with
  | some (k, π) => (match E[k]? with
    | some (some o) => (match o.get π with
      | some n => (match n.toD with
        | some d => .ok d (E.set k (some (o.put π (.dt d))))
        | none => .no)
      | none => .no)
    | _ => .no)
  | none => .no
section
variable {X : Cx} {W : WX} {e : Expr} {mp : En → Option (Nat × List PSt)}
theorem gFz (h : APl X e mp) : AD X W e (mFrzPl mp) := by
  obtain ⟨te, p, s⟩ := h
  refine ⟨te, p, fun w σ E Q k po => ?_⟩
  unfold mFrzPl at po
  split at po
  · next k' π em =>
    split at po
    · next o eo =>
      split at po
      · next n en =>
        split at po
        · next d hd =>
          refine s w σ E Q k k' π em fun w1 u k1 p1 hu => ?_
          obtain ⟨v, hv, hat⟩ := hu
          obtain ⟨w2, v2, u2, e1, e2, a2, k2, s2, hd2⟩ := ok_frzPl k1 eo en hd
          rw [hv] at e2
          cases e2
          have := hat.inj a2
          subst this
          rw [← e1]
          exact po w2 k2 (p1.stp.trans s2) _ hd2
        · exact po.elim
      · exact po.elim
    · exact po.elim
  · exact po.elim
end
section
variable {P : Program} {w : World} {K : Frag} {mg : Str → Option Value} {base : Heap}
theorem df_mk2 {x qual : Str} {st : Stmt} {f : Addr} {fd : FuncData} {N ps : List Str} {k : Nat} (F : FunD K x qual (defArgs st) (defBody st) (defScope st) [] [] f fd) (hm : mg x = some (.ref f)) (S : FnScope N ps (defScope st)) (fl : List Bool) (hfl : fl.length = ps.length) (hN : ps.length ≤ N.length) (body : M Out)
    (hbi : ∀ (kV doc pm : Value) (an : Option Addr) (cdv ct : Value) (us : List Value), us.length = ps.length → bindArgs (PySem.W.fnOf x qual (defArgs st) (defBody st) (defScope st) .none kV doc pm an cdv ct) ⟨us, []⟩ = pure (ps.zip us))
    (hb : ∀ (cdv : Value) (A : Around) (outer : List Env) (s : Shared) (H : Hp) (E : XK), Room k (A.deeper (envOfC qual (defScope st) s.heap.objs.size f cdv)) →
      L2N.Takes (cxOf (L2N.CX P w) P w K mg base N qual (defScope st) f cdv A outer s H E) (fun cls d _ H' => E cls d H') →
      PassesOwn (model P w) (cxOf (L2N.CX P w) P w K mg base N qual (defScope st) f cdv A outer s H E).A (cxOf (L2N.CX P w) P w K mg base N qual (defScope st) f cdv A outer s H E).env (cxOf (L2N.CX P w) P w K mg base N qual (defScope st) f cdv A outer s H E).xe →
      AB (cxOf (L2N.CX P w) P w K mg base N qual (defScope st) f cdv A outer s H E) (fun cls d _ H' => E cls d H') (pinsOf 0 fl) (defBody st) body) :
    Df P w K mg base x (k + 1) fl.length (mFn fl N.length body) :=
  df_mk F hm S fl hfl hN body hbi fun cdv A outer s H E hr => hb cdv A outer s H E hr (L2N.takes_of rfl rfl rfl rfl) (passes_of (X := cxOf (L2N.CX P w) P w K mg base N qual (defScope st) f cdv A outer s H E) rfl)
theorem dfm_mk2 {c m x qual : Str} {st : Stmt} {fd : FuncData} {N ps : List Str} {k : Nat} (F : FunD K x qual (defArgs st) (defBody st) (defScope st) [] [] (He.ma K (He.ga K c) m) fd) (S : FnScope N ps (defScope st)) (fl : List Bool) (hfl : fl.length = ps.length) (hN : ps.length ≤ N.length) (body : M Out)
    (hbi : ∀ (kV doc pm : Value) (an : Option Addr) (cdv ct : Value) (us : List Value), us.length = ps.length → bindArgs (PySem.W.fnOf x qual (defArgs st) (defBody st) (defScope st) .none kV doc pm an cdv ct) ⟨us, []⟩ = pure (ps.zip us))
    (hb : ∀ (cdv : Value) (A : Around) (outer : List Env) (s : Shared) (H : Hp) (E : XK), Room k (A.deeper (envOfC qual (defScope st) s.heap.objs.size (He.ma K (He.ga K c) m) cdv)) →
      L2N.Takes (cxOf (L2N.CX P w) P w K mg base N qual (defScope st) (He.ma K (He.ga K c) m) cdv A outer s H E) (fun cls d _ H' => E cls d H') →
      PassesOwn (model P w) (cxOf (L2N.CX P w) P w K mg base N qual (defScope st) (He.ma K (He.ga K c) m) cdv A outer s H E).A (cxOf (L2N.CX P w) P w K mg base N qual (defScope st) (He.ma K (He.ga K c) m) cdv A outer s H E).env (cxOf (L2N.CX P w) P w K mg base N qual (defScope st) (He.ma K (He.ga K c) m) cdv A outer s H E).xe →
      AB (cxOf (L2N.CX P w) P w K mg base N qual (defScope st) (He.ma K (He.ga K c) m) cdv A outer s H E) (fun cls d _ H' => E cls d H') (pinsOf 0 fl) (defBody st) body) :
    DfM P w K mg base c m (k + 1) fl.length (mFn fl N.length body) :=
  dfm_mk F S fl hfl hN body hbi fun cdv A outer s H E hr => hb cdv A outer s H E hr (L2N.takes_of rfl rfl rfl rfl) (passes_of (X := cxOf (L2N.CX P w) P w K mg base N qual (defScope st) (He.ma K (He.ga K c) m) cdv A outer s H E) rfl)
end
end Lf
set_option Elab.async false
set_option linter.all false
set_option maxRecDepth 100000
set_option maxHeartbeats 400000
/-! The lifting layer: the exception classes of a text, read off its heap. -/
namespace Lf
open PySem PySem.Spec PyProof.Rows L2
/-- an own exception class without an __init__ of its own -/
def ex0B (K : Frag) (x : Str) : Bool := PySem.W.excIn K (He.ga K x) exTl "Exception.__new__" && (PySem.W.keepIn K (.ref (He.ga K x)) && (decide (PySem.W.subIn K (.ref (He.ga K x)) (.type "BaseException") = some true) && decide (PySem.W.typeIn K (.ref (He.ga K x)) = some (.type "type"))))
/-- the function object of an __init__(self, f): super().__init__(f); self.f = f -/
def exFd (file : Str) (K : Frag) (C : Addr) (f : Str) (fd : FuncData) : Bool := match fd with
  | ⟨name, qual, ⟨[], [⟨s0, n0, q0⟩, ⟨ar, n1, q1⟩], none, [], [], none, []⟩, .stmts [.Expr (.Call (.Attribute (.Call (.Name sp p0) [] [] p1) it p2) [.Name a2 p3] [] p4) p5, .Assign [.Attribute (.Name s2 p6) f2 p7] (.Name a3 p8) p9], ⟨.function, nms, false, false, more⟩, gl, [(cn, cc)], .none, kV, doc, pm, an, .ref cda, ct, bu⟩ =>
    decide (s0 = "self") && (decide (ar = f) && (decide (sp = "super") && (decide (it = "__init__") && (decide (a2 = f) && (decide (s2 = "self") && (decide (f2 = f) && (decide (a3 = f) && (decide (gl = mainGlobals) && (decide (cn = "__class__") && (decide (bu = builtinsNs)
    && (PySem.W.codeIn K (.ref cda) qual && ((match K.lookup cda with
      | some ⟨_, _, .fields vs, _⟩ => (match (vs[2]? : Option Value) with
        | some (Value.str fi _) => file == fi
        | _ => false)
      | _ => false) && ((match K.lookup cc with
      | some ⟨_, _, .cell (some v), _⟩ => decide (v = .ref C)
      | _ => false) && (decide (nms.lookup ("super" : Str) = some .globalImplicit) && (decide (nms.lookup ("__class__" : Str) = some .free) && (decide (nms.lookup ("self" : Str) = some .local) && (decide (nms.lookup f = some .local) && (nms.all (fun x => decide (x.2 ≠ .cell)) && (p2.endLine == p4.line)))))))))))))))))))
  | _ => false
def ex1B (file : Str) (K : Frag) (x f : Str) : Bool := match PySem.W.findIn K (.ref (He.ga K x)) "__init__" with
  | some (some (.ref fI)) => (match K.lookup fI with
    | some ⟨_, _, .func fd, _⟩ => exFd file K (He.ga K x) f fd
    | _ => false) && (decide (PySem.W.typeIn K (.ref fI) = some (.type "function")) && (decide (PySem.W.ks_superIn K (He.ga K x) (He.ga K x) "__init__" = some (some (.builtin "Exception.__init__"))) && (decide (PySem.W.subIn K (.ref (He.ga K x)) (.type "Exception") = some true)
      && (decide (PySem.W.nsIn K PySem.cStatics "thirdparty.any" = some none) && (PySem.W.excInitIn K (He.ga K x) exTl "Exception.__new__" && (PySem.W.excOver K (He.ga K x) exTl && (decide (PySem.W.takerIn K (He.ga K x) f = some none) && (decide (PySem.W.findIn K (.ref (He.ga K x)) "__setattr__" = some (some (.builtin "object.__setattr__")))
      && (PySem.W.hasDictIn K (He.ga K x) && (decide (PySem.W.subIn K (.ref (He.ga K x)) (.type "BaseException") = some true) && (decide (PySem.W.typeIn K (.ref (He.ga K x)) = some (.type "type")) && (PySem.W.keepIn K (.ref (He.ga K x)) && decide (PySem.W.mroIn K (He.ga K x) (.ref (He.ga K x)) = some true)))))))))))))
  | _ => false
theorem ba {a b : Bool} (h : (a && b) = true) : a = true ∧ b = true := Bool.and_eq_true_iff.mp h
theorem exFd_ok {P : Program} {K : Frag} {x f : Str} {fI : Addr} {oc : Value} {od : Option Addr} {osl : Array (Option Value)} {fd : FuncData} (hl : K.lookup fI = some ⟨oc, od, .func fd, osl⟩) (h : exFd P.main.file K (He.ga K x) f fd = true)
    (ini : PySem.W.findIn K (.ref (He.ga K x)) "__init__" = some (some (.ref fI)))
    (r : (decide (PySem.W.typeIn K (.ref fI) = some (.type "function")) && (decide (PySem.W.ks_superIn K (He.ga K x) (He.ga K x) "__init__" = some (some (.builtin "Exception.__init__"))) && (decide (PySem.W.subIn K (.ref (He.ga K x)) (.type "Exception") = some true)
      && (decide (PySem.W.nsIn K PySem.cStatics "thirdparty.any" = some none) && (PySem.W.excInitIn K (He.ga K x) exTl "Exception.__new__" && (PySem.W.excOver K (He.ga K x) exTl && (decide (PySem.W.takerIn K (He.ga K x) f = some none) && (decide (PySem.W.findIn K (.ref (He.ga K x)) "__setattr__" = some (some (.builtin "object.__setattr__")))
      && (PySem.W.hasDictIn K (He.ga K x) && (decide (PySem.W.subIn K (.ref (He.ga K x)) (.type "BaseException") = some true) && (decide (PySem.W.typeIn K (.ref (He.ga K x)) = some (.type "type")) && (PySem.W.keepIn K (.ref (He.ga K x)) && decide (PySem.W.mroIn K (He.ga K x) (.ref (He.ga K x)) = some true))))))))))))) = true)
    (hs : f ≠ "self") (hd : (f == ("__debug__" : Str)) = false) (htop : (P.main.scope.names.lookup ("super" : Str)).isSome = false)
    (hb : ∀ (name qual : Str) (n0 n1 : Option Expr) (q0 q1 : Pos) (body : List Stmt) (sc : Scope) (kV doc pm : Value) (an : Option Addr) (cdv ct : Value) (cc : Addr) (u v : Value), bindArgs (PySem.W.ksFn name qual ⟨[], [⟨"self", n0, q0⟩, ⟨f, n1, q1⟩], none, [], [], none, []⟩ body sc .none kV doc pm an cdv ct cc) ⟨[u, v], []⟩ = pure [(("self" : Str), u), (f, v)]) :
    ∃ T : ExI P K (He.ga K x) f, T.Ok := by
  unfold exFd at h
  split at h
  · next name qual s0 n0 q0 ar n1 q1 sp p0 p1 it p2 a2 p3 p4 p5 s2 p6 f2 p7 a3 p8 p9 nms more gl cn cc kV doc pm an cda ct bu =>
    obtain ⟨g1, h⟩ := ba h
    obtain ⟨g2, h⟩ := ba h
    obtain ⟨g3, h⟩ := ba h
    obtain ⟨g4, h⟩ := ba h
    obtain ⟨g5, h⟩ := ba h
    obtain ⟨g6, h⟩ := ba h
    obtain ⟨g7, h⟩ := ba h
    obtain ⟨g8, h⟩ := ba h
    obtain ⟨g9, h⟩ := ba h
    obtain ⟨g10, h⟩ := ba h
    obtain ⟨h, h12⟩ := ba h
    have e1 := of_decide_eq_true g1
    have e2 := of_decide_eq_true g2
    have e3 := of_decide_eq_true g3
    have e4 := of_decide_eq_true g4
    have e5 := of_decide_eq_true g5
    have e6 := of_decide_eq_true g6
    have e7 := of_decide_eq_true g7
    have e8 := of_decide_eq_true g8
    have e9 := of_decide_eq_true g9
    have e10 := of_decide_eq_true g10
    have e11 := of_decide_eq_true h
    replace e2 := e2.symm
    replace e5 := e5.symm
    replace e7 := e7.symm
    replace e8 := e8.symm
    subst e1 e3 e4 e6 e9 e10 e11
    subst e2
    subst e5
    subst e7
    subst e8
    obtain ⟨k1, h⟩ := ba h12
    obtain ⟨k2, h⟩ := ba h
    obtain ⟨k3, h⟩ := ba h
    obtain ⟨k4, h⟩ := ba h
    obtain ⟨k5, h⟩ := ba h
    obtain ⟨k6, h⟩ := ba h
    obtain ⟨k7, h⟩ := ba h
    obtain ⟨k8, k9⟩ := ba h
    obtain ⟨r1, r⟩ := ba r
    obtain ⟨r2, r⟩ := ba r
    obtain ⟨r3, r⟩ := ba r
    obtain ⟨r4, r⟩ := ba r
    obtain ⟨r5, r⟩ := ba r
    obtain ⟨r6, r⟩ := ba r
    obtain ⟨r7, r⟩ := ba r
    obtain ⟨r8, r⟩ := ba r
    obtain ⟨r9, r⟩ := ba r
    obtain ⟨r10, r⟩ := ba r
    obtain ⟨r11, r⟩ := ba r
    obtain ⟨r12, r13⟩ := ba r
    cases qf : K.lookup cda with
    | none => rw [qf] at k2; cases k2
    | some oo =>
      obtain ⟨cl, cd, dt, sl⟩ := oo
      rw [qf] at k2
      cases dt with
      | fields vs =>
        cases qv : (vs[2]? : Option Value) with
        | none => simp only [qv] at k2; cases k2
        | some vv =>
          simp only [qv] at k2
          cases vv with
          | str fi tf =>
            cases qc : K.lookup cc with
            | none => rw [qc] at k3; cases k3
            | some oo2 =>
              obtain ⟨cl2, cd2, dt2, sl2⟩ := oo2
              rw [qc] at k3
              cases dt2 with
              | cell ov =>
                cases ov with
                | none => cases k3
                | some v =>
                  have ev : v = .ref (He.ga K x) := of_decide_eq_true k3
                  subst ev
                  refine ⟨{ fI := fI, cc := cc, cda := cda, name := name, qual := qual, ar := f, n0 := n0, n1 := n1, q0 := q0, q1 := q1, names := nms, more := more, kV := kV, doc := doc, pm := pm, ct := ct, an := an, oc := oc, od := od, osl := osl, p0 := p0, p1 := p1, p2 := p2, p3 := p3, p4 := p4, p5 := p5, p6 := p6, p7 := p7, p8 := p8, p9 := p9 }, ?_⟩
                  exact { ini := ini, tyI := of_decide_eq_true r1, fn := hl, bnd := fun u v => hb _ _ _ _ _ _ _ _ _ _ _ _ _ _ _ u v, code := k1, file := ⟨_, _, _, _, _, _, qf, qv, k2⟩, cell := ⟨_, _, _, qc⟩, par := of_decide_eq_true r2, exn := of_decide_eq_true r3, third := of_decide_eq_true r4, exi := r5, ovr := r6, tak := of_decide_eq_true r7, sa := of_decide_eq_true r8, dct := r9, base := of_decide_eq_true r10, ty := of_decide_eq_true r11, kp := r12, self := of_decide_eq_true r13, k1 := of_decide_eq_true k4, k2 := of_decide_eq_true k5, k3 := of_decide_eq_true k6, k4 := of_decide_eq_true k7, k8 := fun y hy => of_decide_eq_true (List.all_eq_true.mp k8 y hy), k9 := hs, kd := hd, line := k9, top := htop }
              | _ => cases k3
          | _ => cases k2
      | _ => cases k2
  · cases h
end Lf
set_option Elab.async false
set_option linter.all false
set_option maxRecDepth 100000
set_option maxHeartbeats 4000000
/-! The lifting layer: raise, try in short; what a text's exception classes are. -/
namespace Lf
open PySem PySem.Spec PyProof.Rows L2 HotX
/-- all that is asked of the exception classes: l0 bare ones, l1 with a field, ys asked for by isinstance, b caught -/
def exAll (file : Str) (l0 : List Str) (l1 : List (Str × Str)) (ys : List Str) (b : Str) (K : Frag) : Bool :=
  l0.all (ex0B K) && (l1.all (fun p => ex1B file K p.1 p.2) && ((l0 ++ l1.map (·.1)).all (fun c => xokB K (He.ga K c) && (decide (PySem.W.exmOne K (.ref (He.ga K c)) (.ref (He.ga K b)) = some true) && ys.all (fun y => decide (PySem.W.kitOne K (.ref (He.ga K c)) (.ref (He.ga K y)) = some (decide (c = y))))))
    && l1.all (fun p => decide (PySem.W.findIn K (.ref (He.ga K p.1)) p.2 = some none))))
structure Ty (P : Program) (w : World) (K : Frag) (mg : Str → Option Value) (base : Heap) (file : Str) (l0 : List Str) (l1 : List (Str × Str)) (ys : List Str) (b : Str) (fa : List He.Fa) (fn : List He.DefD) : Prop extends Tx P w K mg base (exAll file l0 l1 ys b) fa fn where
  hfile : P.main.file = file
  htop : (P.main.scope.names.lookup ("super" : Str)).isSome = false
section
variable {P : Program} {w : World} {K : Frag} {mg : Str → Option Value} {base : Heap} {file : Str} {l0 : List Str} {l1 : List (Str × Str)} {ys : List Str} {b : Str} {fa : List He.Fa} {fn : List He.DefD}
theorem Ty.e0 (T : Ty P w K mg base file l0 l1 ys b fa fn) {x : Str} (h : x ∈ l0) : ex0B K x = true := List.all_eq_true.mp (ba T.ex).1 x h
theorem Ty.e1 (T : Ty P w K mg base file l0 l1 ys b fa fn) {x f : Str} (h : (x, f) ∈ l1) : ex1B file K x f = true := List.all_eq_true.mp (ba (ba T.ex).2).1 (x, f) h
theorem Ty.ex_ (T : Ty P w K mg base file l0 l1 ys b fa fn) {x : Str} (h : x ∈ l0 ++ l1.map (·.1)) : xokB K (He.ga K x) = true ∧ PySem.W.exmOne K (.ref (He.ga K x)) (.ref (He.ga K b)) = some true ∧ ∀ y ∈ ys, PySem.W.kitOne K (.ref (He.ga K x)) (.ref (He.ga K y)) = some (decide (x = y)) := by
  have h1 := List.all_eq_true.mp (ba (ba (ba T.ex).2).2).1 x h
  obtain ⟨h2, h1⟩ := ba h1
  obtain ⟨h3, h1⟩ := ba h1
  exact ⟨h2, of_decide_eq_true h3, fun y hy => of_decide_eq_true (List.all_eq_true.mp h1 y hy)⟩
theorem Ty.ef (T : Ty P w K mg base file l0 l1 ys b fa fn) {x f : Str} (h : (x, f) ∈ l1) : PySem.W.findIn K (.ref (He.ga K x)) f = some none := of_decide_eq_true (List.all_eq_true.mp (ba (ba (ba T.ex).2).2).2 (x, f) h)
theorem Ty.exc0 (T : Ty P w K mg base file l0 l1 ys b fa fn) (i : Nat) (x : Str) (h : l0[i]? = some x) : ex0B K x = true := T.e0 (List.mem_of_getElem? h)
theorem ex1_ok {x f : Str} (h : ex1B file K x f = true) (hfile : P.main.file = file) (hs : f ≠ "self") (hd : (f == ("__debug__" : Str)) = false) (htop : (P.main.scope.names.lookup ("super" : Str)).isSome = false)
    (hb : ∀ (name qual : Str) (n0 n1 : Option Expr) (q0 q1 : Pos) (body : List Stmt) (sc : Scope) (kV doc pm : Value) (an : Option Addr) (cdv ct : Value) (cc : Addr) (u v : Value), bindArgs (PySem.W.ksFn name qual ⟨[], [⟨"self", n0, q0⟩, ⟨f, n1, q1⟩], none, [], [], none, []⟩ body sc .none kV doc pm an cdv ct cc) ⟨[u, v], []⟩ = pure [(("self" : Str), u), (f, v)]) : ∃ T : ExI P K (He.ga K x) f, T.Ok := by
  subst hfile
  unfold ex1B at h
  split at h
  · next fI e =>
    obtain ⟨h1, h2⟩ := ba h
    cases hl : K.lookup fI with
    | none => rw [hl] at h1; cases h1
    | some o =>
      obtain ⟨oc, od, dt, osl⟩ := o
      rw [hl] at h1
      cases dt with
      | func fd => exact exFd_ok hl h1 e h2 hs hd htop hb
      | _ => cases h1
  · cases h
theorem Ty.exc1 (T : Ty P w K mg base file l0 l1 ys b fa fn) (i : Nat) (x f : Str) (h : l1[i]? = some (x, f))
    (hb : ∀ (name qual : Str) (n0 n1 : Option Expr) (q0 q1 : Pos) (body : List Stmt) (sc : Scope) (kV doc pm : Value) (an : Option Addr) (cdv ct : Value) (cc : Addr) (u v : Value), bindArgs (PySem.W.ksFn name qual ⟨[], [⟨"self", n0, q0⟩, ⟨f, n1, q1⟩], none, [], [], none, []⟩ body sc .none kV doc pm an cdv ct cc) ⟨[u, v], []⟩ = pure [(("self" : Str), u), (f, v)] := by intros; rfl)
    (hs : f ≠ "self" := by decide) (hd : (f == ("__debug__" : Str)) = false := by decide) : ∃ T : ExI P K (He.ga K x) f, T.Ok := ex1_ok (T.e1 (List.mem_of_getElem? h)) T.hfile hs hd T.htop hb
end
section
variable {X : Cx} {W : WX} {pz : List Nat} {x f n : Str} {p p1 p2 np cpos pos pos' : Pos} {e : Expr} {ma : M D} {pp : Addr × Obj}
theorem gRaise0 (tk : L2N.Takes X W) (gm : X.mg x = some (.ref (He.ga X.K x))) (h : ex0B X.K x = true) (hc : X.calm = true := by rfl) (hg : Gl X x := by rfl) (hdb : (x == ("__debug__" : Str)) = false := by decide) : AS X W pz (.Raise (some (.Call (.Name x p) [] [] cpos)) none pos) (fun E => .exc x [] E) := by
  obtain ⟨h1, h⟩ := ba h
  obtain ⟨h2, h⟩ := ba h
  obtain ⟨h3, h4⟩ := ba h
  exact as_raise0 hc tk h1 gm h2 (raises_own (of_decide_eq_true h3) (of_decide_eq_true h4)) hg hdb
theorem gRaise1 (tk : L2N.Takes X W) (gm : X.mg x = some (.ref (He.ga X.K x))) (hsup : X.mg "super" = none) (h : ∃ T : ExI X.prog X.K (He.ga X.K x) f, T.Ok) (hr : Room 1 X.A) (ha : AD X W e ma) (hc : X.calm = true := by rfl) (hg : Gl X x := by rfl) (hdb : (x == ("__debug__" : Str)) = false := by decide)
    (he : starEach [e] X.env = (false, eval e X.env) :: starEach [] X.env := by rfl) (hpl : (backTo cpos (starEach [] X.env)).any (·.1) = false := by rfl) : AS X W pz (.Raise (some (.Call (.Name x p) [e] [] cpos)) none pos) (fun E => (ma E).bind fun d E1 => .exc x [(f, d)] E1) := by
  obtain ⟨T, O⟩ := h
  exact as_raise1 hc tk T O hr gm hsup (by decide +kernel) hg ha hdb he hpl
/-! ### defs that ask the caught exception -/
theorem gIsX (hot : L2H.Hot1 X.A pp) (gmT : X.mg x = some (.ref (He.ga X.K x))) (hm : X.mg "isinstance" = none) (he : AD X W e ma) (hp : pp ∈ X.pn := by exact List.mem_cons_self) (hg : Gl X "isinstance" := by rfl) (hT : Gl X x := by rfl) (hdT : (x == ("__debug__" : Str)) = false := by decide)
    (hst : starEach [e, .Name x p2] X.env = (false, eval e X.env) :: starEach [.Name x p2] X.env := by rfl) : AD X W (.Call (.Name "isinstance" p1) [e, .Name x p2] [] pos) (mIsX X.K pp (He.ga X.K x) ma) := by
  obtain ⟨_, vs, hv, _⟩ := hot
  exact ad_isX hp ⟨vs, hv⟩ hg hm hT gmT he hdT hst rfl rfl
theorem gFldX (hot : L2H.Hot1 X.A pp) (he : AD X W e ma) (hp : pp ∈ X.pn := by exact List.mem_cons_self) (hb : attributeBase e f X.env (eval e X.env) = eval e X.env := by rfl) : AD X W (.Attribute e f pos) (mFldX X.K pp f ma) := by
  obtain ⟨_, vs, hv, _⟩ := hot
  exact ad_fldX hp ⟨vs, hv⟩ he hb
end
/-- a def of the text that is called with the caught exception -/
structure DfH (P : Program) (w : World) (K : Frag) (mg : Str → Option Value) (base : Heap) (x : Str) (k : Nat) (np : Nat) (run : Addr × Obj → List O → Rs O) : Prop where
  ex : ∃ f fd ps, FnHp P w K mg base k f fd ps (fun p => spOf K mg np (run p)) ∧ mg x = some (.ref f) ∧ PySem.W.keepIn K (.ref f) = true ∧ Binds K fd ps []
  np : ∀ p os r, run p os = r → (∀ a b, r = .ok a b → os.length = np) ∧ (∀ a b c, r = .exc a b c → os.length = np)
theorem dfh_mk {P : Program} {w : World} {K : Frag} {mg : Str → Option Value} {base : Heap} {x qual : Str} {st : Stmt} {f : Addr} {fd : FuncData} {N ps : List Str} {k : Nat} (F : FunD K x qual (defArgs st) (defBody st) (defScope st) [] [] f fd) (hm : mg x = some (.ref f)) (S : FnScope N ps (defScope st)) (fl : List Bool) (hfl : fl.length = ps.length) (hN : ps.length ≤ N.length) (body : Addr × Obj → M Out)
    (hbi : ∀ (kV doc pm : Value) (an : Option Addr) (cdv ct : Value) (us : List Value), us.length = ps.length → bindArgs (PySem.W.fnOf x qual (defArgs st) (defBody st) (defScope st) .none kV doc pm an cdv ct) ⟨us, []⟩ = pure (ps.zip us))
    (hb : ∀ (cdv : Value) (A : Around) (outer : List Env) (s : Shared) (H : Hp) (E : XK) (p : Addr × Obj), L2H.Hot1 A p → L2H.PinOk outer H s p → L2H.Hot1 (L2H.cxH (L2N.CX P w) P w K mg base N qual (defScope st) f cdv A outer s H E p).A p → L2H.HotC (L2H.cxH (L2N.CX P w) P w K mg base N qual (defScope st) f cdv A outer s H E p) → L2H.RoomH k (A.deeper (envOfC qual (defScope st) s.heap.objs.size f cdv)) →
      AB (L2H.cxH (L2N.CX P w) P w K mg base N qual (defScope st) f cdv A outer s H E p) (fun cls d _ H' => E cls d H') (pinsOf 0 fl) (defBody st) (body p)) :
    DfH P w K mg base x (k + 1) fl.length (fun p => mFn fl N.length (body p)) :=
  ⟨⟨f, fd, ps, by
    rw [hfl]
    refine fn_okHp F S fl hfl hN body fun cdv A outer s H E p hot hpin hr => ?_
    have h1 : L2H.Hot1 (L2H.cxH (L2N.CX P w) P w K mg base N qual (defScope st) f cdv A outer s H E p).A p := hot
    exact hb cdv A outer s H E p hot hpin h1 ⟨p, h1, List.mem_cons_self⟩ hr, hm, F.kp, F.bindsN hbi⟩, fun p os r h => mFn_len os r h⟩
section
variable {X : Cx} {W : WX} {pz : List Nat} {x f n : Str} {p p1 p2 np cpos pos pos' : Pos} {e : Expr} {es : List Expr} {mA : M (List Arg)} {pp : Addr × Obj} {kk nq : Nat} {run : Addr × Obj → List O → Rs O}
theorem gCallH (F : DfH X.prog X.w X.K X.mg X.base x kk nq run) (hr : L2H.RoomH kk X.A) (hot : L2H.Hot1 X.A pp) (tk : L2N.Takes X W) (ha : AA X W (e :: es) mA) (hp : pp ∈ X.pn := by exact List.mem_cons_self) (hg : Gl X x := by rfl) (hdb : (x == ("__debug__" : Str)) = false := by decide) (he : starEach (e :: es) X.env = (false, eval e X.env) :: starEach es X.env := by rfl) (hpl : (backTo pos (starEach es X.env)).any (·.1) = false := by rfl) :
    AO X W (.Call (.Name x p) (e :: es) [] pos) (mCall (run pp) mA) := by
  obtain ⟨f, fd, ps, h1, h2, h3, h4⟩ := F.ex
  exact ao_callHp h1 hr hot hp hg h2 h3 h4 tk F.np ha hdb he hpl
end
section
variable {X : Cx} {W : WX} {pz : List Nat} {x n : Str} {elt tg iter cnd : Expr} {scope : Scope} {np pos pos' : Pos} {ma : M D} {bd : D → En → Option En} {mt : M Bool} {me : M O} {is : List Nat} {es : List Expr}
/-- [e for a, b in xs if ..] there -/
theorem gLcIfH (own : List (Str × Nat)) (hot : L2H.HotC X) (nd : X.N.Nodup) (hi : AD X W iter ma) (ok : blkC X.N X.env.scope scope own = true) (hg : ∀ (s : Shared) (H : Hp) (C : Addr) (cl : List (Str × Addr)) (fp : List Addr), HotB (X.blk s H scope (compEnvC scope cl C X.env) fp) → AG (X.blk s H scope (compEnvC scope cl C X.env) fp) is tg bd)
    (ht : ∀ (s : Shared) (H : Hp) (C : Addr) (cl : List (Str × Addr)) (fp : List Addr), AT (X.blk s H scope (compEnvC scope cl C X.env) fp) W0 cnd mt)
    (he : ∀ (s : Shared) (H : Hp) (C : Addr) (cl : List (Str × Addr)) (fp : List Addr), AO (X.blk s H scope (compEnvC scope cl C X.env) fp) W0 elt me) (his : ∀ i ∈ is, i ∈ own.map (·.2) := by decide) (hs : ∀ x, foldedSetIterable iter X.env x = pure x := by intro _; rfl) :
    AO X W (.ListComp elt [⟨tg, iter, [cnd], 0⟩] scope pos) (mLc (own.map (·.2)) (mItems ma) bd mt me) := ao_lcIfH hot nd hi (blkOk_by ok) hg his ht he hs
theorem gTgTH {k : Nat} {is : List Nat} (hb : HotB X) (hr : AGs X es is) (hn : (assignEach es X.env).length = is.length := by rfl) (hst : (assignEach es X.env).findIdx? (·.1) = none := by rfl) : AG X is (.Tuple es k pos) (bTup is) := ag_tupH hb hr hn hst
end
/-! ### try .. except B as e: return (tag, classes, kept) -/
section
variable {X : Cx} {W : WX} {pz : List Nat} {x n : Str} {body suite : List Stmt} {b₀ : Stmt} {np pos pos' : Pos} {mb : M Out}
def catB (cs : List Str) : Str → Option Bool := fun c => if c ∈ cs then some true else none
theorem gTry (i : Nat) (nd : X.N.Nodup) (tk : L2N.Takes X W) (gm : X.mg x = some (.ref (He.ga X.K x))) (cs : List Str) (hcs : ∀ c ∈ cs, X.mg c = some (.ref (He.ga X.K c)) ∧ PySem.W.exmOne X.K (.ref (He.ga X.K c)) (.ref (He.ga X.K x)) = some true)
    (hb : ∀ (W' : WX) (pn : List (Addr × Obj)) (xe : Value → Shared → Prop), L2N.Takes (X.tr pn xe) W' → PassesOwn (model X.prog X.w) X.A X.env xe → AB (X.tr pn xe) W' pz body mb)
    (mh : Addr × Obj → M Out) (hsu : ∀ (p : Addr × Obj) (pn : List (Addr × Obj)), L2H.Hot1 (X.suite p.1 (p :: pn)).A p → AB (X.suite p.1 (p :: pn)) W0 pz (b₀ :: suite) (mh p))
    (mH : Str → List (Str × D) → M Out)
    (hH : ∀ (p : Addr × Obj) (c : Str) (fs : List (Str × D)) (d : D) (E : En) (out : Out) (E2 : En), c ∈ cs → p.2.cls = .ref (He.ga X.K c) → excOf p d = some fs → i < E.length → mH c fs (E.set i none) = .ok out E2 → ∃ E3, mh p (E.set i (some (.dt d))) = .ok out E3 ∧ E3.set i none = E2)
    (hpz : i ∉ pz := by decide) (hs : X.stack = X.env :: X.outer := by rfl) (hf : X.env.frame = some X.env.locals := by rfl) (hi : X.N[i]? = some n := by rfl) (hln : X.env.kindOf n = some .local := by rfl) (hg : Gl X x := by rfl) (hdb : (x == ("__debug__" : Str)) = false := by decide) :
    AS X W pz (.Try body [.ExceptHandler (some (.Name x np)) (some n) (b₀ :: suite) pos'] [] [] pos) (mTry i (catB cs) mb (fun c fs E => if i < E.length then mH c fs E else .no)) := by
  refine as_try i hpz hs hf nd hi hln ⟨hg, hdb, .inl gm⟩ tk hb (catB cs) (fun c C b e g => ?_) mh hsu _ (fun p C c fs d E out E2 e g1 g2 g3 g4 => ?_)
  · unfold catB at e
    split at e
    · next h =>
      cases e
      obtain ⟨h1, h2⟩ := hcs c h
      rw [g] at h1; cases h1; exact h2
    · cases e
  · unfold catB at e
    split at e
    · next h =>
      obtain ⟨h1, h2⟩ := hcs c h
      rw [g1] at h1; cases h1
      split at g4
      · next hl =>
        rw [List.length_set] at hl
        exact hH p c fs d E out E2 h g2 g3 hl g4
      · cases g4
    · cases e
end
end Lf
set_option Elab.async false
set_option linter.all false
set_option maxRecDepth 100000
set_option maxHeartbeats 4000000
/-! Plain laws: what a reading must do, said from behind. -/
namespace Lf
open PySem L2
section
variable {α β : Type}
def WO (o : Option α) (P : α → Prop) : Prop := match o with
  | some a => P a
  | none => False
def Wp (r : Rs α) (Q : α → En → Prop) (X : Str → List (Str × D) → En → Prop) : Prop := match r with
  | .ok a E => Q a E
  | .exc c fs E => X c fs E
  | .no => False
abbrev XF : Str → List (Str × D) → En → Prop := fun _ _ _ => False
theorem wo_congr {o o' : Option α} {P : α → Prop} (h : o = o') : WO o P = WO o' P := by rw [h]
theorem wp_congr {r r' : Rs α} {Q : α → En → Prop} {X : Str → List (Str × D) → En → Prop} (h : r = r') : Wp r Q X = Wp r' Q X := by rw [h]
variable {o : Option α} {P P' : α → Prop} {r : Rs α} {Q Q' : α → En → Prop} {X X' : Str → List (Str × D) → En → Prop} {E : En}
theorem WO.mono (h : WO o P) (k : ∀ a, P a → P' a) : WO o P' := by
  cases o with
  | none => exact h
  | some a => exact k a h
theorem wo_iff : WO o P ↔ ∃ a, o = some a ∧ P a := by
  cases o with
  | none => exact ⟨fun h => h.elim, fun ⟨a, h, _⟩ => by cases h⟩
  | some b => exact ⟨fun h => ⟨b, rfl, h⟩, fun ⟨a, h, p⟩ => by cases h; exact p⟩
theorem Wp.mono (h : Wp r Q X) (k : ∀ a E, Q a E → Q' a E) (x : ∀ c fs E, X c fs E → X' c fs E := by exact fun _ _ _ h => h) : Wp r Q' X' := by
  cases r with
  | ok a E => exact k a E h
  | exc c fs E => exact x c fs E h
  | no => exact h
theorem Wp.monoF (h : Wp r Q XF) (k : ∀ a E, Q a E → Q' a E) : Wp r Q' X' := Wp.mono h k fun _ _ _ h => h.elim
theorem wp_eq {a : α} (h : Wp r (fun b F => b = a ∧ F = E) XF) : r = .ok a E := by
  cases r with
  | ok b F => obtain ⟨h1, h2⟩ := h; rw [h1, h2]
  | exc c fs F => exact h.elim
  | no => exact h.elim
theorem wp_eqX {c : Str} {fs : List (Str × D)} (h : Wp r (fun _ _ => False) (fun c' fs' F => c' = c ∧ fs' = fs ∧ F = E)) : r = .exc c fs E := by
  cases r with
  | ok b F => exact h.elim
  | exc c' fs' F => obtain ⟨h1, h2, h3⟩ := h; rw [h1, h2, h3]
  | no => exact h.elim
theorem wo_some {a : α} : WO (some a) P ↔ P a := Iff.rfl
theorem wo_none : WO (none : Option α) P ↔ False := Iff.rfl
theorem wo_if {c : Prop} [Decidable c] {a : α} : WO (if c then some a else none) P ↔ c ∧ P a := by
  by_cases h : c <;> simp [h, WO]
theorem wo_map {f : β → α} {u : Option β} : WO (u.map f) P ↔ WO u fun b => P (f b) := by cases u <;> exact Iff.rfl
theorem wo_bind {f : β → Option α} {u : Option β} : WO (u.bind f) P ↔ WO u fun b => WO (f b) P := by cases u <;> exact Iff.rfl
theorem wp_ok {a : α} : Wp (.ok a E) Q X ↔ Q a E := Iff.rfl
theorem wp_exc {c : Str} {fs : List (Str × D)} : Wp (.exc c fs E) Q X ↔ X c fs E := Iff.rfl
theorem wp_no : Wp (.no : Rs α) Q X ↔ False := Iff.rfl
theorem wp_lift : Wp (lift o E) Q X ↔ WO o fun a => Q a E := by cases o <;> exact Iff.rfl
theorem wp_bind {s : Rs β} {k : β → En → Rs α} : Wp (s.bind k) Q X ↔ Wp s (fun b F => Wp (k b F) Q X) X := by cases s <;> exact Iff.rfl
end
section
variable {X : Str → List (Str × D) → En → Prop} {E : En}
/-! ### data -/
section
variable {Q : D → En → Prop} {ma mb mc : M D} {mo : M O} {mt : M Bool} {mA : M (List Arg)}
theorem wp_var {i : Nat} : Wp (mVar i E) Q X ↔ ∃ d, E[i]? = some (some (.dt d)) ∧ Q d E := by
  unfold mVar
  split
  · next d h => exact ⟨fun q => ⟨d, h, q⟩, fun ⟨d', h', q⟩ => by rw [h] at h'; cases h'; exact q⟩
  · next h => exact ⟨fun q => q.elim, fun ⟨d', h', q⟩ => (h _ h').elim⟩
theorem wp_c {d : D} : Wp (mC d E) Q X ↔ Q d E := Iff.rfl
theorem wp_m1 {f : D → Option D} : Wp (m1 f ma E) Q X ↔ Wp (ma E) (fun x E1 => WO (f x) fun z => Q z E1) X := by
  unfold m1; rw [wp_bind]; simp only [wp_lift]
theorem wp_m2 {f : D → D → Option D} : Wp (m2 f ma mb E) Q X ↔ Wp (ma E) (fun x E1 => Wp (mb E1) (fun y E2 => WO (f x y) fun z => Q z E2) X) X := by
  unfold m2; simp only [wp_bind, wp_lift]
theorem wp_andV : Wp (mAndV ma mb E) Q X ↔ Wp (ma E) (fun x E1 => ∃ b, x = .bool b ∧ if b = true then Wp (mb E1) Q X else Q (.bool false) E1) X := by
  unfold mAndV; rw [wp_bind]
  constructor
  · intro h; refine h.mono fun x E1 h => ?_
    cases x with
    | bool b => refine ⟨b, rfl, ?_⟩; cases b <;> exact h
    | _ => exact h.elim
  · intro h; refine h.mono fun x E1 h => ?_
    obtain ⟨b, rfl, h⟩ := h
    cases b <;> exact h
theorem wp_orV : Wp (mOrV ma mb E) Q X ↔ Wp (ma E) (fun x E1 => ∃ b, x = .bool b ∧ if b = true then Q (.bool true) E1 else Wp (mb E1) Q X) X := by
  unfold mOrV; rw [wp_bind]
  constructor
  · intro h; refine h.mono fun x E1 h => ?_
    cases x with
    | bool b => refine ⟨b, rfl, ?_⟩; cases b <;> exact h
    | _ => exact h.elim
  · intro h; refine h.mono fun x E1 h => ?_
    obtain ⟨b, rfl, h⟩ := h
    cases b <;> exact h
theorem wp_notV : Wp (mNotV ma E) Q X ↔ Wp (ma E) (fun x E1 => ∃ b, x = .bool b ∧ Q (.bool !b) E1) X := by
  unfold mNotV; rw [wp_bind]
  constructor
  · intro h; refine h.mono fun x E1 h => ?_
    cases x with
    | bool b => exact ⟨b, rfl, h⟩
    | _ => exact h.elim
  · intro h; refine h.mono fun x E1 h => ?_
    obtain ⟨b, rfl, h⟩ := h
    exact h
theorem wp_if : Wp (mIf mt ma mb E) Q X ↔ Wp (mt E) (fun k E1 => if k = true then Wp (ma E1) Q X else Wp (mb E1) Q X) X := by
  unfold mIf; rw [wp_bind]
  constructor <;> intro h <;> refine h.mono fun x E1 h => ?_ <;> cases x <;> exact h
theorem wp_fz : Wp (mFz mo E) Q X ↔ Wp (mo E) (fun o E1 => WO o.toD fun d => Q d E1) X := by
  unfold mFz; rw [wp_bind]; simp only [wp_lift]
theorem wp_frzV {i : Nat} : Wp (mFrzV i E) Q X ↔ ∃ o, E[i]? = some (some o) ∧ WO o.toD fun d => Q d (E.set i (some (.dt d))) := by
  unfold mFrzV
  split
  · next o h =>
    constructor
    · intro q
      refine ⟨o, h, ?_⟩
      split at q
      · next d e => rw [e]; exact q
      · exact q.elim
    · intro ⟨o', h', q⟩
      rw [h] at h'; cases h'
      split
      · next d e => rw [e] at q; exact q
      · next e => rw [e] at q; exact q
  · next h => exact ⟨fun q => q.elim, fun ⟨d', h', q⟩ => (h _ h').elim⟩
theorem wp_eye : Wp (mEye ma E) Q X ↔ Wp (ma (frzE E)) (fun d _ => scalD d = true ∧ Q d E) XF := by
  unfold mEye
  cases h : ma (frzE E) with
  | ok d F =>
    by_cases c : scalD d = true
    · simp only [if_pos c]; exact ⟨fun q => ⟨c, q⟩, fun q => q.2⟩
    · simp only [if_neg c]; exact ⟨fun q => q.elim, fun q => absurd q.1 c⟩
  | exc c fs F => exact Iff.rfl
  | no => exact Iff.rfl
theorem wp_pu {f : En → Option D} : Wp (mPu f E) Q X ↔ WO (f E) fun d => Q d E := wp_lift
theorem wp_hide : Wp (mHide ma E) Q X ↔ Wp (ma (hideE E)) (fun d _ => Q d E) XF := by
  unfold mHide
  cases h : ma (hideE E) <;> exact Iff.rfl
theorem wp_disp {f : List D → D} : Wp (mDisp f mA E) Q X ↔ Wp (mA E) (fun as E1 => WO (argsD as) fun ds => ds.length ≤ 16777216 ∧ Q (f ds) E1) X := by
  unfold mDisp; rw [wp_bind]; simp only [wp_lift, wo_bind, wo_if]
theorem wp_callD {f : List D → Option D} : Wp (mCallD f mA E) Q X ↔ Wp (mA E) (fun as E1 => WO (argsD as) fun ds => WO (f ds) fun d => Q d E1) X := by
  unfold mCallD; rw [wp_bind]; simp only [wp_lift, wo_bind]
theorem wp_isi {T : String} : Wp (mIsi T ma E) Q X ↔ Wp (ma E) (fun d E1 => WO (isD T d) fun b => Q (.bool b) E1) X := by
  unfold mIsi; rw [wp_bind]; simp only [wp_lift, wo_map]
theorem wp_chain {f g : D → D → Option D} : Wp (mChain f g ma mb mc E) Q X ↔ Wp (ma E) (fun x E1 => Wp (mb E1) (fun y E2 => WO (f x y) fun z => ∃ b, z = .bool b ∧ if b = true then Wp (mc E2) (fun z E3 => WO (g y z) fun q => Q q E3) X else Q (.bool false) E2) X) X := by
  unfold mChain; simp only [wp_bind]
  constructor
  · intro h; refine h.mono fun x E1 h => h.mono fun y E2 h => ?_
    cases e : f x y with
    | none => rw [e] at h; exact h.elim
    | some z =>
      rw [e] at h
      cases z with
      | bool b =>
        refine ⟨b, rfl, ?_⟩
        cases b
        · exact h
        · rw [if_pos rfl]
          have h2 : Wp ((mc E2).bind fun z E3 => lift (g y z) E3) Q X := h
          simp only [wp_bind, wp_lift] at h2
          exact h2
      | _ => exact h.elim
  · intro h; refine h.mono fun x E1 h => h.mono fun y E2 h => ?_
    cases e : f x y with
    | none => rw [e] at h; exact h.elim
    | some z =>
      rw [e] at h
      obtain ⟨b, rfl, h⟩ := h
      cases b
      · exact h
      · rw [if_pos rfl] at h
        show Wp ((mc E2).bind fun z E3 => lift (g y z) E3) Q X
        simp only [wp_bind, wp_lift]
        exact h
theorem wp_sl {ml mh : M (Option Int)} : Wp (mSl ma ml mh E) Q X ↔ Wp (ma E) (fun x E1 => Wp (ml E1) (fun lo E2 => Wp (mh E2) (fun hi E3 => WO (pSl x lo hi) fun d => Q d E3) X) X) X := by
  unfold mSl; simp only [wp_bind, wp_lift]
theorem wp_frzPl {mp : En → Option (Nat × List PSt)} : Wp (mFrzPl mp E) Q X ↔ WO (mp E) fun kp => ∃ o, E[kp.1]? = some (some o) ∧ WO (o.get kp.2) fun n => WO n.toD fun d => Q d (E.set kp.1 (some (o.put kp.2 (.dt d)))) := by
  unfold mFrzPl
  cases e : mp E with
  | none => exact Iff.rfl
  | some kp =>
    obtain ⟨k, π⟩ := kp
    simp only [wo_some]
    cases h : E[k]? with
    | none => simp [Wp]
    | some s =>
      cases s with
      | none => simp [Wp]
      | some o =>
        simp only [Option.some.injEq, exists_eq_left']
        cases g : o.get π with
        | none => exact Iff.rfl
        | some n =>
          simp only [wo_some]
          cases t : n.toD <;> exact Iff.rfl
theorem wp_pop {mp : En → Option (Nat × List PSt)} : Wp (mPop mp E) Q X ↔ WO (mp E) fun kp => WO (nodeE E kp.1 kp.2) fun n => ∃ os, n = .lst os ∧ ∃ d, os[os.length - 1]? = some (.dt d) ∧ Q d (putE E kp.1 kp.2 (.lst os.dropLast)) := by
  unfold mPop
  cases e : mp E with
  | none => exact Iff.rfl
  | some kp =>
    obtain ⟨k, π⟩ := kp
    simp only [wo_some]
    cases h : nodeE E k π with
    | none => exact Iff.rfl
    | some n =>
      simp only [wo_some]
      cases n with
      | lst os =>
        simp only
        cases g : os[os.length - 1]? with
        | none => simp [Wp, g]
        | some q => cases q <;> simp [Wp, g]
      | _ => simp [Wp]
end
/-! ### owned -/
section
variable {Q : O → En → Prop} {ma mb mc : M D} {mo mo2 : M O} {mt : M Bool} {mA : M (List Arg)} {mL : M (List O)}
theorem wp_ifO : Wp (mIfO mt mo mo2 E) Q X ↔ Wp (mt E) (fun k E1 => if k = true then Wp (mo E1) Q X else Wp (mo2 E1) Q X) X := by
  unfold mIfO; rw [wp_bind]
  constructor <;> intro h <;> refine h.mono fun x E1 h => ?_ <;> cases x <;> exact h
theorem wp_dt : Wp (mDt ma E) Q X ↔ Wp (ma E) (fun d E1 => Q (.dt d) E1) X := by
  unfold mDt; rw [wp_bind]; simp only [wp_ok]
theorem wp_lstO : Wp (mLstO mA E) Q X ↔ Wp (mA E) (fun as E1 => WO (argsD as) fun ds => ds.length ≤ 16777216 ∧ Q (.lst (ds.map .dt)) E1) X := by
  unfold mLstO; rw [wp_bind]; simp only [wp_lift, wo_bind, wo_if]
theorem wp_lstOO : Wp (mLstOO mL E) Q X ↔ Wp (mL E) (fun os E1 => os.length ≤ 16777216 ∧ Q (.lst os) E1) X := by
  unfold mLstOO; rw [wp_bind]
  constructor <;> intro h <;> refine h.mono fun x E1 h => ?_
  · split at h
    · next c => exact ⟨c, h⟩
    · exact h.elim
  · rw [if_pos h.1]; exact h.2
theorem wp_tupOO : Wp (mTupOO mL E) Q X ↔ Wp (mL E) (fun os E1 => os.length ≤ 16777216 ∧ Q (.tup os) E1) X := by
  unfold mTupOO; rw [wp_bind]
  constructor <;> intro h <;> refine h.mono fun x E1 h => ?_
  · split at h
    · next c => exact ⟨c, h⟩
    · exact h.elim
  · rw [if_pos h.1]; exact h.2
theorem wp_m2O {f : D → D → Option (List D)} : Wp (m2O f ma mb E) Q X ↔ Wp (ma E) (fun x E1 => Wp (mb E1) (fun y E2 => WO (f x y) fun z => Q (.lst (z.map .dt)) E2) X) X := by
  unfold m2O; simp only [wp_bind, wp_lift, wo_map]; rfl
theorem wp_callO {f : List D → Option (List D)} : Wp (mCallO f mA E) Q X ↔ Wp (mA E) (fun as E1 => WO (argsD as) fun ds => WO (f ds) fun d => Q (.lst (d.map .dt)) E1) X := by
  unfold mCallO; rw [wp_bind]; simp only [wp_lift, wo_bind, wo_map]; rfl
theorem wp_mv {i : Nat} : Wp (mMv i E) Q X ↔ ∃ o, E[i]? = some (some o) ∧ Q o (E.set i none) := by
  unfold mMv
  split
  · next d h => exact ⟨fun q => ⟨d, h, q⟩, fun ⟨d', h', q⟩ => by rw [h] at h'; cases h'; exact q⟩
  · next h => exact ⟨fun q => q.elim, fun ⟨d', h', q⟩ => (h _ h').elim⟩
theorem wp_call {run : List O → Rs O} : Wp (mCall run mA E) Q X ↔ Wp (mA E) (fun as E1 => (slotsA as).length ≤ 1 ∧ WO (argsO E1 as) fun os => Wp (run os) (fun r es => Q r (backE E1 as es)) (fun c fs es => X c fs (backE E1 as es))) X := by
  unfold mCall; rw [wp_bind]
  constructor <;> intro h <;> refine h.mono fun as E1 h => ?_
  · split at h
    · next c =>
      refine ⟨c, ?_⟩
      cases g : argsO E1 as with
      | none => rw [g] at h; exact h
      | some os =>
        rw [g] at h
        simp only at h
        show Wp (run os) _ _
        cases g2 : run os <;> rw [g2] at h <;> exact h
    · exact h.elim
  · rw [if_pos h.1]
    have h := h.2
    cases g : argsO E1 as with
    | none => rw [g] at h; exact h
    | some os =>
      rw [g] at h
      replace h : Wp (run os) _ _ := h
      simp only
      cases g2 : run os <;> rw [g2] at h <;> exact h
theorem wp_meth {i : Nat} {c m : Str} {run : List O → Rs O} : Wp (mMeth i c m run mA E) Q X ↔ ∃ fs, E[i]? = some (some (.ins c fs)) ∧ fGet m fs = none ∧ Wp (mCall run (mArgS i mA) E) Q X := by
  unfold mMeth
  constructor
  · intro h
    split at h
    · next c' fs e =>
      split at h
      · next k => obtain ⟨k1, k2⟩ := k; subst k1; exact ⟨fs, e, k2, h⟩
      · exact h.elim
    · exact h.elim
  · intro ⟨fs, e, k, h⟩
    rw [e]
    show Wp (if c = c ∧ fGet m fs = none then mCall run (mArgS i mA) E else .no) Q X
    rw [if_pos ⟨rfl, k⟩]
    exact h
theorem wp_make {c : Str} {run : List O → Rs O} : Wp (mMake c run mA E) Q X ↔ Wp (mA E) (fun as E1 => WO (argsD as) fun ds => Wp (run (.ins c [] :: ds.map .dt)) (fun r es => r = .dt .none ∧ ∃ o es', es = some o :: es' ∧ Q o E1) (fun c fs _ => X c fs E1)) X := by
  unfold mMake; rw [wp_bind]
  constructor <;> intro h <;> refine h.mono fun as E1 h => ?_
  · cases g : argsD as with
    | none => rw [g] at h; exact h
    | some ds =>
      rw [g] at h
      simp only at h
      show Wp _ _ _
      cases g2 : run (.ins c [] :: ds.map .dt) with
      | ok r es =>
        split at h
        · next q => rw [g2] at q; cases q; exact ⟨rfl, _, _, rfl, h⟩
        · next q => rw [g2] at q; cases q
        · exact h.elim
      | exc c' fs es => rw [g2] at h; exact h
      | no => rw [g2] at h; exact h
  · cases g : argsD as with
    | none => rw [g] at h; exact h
    | some ds =>
      rw [g] at h
      simp only
      replace h : Wp (run (.ins c [] :: ds.map .dt)) _ _ := h
      cases g2 : run (.ins c [] :: ds.map .dt) with
      | ok r es =>
        rw [g2] at h
        obtain ⟨rfl, o, es', rfl, h⟩ := h
        exact h
      | exc c' fs es => rw [g2] at h; exact h
      | no => rw [g2] at h; exact h
theorem wp_lc {vs : List Nat} {mi : M (List D)} {bd : D → En → Option En} {me : M O} : Wp (mLc vs mi bd mt me E) Q X ↔ Wp (mi E) (fun ds E1 => Wp (lcL vs bd mt me ds [] (killE vs E1)) Q X) X := by
  unfold mLc; rw [wp_bind]
theorem wp_lc2 {vs vs1 : List Nat} {mi mi1 : M (List D)} {bd bd1 : D → En → Option En} {mt1 : M Bool} {me : M D} : Wp (mLc2 vs vs1 mi bd mt mi1 bd1 mt1 me E) Q X ↔ Wp (mi E) (fun ds E1 => WO (lc2Out vs vs1 bd mt mi1 bd1 mt1 me ds [] (killE vs E1)) fun p => Q (.lst (p.1.map .dt)) p.2) X := by
  unfold mLc2; rw [wp_bind]
  constructor <;> intro h <;> refine h.mono fun as E1 h => ?_
  · cases g : lc2Out vs vs1 bd mt mi1 bd1 mt1 me as [] (killE vs E1) <;> rw [g] at h <;> exact h
  · cases g : lc2Out vs vs1 bd mt mi1 bd1 mt1 me as [] (killE vs E1) <;> rw [g] at h <;> exact h
theorem wp_nilO {Q : List O → En → Prop} : Wp (mNilO E) Q X ↔ Q [] E := Iff.rfl
theorem wp_consO {Q : List O → En → Prop} : Wp (mConsO mo mL E) Q X ↔ Wp (mo E) (fun o E1 => Wp (mL E1) (fun os E2 => Q (o :: os) E2) X) X := by
  unfold mConsO; simp only [wp_bind, wp_ok]
end
/-! ### arguments, walks, bounds -/
section
variable {ma mb mc : M D} {mA : M (List Arg)}
theorem wp_nilA {Q : List Arg → En → Prop} : Wp (mNilA E) Q X ↔ Q [] E := Iff.rfl
theorem wp_argD {Q : List Arg → En → Prop} : Wp (mArgD ma mA E) Q X ↔ Wp (ma E) (fun x E1 => Wp (mA E1) (fun as E2 => Q (.d x :: as) E2) X) X := by
  unfold mArgD; simp only [wp_bind, wp_ok]
theorem wp_argS {Q : List Arg → En → Prop} {i : Nat} : Wp (mArgS i mA E) Q X ↔ ∃ o, E[i]? = some (some o) ∧ Wp (mA E) (fun as E2 => Q (.s i :: as) E2) X := by
  unfold mArgS
  split
  · next d h => simp only [wp_bind, wp_ok]; exact ⟨fun q => ⟨d, h, q⟩, fun ⟨d', h', q⟩ => q⟩
  · next h => exact ⟨fun q => q.elim, fun ⟨d', h', q⟩ => (h _ h').elim⟩
theorem wp_items {Q : List D → En → Prop} : Wp (mItems ma E) Q X ↔ Wp (ma E) (fun d E1 => ∃ ds, (d = .list ds ∨ d = .dict [(.none, .list ds)]) ∧ Q ds E1) X := by
  unfold mItems; rw [wp_bind]
  constructor <;> intro h <;> refine h.mono fun d E1 h => ?_
  · split at h
    · exact ⟨_, .inl rfl, h⟩
    · exact ⟨_, .inr rfl, h⟩
    · exact h.elim
  · obtain ⟨ds, rfl | rfl, h⟩ := h <;> exact h
theorem wp_itemsT {Q : List D → En → Prop} : Wp (mItemsT ma E) Q X ↔ Wp (ma E) (fun d E1 => ∃ ds, d = .tuple ds ∧ Q ds E1) X := by
  unfold mItemsT; rw [wp_bind]
  constructor <;> intro h <;> refine h.mono fun d E1 h => ?_
  · split at h
    · exact ⟨_, rfl, h⟩
    · exact h.elim
  · obtain ⟨ds, rfl, h⟩ := h; exact h
theorem wp_rng {Q : List D → En → Prop} {f : List D → Option (List D)} : Wp (mRng f mA E) Q X ↔ Wp (mA E) (fun as E1 => WO (argsD as) fun ds => WO (f ds) fun d => Q d E1) X := by
  unfold mRng; rw [wp_bind]; simp only [wp_lift, wo_bind]
theorem wp_noPart {Q : Option Int → En → Prop} : Wp (mNoPart E) Q X ↔ Q none E := Iff.rfl
theorem wp_part {Q : Option Int → En → Prop} : Wp (mPart ma E) Q X ↔ Wp (ma E) (fun d E1 => ∃ i, d = .int i ∧ Q (some i) E1) X := by
  unfold mPart; rw [wp_bind]
  constructor <;> intro h <;> refine h.mono fun d E1 h => ?_
  · split at h
    · exact ⟨_, rfl, h⟩
    · exact h.elim
  · obtain ⟨ds, rfl, h⟩ := h; exact h
end
/-! ### tests -/
section
variable {Q : Bool → En → Prop} {ma mb mc : M D} {mt mu : M Bool}
theorem wp_B : Wp (mB ma E) Q X ↔ Wp (ma E) (fun d E1 => ∃ b, d = .bool b ∧ Q b E1) X := by
  unfold mB; rw [wp_bind]
  constructor <;> intro h <;> refine h.mono fun d E1 h => ?_
  · split at h
    · exact ⟨_, rfl, h⟩
    · exact h.elim
  · obtain ⟨ds, rfl, h⟩ := h; exact h
theorem wp_tru {f : D → Option Bool} : Wp (mTru f ma E) Q X ↔ Wp (ma E) (fun d E1 => WO (f d) fun b => Q b E1) X := by
  unfold mTru; rw [wp_bind]; simp only [wp_lift]
theorem wp_truPl {mp : En → Option (Nat × List PSt)} : Wp (mTruPl mp E) Q X ↔ WO (mp E) fun kp => WO (nodeE E kp.1 kp.2) fun n => ∃ os, n = .lst os ∧ Q (!os.isEmpty) E := by
  unfold mTruPl
  cases e : mp E with
  | none => exact Iff.rfl
  | some kp =>
    obtain ⟨k, π⟩ := kp
    simp only [wo_some]
    cases h : nodeE E k π with
    | none => exact Iff.rfl
    | some n =>
      simp only [wo_some]
      cases n <;> simp [Wp]
theorem wp_and : Wp (mAnd mt mu E) Q X ↔ Wp (mt E) (fun c E1 => if c = true then Wp (mu E1) Q X else Q false E1) X := by
  unfold mAnd; rw [wp_bind]
  constructor <;> intro h <;> refine h.mono fun d E1 h => ?_ <;> cases d <;> exact h
theorem wp_or : Wp (mOr mt mu E) Q X ↔ Wp (mt E) (fun c E1 => if c = true then Q true E1 else Wp (mu E1) Q X) X := by
  unfold mOr; rw [wp_bind]
  constructor <;> intro h <;> refine h.mono fun d E1 h => ?_ <;> cases d <;> exact h
theorem wp_not : Wp (mNot mt E) Q X ↔ Wp (mt E) (fun c E1 => Q (!c) E1) X := by
  unfold mNot; rw [wp_bind]; simp only [wp_ok]
theorem wp_eyeT : Wp (mEyeT mt E) Q X ↔ Wp (mt (frzE E)) (fun b _ => Q b E) XF := by
  unfold mEyeT
  cases h : mt (frzE E) <;> exact Iff.rfl
end
/-! ### places, pure -/
section
variable {P : D → Prop} {ma : M D} {mp : En → Option (Nat × List PSt)} {f : En → Option D}
theorem wo_uHide : WO (uHide ma E) P ↔ Wp (ma (hideE E)) (fun d _ => P d) XF := by
  unfold uHide
  cases h : ma (hideE E) <;> exact Iff.rfl
theorem wo_uEye : WO (uEye ma E) P ↔ Wp (ma (frzE E)) (fun d _ => scalD d = true ∧ P d) XF := by
  unfold uEye
  cases h : ma (frzE E) with
  | ok d F =>
    by_cases c : scalD d = true
    · simp only [if_pos c]; exact ⟨fun q => ⟨c, q⟩, fun q => q.2⟩
    · simp only [if_neg c]; exact ⟨fun q => q.elim, fun q => absurd q.1 c⟩
  | exc c fs F => exact Iff.rfl
  | no => exact Iff.rfl
theorem wo_uLoad : WO (uLoad mp E) P ↔ WO (mp E) fun kp => WO (nodeE E kp.1 kp.2) fun n => ∃ d, n = .dt d ∧ P d := by
  unfold uLoad
  cases e : mp E with
  | none => exact Iff.rfl
  | some kp =>
    obtain ⟨k, π⟩ := kp
    simp only [wo_some]
    cases h : nodeE E k π with
    | none => exact Iff.rfl
    | some n =>
      simp only [wo_some]
      cases n <;> simp [WO]
theorem wo_plV {P : Nat × List PSt → Prop} {k : Nat} : WO (plV k E) P ↔ ∃ o, E[k]? = some (some o) ∧ P (k, []) := by
  unfold plV
  split
  · next d h => exact ⟨fun q => ⟨d, h, q⟩, fun ⟨d', h', q⟩ => q⟩
  · next h => exact ⟨fun q => q.elim, fun ⟨d', h', q⟩ => (h _ h').elim⟩
theorem wo_plIx {P : Nat × List PSt → Prop} : WO (plIx mp f E) P ↔ WO (mp E) fun kp => WO (f E) fun d => ∃ i, d = .int i ∧ WO (nodeE E kp.1 kp.2) fun n => ∃ os, n = .lst os ∧ WO (ixN os.length i) fun j => P (kp.1, kp.2 ++ [.ix j]) := by
  unfold plIx
  cases e : mp E with
  | none => simp [WO]
  | some kp =>
    obtain ⟨k, π⟩ := kp
    simp only [wo_some]
    cases g : f E with
    | none => simp [WO]
    | some d =>
      simp only [wo_some]
      cases d with
      | int i =>
        simp only [PyData.int.injEq, exists_eq_left']
        cases h : nodeE E k π with
        | none => exact Iff.rfl
        | some n =>
          simp only [wo_some]
          cases n with
          | lst os => simp only [O.lst.injEq, exists_eq_left', wo_map]
          | _ => simp [WO]
      | _ => simp [WO]
theorem wo_plFld {P : Nat × List PSt → Prop} {c g : Str} : WO (plFld mp c g E) P ↔ WO (mp E) fun kp => WO (nodeE E kp.1 kp.2) fun n => ∃ fs, n = .ins c fs ∧ WO (fGet g fs) fun _ => P (kp.1, kp.2 ++ [.fld g]) := by
  unfold plFld
  cases e : mp E with
  | none => simp [WO]
  | some kp =>
    obtain ⟨k, π⟩ := kp
    simp only [wo_some]
    cases h : nodeE E k π with
    | none => exact Iff.rfl
    | some n =>
      simp only [wo_some]
      cases n with
      | ins c' fs =>
        by_cases q : c' = c
        · subst q; simp [wo_map]
        · simp [q, WO]
      | _ => simp [WO]
theorem wo_nodeE {P : O → Prop} {k : Nat} {π : List PSt} : WO (nodeE E k π) P ↔ ∃ o, E[k]? = some (some o) ∧ WO (o.get π) P := by
  unfold nodeE
  split
  · next d h => exact ⟨fun q => ⟨d, h, q⟩, fun ⟨d', h', q⟩ => by rw [h] at h'; cases h'; exact q⟩
  · next h => exact ⟨fun q => q.elim, fun ⟨d', h', q⟩ => (h _ h').elim⟩
theorem wo_get0 {P : O → Prop} {o : O} : WO (o.get []) P ↔ P o := by cases o <;> exact Iff.rfl
theorem wo_getIx {P : O → Prop} {os : List O} {j : Nat} {π : List PSt} : WO ((O.lst os).get (.ix j :: π)) P ↔ WO os[j]? fun o => WO (o.get π) P := by
  show WO (match os[j]? with | some o => O.get o π | none => none) P ↔ _
  cases os[j]? <;> exact Iff.rfl
theorem wo_getFld {P : O → Prop} {c g : Str} {fs : List (Str × O)} {π : List PSt} : WO ((O.ins c fs).get (.fld g :: π)) P ↔ WO (fGet g fs) fun o => WO (o.get π) P := by
  show WO (match fGet g fs with | some o => O.get o π | none => none) P ↔ _
  cases fGet g fs <;> exact Iff.rfl
end
/-! ### statements -/
section
variable {Q : Out → En → Prop} {ma mb mc : M D} {mo : M O} {mt : M Bool} {a b : M Out} {mL : M (List O)} {mp : En → Option (Nat × List PSt)} {f fe : En → Option D}
def nxQ (P : En → Prop) (Q : Out → En → Prop) : Out → En → Prop := fun o E1 => match o with
  | .nx => P E1
  | o => Q o E1
theorem nxQ_nx {P : En → Prop} : nxQ P Q .nx E ↔ P E := Iff.rfl
theorem nxQ_rt {P : En → Prop} {o : O} : nxQ P Q (.rt o) E ↔ Q (.rt o) E := Iff.rfl
theorem nxQ_br {P : En → Prop} : nxQ P Q .br E ↔ Q .br E := Iff.rfl
theorem nxQ_ct {P : En → Prop} : nxQ P Q .ct E ↔ Q .ct E := Iff.rfl
theorem wp_nx : Wp (mNx E) Q X ↔ Q .nx E := Iff.rfl
theorem wp_seq : Wp (mSeq a b E) Q X ↔ Wp (a E) (nxQ (fun E1 => Wp (b E1) Q X) Q) X := by
  unfold mSeq
  cases h : a E with
  | ok o F => cases o <;> exact Iff.rfl
  | exc c fs F => exact Iff.rfl
  | no => exact Iff.rfl
theorem wp_drop : Wp (mDrop ma E) Q X ↔ Wp (ma E) (fun _ E1 => Q .nx E1) X := by
  unfold mDrop; rw [wp_bind]; simp only [wp_ok]
theorem wp_dropO : Wp (mDrop mo E) Q X ↔ Wp (mo E) (fun _ E1 => Q .nx E1) X := by
  unfold mDrop; rw [wp_bind]; simp only [wp_ok]
theorem wp_ret : Wp (mRet mo E) Q X ↔ Wp (mo E) (fun o E1 => Q (.rt o) E1) X := by
  unfold mRet; rw [wp_bind]; simp only [wp_ok]
theorem wp_retD : Wp (mRetD ma E) Q X ↔ Wp (ma E) (fun d E1 => Q (.rt (.dt d)) E1) X := by
  unfold mRetD; rw [wp_bind]; simp only [wp_ok]
theorem wp_ifS : Wp (mIfS mt a b E) Q X ↔ Wp (mt E) (fun k E1 => if k = true then Wp (a E1) Q X else Wp (b E1) Q X) X := by
  unfold mIfS; rw [wp_bind]
  constructor <;> intro h <;> refine h.mono fun d E1 h => ?_ <;> cases d <;> exact h
theorem wp_ifc {γ : Type} {r s : Rs γ} {c : Prop} [Decidable c] {Q : γ → En → Prop} : Wp (if c then r else s) Q X ↔ if c then Wp r Q X else Wp s Q X := by
  by_cases h : c <;> simp [h]
theorem wp_ifno {γ : Type} {r : Rs γ} {c : Prop} [Decidable c] {Q : γ → En → Prop} : Wp (if c then r else .no) Q X ↔ c ∧ Wp r Q X := by
  by_cases h : c <;> simp [h, Wp]
theorem wp_set {i : Nat} : Wp (mSet i ma E) Q X ↔ Wp (ma E) (fun d E1 => i < E1.length ∧ Q .nx (E1.set i (some (.dt d)))) X := by
  unfold mSet; rw [wp_bind]; simp only [wp_ifno, wp_ok]
theorem wp_setO {i : Nat} : Wp (mSetO i mo E) Q X ↔ Wp (mo E) (fun d E1 => i < E1.length ∧ Q .nx (E1.set i (some d))) X := by
  unfold mSetO; rw [wp_bind]; simp only [wp_ifno, wp_ok]
theorem wp_kill {ks : List Nat} : Wp (mKill ks a E) Q X ↔ Wp (a (killE ks E)) Q X := Iff.rfl
theorem wp_for {ks : List Nat} {mi : M (List D)} {bd : D → En → Option En} : Wp (mFor ks mi bd b E) Q X ↔ Wp (mi E) (fun xs E1 => Wp (forL ks bd b xs (killE ks E1)) Q X) X := by
  unfold mFor; rw [wp_bind]
theorem wp_while {N : Nat} {ks : List Nat} : Wp (mWhile N ks mt b E) Q X ↔ Wp (whileL ks mt b N (killE ks E)) Q X := Iff.rfl
theorem wp_appendV {k : Nat} : Wp (mAppendV k ma E) Q X ↔ ∃ os, E[k]? = some (some (.lst os)) ∧ Wp (ma E) (fun d E1 => ∃ os, E1[k]? = some (some (.lst os)) ∧ os.length < 16777216 ∧ Q .nx (E1.set k (some (.lst (os ++ [.dt d]))))) X := by
  unfold mAppendV
  split
  · next os h =>
    rw [wp_bind]
    constructor
    · intro q; refine ⟨os, h, q.mono fun d E1 q => ?_⟩
      split at q
      · next os h =>
        split at q
        · next c => exact ⟨os, h, c, q⟩
        · exact q.elim
      · exact q.elim
    · intro ⟨_, _, q⟩; refine q.mono fun d E1 q => ?_
      obtain ⟨os, h, c, q⟩ := q
      rw [h]; simp only [if_pos c]; exact q
  · next h => exact ⟨fun q => q.elim, fun ⟨_, h', q⟩ => (h _ h').elim⟩
theorem wp_appendO {k : Nat} : Wp (mAppendO k mo E) Q X ↔ ∃ os, E[k]? = some (some (.lst os)) ∧ Wp (mo E) (fun d E1 => ∃ os, E1[k]? = some (some (.lst os)) ∧ os.length < 16777216 ∧ Q .nx (E1.set k (some (.lst (os ++ [d]))))) X := by
  unfold mAppendO
  split
  · next os h =>
    rw [wp_bind]
    constructor
    · intro q; refine ⟨os, h, q.mono fun d E1 q => ?_⟩
      split at q
      · next os h =>
        split at q
        · next c => exact ⟨os, h, c, q⟩
        · exact q.elim
      · exact q.elim
    · intro ⟨_, _, q⟩; refine q.mono fun d E1 q => ?_
      obtain ⟨os, h, c, q⟩ := q
      rw [h]; simp only [if_pos c]; exact q
  · next h => exact ⟨fun q => q.elim, fun ⟨_, h', q⟩ => (h _ h').elim⟩
theorem wp_append : Wp (mAppend mp f E) Q X ↔ WO (mp E) fun kp => WO (f E) fun d => WO (nodeE E kp.1 kp.2) fun n => ∃ os, n = .lst os ∧ os.length < 16777216 ∧ Q .nx (putE E kp.1 kp.2 (.lst (os ++ [.dt d]))) := by
  unfold mAppend
  cases e : mp E with
  | none => simp [WO, Wp]
  | some kp =>
    obtain ⟨k, π⟩ := kp
    cases g : f E with
    | none => simp [WO, Wp]
    | some d =>
      simp only [wo_some]
      cases h : nodeE E k π with
      | none => exact Iff.rfl
      | some n =>
        simp only [wo_some]
        cases n with
        | lst os => simp only [O.lst.injEq, exists_eq_left', wp_ifno, wp_ok]
        | _ => simp [Wp]
theorem wp_setIx : Wp (mSetIx mp f ma E) Q X ↔ Wp (ma E) (fun d E1 => WO (mp E1) fun kp => WO (f E1) fun y => ∃ i, y = .int i ∧ WO (nodeE E1 kp.1 kp.2) fun n => ∃ os, n = .lst os ∧ WO (ixN os.length i) fun j => Q .nx (putE E1 kp.1 kp.2 (.lst (os.set j (.dt d))))) X := by
  unfold mSetIx
  rw [wp_bind]
  have key : ∀ d E1, Wp (match mp E1, f E1 with
    | some (k, π), some (.int i) => (match nodeE E1 k π with
      | some (.lst os) => (match ixN os.length i with
        | some j => .ok .nx (putE E1 k π (.lst (os.set j (.dt d))))
        | none => .no)
      | _ => .no)
    | _, _ => .no) Q X ↔ WO (mp E1) fun kp => WO (f E1) fun y => ∃ i, y = .int i ∧ WO (nodeE E1 kp.1 kp.2) fun n => ∃ os, n = .lst os ∧ WO (ixN os.length i) fun j => Q .nx (putE E1 kp.1 kp.2 (.lst (os.set j (.dt d)))) := by
    intro d E1
    cases e : mp E1 with
    | none => simp [WO, Wp]
    | some kp =>
      obtain ⟨k, π⟩ := kp
      cases g : f E1 with
      | none => simp [WO, Wp]
      | some y =>
        simp only [wo_some]
        cases y with
        | int i =>
          simp only [PyData.int.injEq, exists_eq_left']
          cases h : nodeE E1 k π with
          | none => exact Iff.rfl
          | some n =>
            simp only [wo_some]
            cases n with
            | lst os =>
              simp only [O.lst.injEq, exists_eq_left']
              cases ixN os.length i <;> exact Iff.rfl
            | _ => simp [Wp]
        | _ => simp [Wp]
  constructor <;> intro h <;> refine h.mono fun d E1 h => ?_
  · exact (key d E1).mp h
  · exact (key d E1).mpr h
theorem wp_augIx {g : D → D → Option D} : Wp (mAugIx g mp f fe E) Q X ↔ WO (mp E) fun kp => WO (f E) fun y => ∃ i, y = .int i ∧ WO (fe E) fun d => WO (nodeE E kp.1 kp.2) fun n => ∃ os, n = .lst os ∧ WO (ixN os.length i) fun j => ∃ x, os[j]? = some (.dt x) ∧ WO (g x d) fun z => scalD z = true ∧ Q .nx (putE E kp.1 kp.2 (.lst (os.set j (.dt z)))) := by
  unfold mAugIx
  cases e : mp E with
  | none => simp [WO, Wp]
  | some kp =>
    obtain ⟨k, π⟩ := kp
    cases h1 : f E with
    | none => simp [WO, Wp]
    | some y =>
      simp only [wo_some]
      cases y with
      | int i =>
        simp only [PyData.int.injEq, exists_eq_left']
        cases h2 : fe E with
        | none => simp [WO, Wp]
        | some d =>
          simp only [wo_some]
          cases h : nodeE E k π with
          | none => exact Iff.rfl
          | some n =>
            simp only [wo_some]
            cases n with
            | lst os =>
              simp only [O.lst.injEq, exists_eq_left']
              cases ixN os.length i with
              | none => exact Iff.rfl
              | some j =>
                simp only [wo_some]
                cases q : os[j]? with
                | none => simp [Wp]
                | some x =>
                  cases x with
                  | dt x =>
                    simp only [Option.some.injEq, O.dt.injEq, exists_eq_left']
                    cases g x d with
                    | none => exact Iff.rfl
                    | some z => simp only [wo_some, wp_ifno, wp_ok]
                  | _ => simp [Wp]
            | _ => simp [Wp]
      | _ => simp [Wp]
theorem wp_aug {g : D → D → Option D} {i : Nat} : Wp (mAug g i ma E) Q X ↔ ∃ x, E[i]? = some (some (.dt x)) ∧ Wp (ma E) (fun y E1 => WO (g x y) fun z => i < E1.length ∧ Q .nx (E1.set i (some (.dt z)))) X := by
  unfold mAug
  split
  · next x h =>
    rw [wp_bind]
    constructor
    · intro q; refine ⟨x, h, q.mono fun d E1 q => ?_⟩
      cases e : g x d with
      | none => rw [e] at q; exact q
      | some z => rw [e] at q; exact (wp_ifno.mp q)
    · intro ⟨x', h', q⟩; rw [h] at h'; cases h'
      refine q.mono fun d E1 q => ?_
      cases e : g x d with
      | none => rw [e] at q; exact q
      | some z => rw [e] at q; exact (wp_ifno.mpr q)
  · next h => exact ⟨fun q => q.elim, fun ⟨_, h', q⟩ => (h _ h').elim⟩
theorem wp_par {bs : List (O → En → Option En)} : Wp (mPar bs mL E) Q X ↔ Wp (mL E) (fun os E1 => WO (setB bs os E1) fun E2 => Q .nx E2) X := by
  unfold mPar; rw [wp_bind]
  constructor <;> intro h <;> refine h.mono fun d E1 h => ?_
  · cases e : setB bs d E1 <;> rw [e] at h <;> exact h
  · cases e : setB bs d E1 <;> rw [e] at h <;> exact h
theorem wo_setB0 {P : En → Prop} : WO (setB [] [] E) P ↔ P E := Iff.rfl
theorem wo_setB1 {P : En → Prop} {b : O → En → Option En} {bs : List (O → En → Option En)} {o : O} {os : List O} : WO (setB (b :: bs) (o :: os) E) P ↔ WO (b o E) fun E1 => WO (setB bs os E1) P := by
  show WO ((b o E).bind (setB bs os)) P ↔ _
  rw [wo_bind]
theorem wo_bNameO {P : En → Prop} {i : Nat} {o : O} : WO (bNameO i o E) P ↔ i < E.length ∧ P (E.set i (some o)) := by
  unfold bNameO; rw [wo_if]
theorem wo_bName {P : En → Prop} {i : Nat} {d : D} : WO (bName i d E) P ↔ i < E.length ∧ P (E.set i (some (.dt d))) := by
  unfold bName; rw [wo_if]
theorem wo_bTup {P : En → Prop} {is : List Nat} {d : D} : WO (bTup is d E) P ↔ ∃ ds, d = .tuple ds ∧ WO (setAll is ds E) P := by
  unfold bTup
  cases d <;> simp [WO]
theorem wo_bLst {P : En → Prop} {is : List Nat} {d : D} : WO (bLst is d E) P ↔ ∃ ds, d = .list ds ∧ WO (setAll is ds E) P := by
  unfold bLst
  cases d <;> simp [WO]
theorem wo_setAll0 {P : En → Prop} : WO (setAll [] [] E) P ↔ P E := Iff.rfl
theorem wo_setAll1 {P : En → Prop} {i : Nat} {is : List Nat} {d : D} {ds : List D} : WO (setAll (i :: is) (d :: ds) E) P ↔ i < E.length ∧ WO (setAll is ds (E.set i (some (.dt d)))) P := by
  show WO (if i < E.length then setAll is ds (E.set i (some (.dt d))) else none) P ↔ _
  by_cases h : i < E.length
  · rw [if_pos h]; exact ⟨fun q => ⟨h, q⟩, fun q => q.2⟩
  · rw [if_neg h]; exact ⟨fun q => q.elim, fun q => h q.1⟩
theorem wo_bSetIx {P : En → Prop} {o : O} : WO (bSetIx mp f o E) P ↔ ∃ d, o = .dt d ∧ WO (mp E) fun kp => WO (f E) fun y => ∃ i, y = .int i ∧ WO (nodeE E kp.1 kp.2) fun n => ∃ os, n = .lst os ∧ WO (ixN os.length i) fun j => P (putE E kp.1 kp.2 (.lst (os.set j (.dt d)))) := by
  unfold bSetIx
  cases o with
  | dt d =>
    simp only [O.dt.injEq, exists_eq_left']
    cases e : mp E with
    | none => simp [WO]
    | some kp =>
      obtain ⟨k, π⟩ := kp
      cases h1 : f E with
      | none => simp [WO]
      | some y =>
        simp only [wo_some]
        cases y with
        | int i =>
          simp only [PyData.int.injEq, exists_eq_left']
          cases h : nodeE E k π with
          | none => exact Iff.rfl
          | some n =>
            simp only [wo_some]
            cases n with
            | lst os =>
              simp only [O.lst.injEq, exists_eq_left']
              cases ixN os.length i <;> exact Iff.rfl
            | _ => simp [WO]
        | _ => simp [WO]
  | _ => simp [WO]
theorem wp_asgD {bd : D → En → Option En} : Wp (mAsgD bd ma E) Q X ↔ Wp (ma E) (fun d E1 => WO (bd d E1) fun E2 => Q .nx E2) X := by
  unfold mAsgD; rw [wp_bind]
  constructor <;> intro h <;> refine h.mono fun d E1 h => ?_
  · cases e : bd d E1 <;> rw [e] at h <;> exact h
  · cases e : bd d E1 <;> rw [e] at h <;> exact h
theorem wp_fldO {i : Nat} {c g : Str} : Wp (mFldO i c g mo E) Q X ↔ Wp (mo E) (fun o E1 => ∃ fs, E1[i]? = some (some (.ins c fs)) ∧ fs.length < 1000 ∧ Q .nx (E1.set i (some (.ins c (fSet g o fs))))) X := by
  unfold mFldO; rw [wp_bind]
  constructor <;> intro h <;> refine h.mono fun d E1 h => ?_
  · split at h
    · next c' fs e =>
      split at h
      · next k => obtain ⟨k1, k2⟩ := k; subst k1; exact ⟨fs, e, k2, h⟩
      · exact h.elim
    · exact h.elim
  · obtain ⟨fs, e, k, h⟩ := h
    rw [e]; simp only [k, and_self, if_true]; exact h
theorem wp_alias {k s : Nat} {rest : M Out} : Wp (mAlias k s mp rest E) Q X ↔ WO (mp E) fun kp => kp.1 = k ∧ s ≠ k ∧ s < E.length ∧ ∃ o, E[k]? = some (some o) ∧ WO (nodeE E k kp.2) fun n => Wp (rest ((E.set k none).set s (some n))) (fun out E2 => ∃ n2, E2[s]? = some (some n2) ∧ k < E2.length ∧ Q out ((E2.set s none).set k (some (o.put kp.2 n2)))) XF := by
  unfold mAlias
  cases e : mp E with
  | none => exact Iff.rfl
  | some kp =>
    obtain ⟨k', π⟩ := kp
    simp only [wo_some]
    by_cases c : k' = k ∧ s ≠ k ∧ s < E.length
    · rw [if_pos c]
      obtain ⟨c1, c2, c3⟩ := c
      simp only [c1, c2, c3, ne_eq, not_false_eq_true, true_and]
      cases h : E[k]? with
      | none => simp [Wp]
      | some z =>
        cases z with
        | none => simp [Wp]
        | some o =>
          simp only [Option.some.injEq, exists_eq_left']
          cases h2 : nodeE E k π with
          | none => exact Iff.rfl
          | some n =>
            simp only [wo_some]
            cases h3 : rest ((E.set k none).set s (some n)) with
            | ok out E2 =>
              simp only [wp_ok]
              cases h4 : E2[s]? with
              | none => simp [Wp]
              | some z =>
                cases z with
                | none => simp [Wp]
                | some n2 => simp only [Option.some.injEq, exists_eq_left', wp_ifno, wp_ok]
            | exc c fs F => exact Iff.rfl
            | no => exact Iff.rfl
    · rw [if_neg c]
      exact ⟨fun h => h.elim, fun ⟨h1, h2, h3, _⟩ => (c ⟨h1, h2, h3⟩).elim⟩
theorem wp_pair {p : Nat} {rest : M Out} : Wp (mPair p ma rest E) Q X ↔ Wp (ma E) (fun d E1 => p < E1.length ∧ Wp (rest (E1.set p (some (.dt d)))) Q X) X := by
  unfold mPair; rw [wp_bind]; simp only [wp_ifno]
def finQ (fl : List Bool) (Q : O → En → Prop) : Out → En → Prop := fun o E => match o with
  | .nx => Q (.dt .none) (keepE fl E)
  | .rt o => Q o (keepE fl E)
  | _ => False
theorem finQ_nx {fl : List Bool} {Q : O → En → Prop} : finQ fl Q .nx E ↔ Q (.dt .none) (keepE fl E) := Iff.rfl
theorem finQ_rt {fl : List Bool} {Q : O → En → Prop} {o : O} : finQ fl Q (.rt o) E ↔ Q o (keepE fl E) := Iff.rfl
theorem finQ_br {fl : List Bool} {Q : O → En → Prop} : finQ fl Q .br E ↔ False := Iff.rfl
theorem finQ_ct {fl : List Bool} {Q : O → En → Prop} : finQ fl Q .ct E ↔ False := Iff.rfl
theorem wp_fn {fl : List Bool} {n : Nat} {body : M Out} {os : List O} {Q : O → En → Prop} : Wp (mFn fl n body os) Q X ↔ os.length = fl.length ∧ Wp (body (os.map some ++ List.replicate (n - fl.length) none)) (finQ fl Q) (fun c fs E => X c fs (keepE fl E)) := by
  unfold mFn
  rw [wp_ifno]
  refine and_congr_right fun _ => ?_
  unfold fin
  cases h : body (os.map some ++ List.replicate (n - fl.length) none) with
  | ok o F => cases o <;> exact Iff.rfl
  | exc c fs F => exact Iff.rfl
  | no => exact Iff.rfl
end
end

/-! ### the rules by which a reading is walked -/
def slD (E : En) (i : Nat) : Option D := match E[i]? with
  | some (some (.dt d)) => some d
  | _ => none
def slO (E : En) (i : Nat) : Option O := match E[i]? with
  | some (some o) => some o
  | _ => none
def asB : D → Option Bool
  | .bool b => some b
  | _ => none
def asI : D → Option Int
  | .int i => some i
  | _ => none
def asTD : D → Option (List D)
  | .tuple ds => some ds
  | _ => none
def asLD : D → Option (List D)
  | .list ds => some ds
  | _ => none
def asSD : D → Option (List D)
  | .list ds => some ds
  | .dict [(.none, .list ds)] => some ds
  | _ => none
def asL : O → Option (List O)
  | .lst os => some os
  | _ => none
def asDt : O → Option D
  | .dt d => some d
  | _ => none
def asIns (c : Str) : O → Option (List (Str × O))
  | .ins c' fs => if c' = c then some fs else none
  | _ => none
def stE : En → Nat → Option O → Option En
  | [], _, _ => none
  | _ :: E, 0, x => some (x :: E)
  | e :: E, i + 1, x => (stE E i x).map (e :: ·)
def WPl (mp : En → Option (Nat × List PSt)) (E : En) (P : Nat → List PSt → Prop) : Prop := WO (mp E) fun kp => P kp.1 kp.2
def WE {α : Type} (E : α) (P : α → Prop) : Prop := P E
section
variable {X : Str → List (Str × D) → En → Prop} {E : En} {P : D → Prop} {PO : O → Prop} {PL : List D → Prop} {PLO : List O → Prop}
theorem wo_slD {i : Nat} : WO (slD E i) P ↔ ∃ d, E[i]? = some (some (.dt d)) ∧ P d := by
  unfold slD
  split
  · next d h => exact ⟨fun q => ⟨d, h, q⟩, fun ⟨d', h', q⟩ => by rw [h] at h'; cases h'; exact q⟩
  · next h => exact ⟨fun q => q.elim, fun ⟨d', h', q⟩ => (h _ h').elim⟩
theorem wo_slO {i : Nat} : WO (slO E i) PO ↔ ∃ d, E[i]? = some (some d) ∧ PO d := by
  unfold slO
  split
  · next d h => exact ⟨fun q => ⟨d, h, q⟩, fun ⟨d', h', q⟩ => by rw [h] at h'; cases h'; exact q⟩
  · next h => exact ⟨fun q => q.elim, fun ⟨d', h', q⟩ => (h _ h').elim⟩
theorem wo_slLst {i : Nat} : WO (slO E i) (fun o => WO (asL o) PLO) ↔ ∃ d, E[i]? = some (some (.lst d)) ∧ PLO d := by
  rw [wo_slO]
  constructor
  · intro ⟨d, h, q⟩
    cases d with
    | lst os => exact ⟨os, h, q⟩
    | _ => exact q.elim
  · intro ⟨d, h, q⟩; exact ⟨_, h, q⟩
theorem wo_asB {P : Bool → Prop} {d : D} : WO (asB d) P ↔ ∃ b, d = .bool b ∧ P b := by cases d <;> simp [asB, WO]
theorem wo_asI {P : Int → Prop} {d : D} : WO (asI d) P ↔ ∃ b, d = .int b ∧ P b := by cases d <;> simp [asI, WO]
theorem wo_asTD {d : D} : WO (asTD d) PL ↔ ∃ b, d = .tuple b ∧ PL b := by cases d <;> simp [asTD, WO]
theorem wo_asLD {d : D} : WO (asLD d) PL ↔ ∃ b, d = .list b ∧ PL b := by cases d <;> simp [asLD, WO]
theorem wo_asSD {d : D} : WO (asSD d) PL ↔ ∃ b, (d = .list b ∨ d = .dict [(.none, .list b)]) ∧ PL b := by
  unfold asSD
  split
  · simp [WO]
  · simp [WO]
  · next h1 h2 => exact ⟨fun q => q.elim, fun ⟨b, q, _⟩ => by
    rcases q with q | q
    · exact (h1 _ q).elim
    · exact (h2 _ q).elim⟩
theorem wo_asL {o : O} : WO (asL o) PLO ↔ ∃ b, o = .lst b ∧ PLO b := by cases o <;> simp [asL, WO]
theorem wo_asDt {o : O} : WO (asDt o) P ↔ ∃ b, o = .dt b ∧ P b := by cases o <;> simp [asDt, WO]
theorem wo_asIns {P : List (Str × O) → Prop} {c : Str} {o : O} : WO (asIns c o) P ↔ ∃ b, o = .ins c b ∧ P b := by
  cases o with
  | ins c' fs =>
    by_cases h : c' = c
    · subst h; simp [asIns, WO]
    · simp [asIns, WO, h]
  | _ => simp [asIns, WO]
theorem stE_eq : ∀ {E : En} {i : Nat} {x : Option O}, stE E i x = if i < E.length then some (E.set i x) else none
  | [], i, x => by simp [stE]
  | e :: E, 0, x => by simp [stE]
  | e :: E, i + 1, x => by
    show (stE E i x).map (e :: ·) = _
    rw [stE_eq]
    by_cases h : i < E.length <;> simp [h]
theorem wo_stE {P : En → Prop} {i : Nat} {x : Option O} : WO (stE E i x) P ↔ i < E.length ∧ P (E.set i x) := by rw [stE_eq, wo_if]
theorem w_slD0 {d : D} (h : P d) : WO (slD (some (.dt d) :: E) 0) P := h
theorem w_slDS {e : Option O} {i : Nat} (h : WO (slD E i) P) : WO (slD (e :: E) (i + 1)) P := by
  rw [wo_slD] at h ⊢; simpa using h
theorem w_slO0 {d : O} (h : PO d) : WO (slO (some d :: E) 0) PO := h
theorem w_slOS {e : Option O} {i : Nat} (h : WO (slO E i) PO) : WO (slO (e :: E) (i + 1)) PO := by
  rw [wo_slO] at h ⊢; simpa using h
theorem w_stE0 {P : En → Prop} {e x : Option O} (h : P (x :: E)) : WO (stE (e :: E) 0 x) P := h
theorem w_stES {P : En → Prop} {e x : Option O} {i : Nat} (h : WO (stE E i x) fun F => P (e :: F)) : WO (stE (e :: E) (i + 1) x) P := by
  show WO ((stE E i x).map (e :: ·)) P; rw [wo_map]; exact h
theorem w_asB {P : Bool → Prop} {b : Bool} (h : P b) : WO (asB (.bool b)) P := h
theorem w_asI {P : Int → Prop} {b : Int} (h : P b) : WO (asI (.int b)) P := h
theorem w_asTD {ds : List D} (h : PL ds) : WO (asTD (.tuple ds)) PL := h
theorem w_asLD {ds : List D} (h : PL ds) : WO (asLD (.list ds)) PL := h
theorem w_asSD {ds : List D} (h : PL ds) : WO (asSD (.list ds)) PL := h
theorem w_asSS {ds : List D} (h : PL ds) : WO (asSD (.dict [(.none, .list ds)])) PL := h
theorem w_asL {os : List O} (h : PLO os) : WO (asL (.lst os)) PLO := h
theorem w_asDt {d : D} (h : P d) : WO (asDt (.dt d)) P := h
theorem w_asIns {P : List (Str × O) → Prop} {c : Str} {fs : List (Str × O)} (h : P fs) : WO (asIns c (.ins c fs)) P := wo_asIns.mpr ⟨fs, rfl, h⟩
/-! slots put, forgotten, hidden -/
section
variable {P : En → Prop}
theorem w_set0 {e x : Option O} (h : P (x :: E)) : WE ((e :: E).set 0 x) P := h
theorem w_setS {e x : Option O} {i : Nat} (h : WE (E.set i x) fun F => P (e :: F)) : WE ((e :: E).set (i + 1) x) P := h
theorem w_kill0 (h : P E) : WE (killE [] E) P := h
theorem w_kill1 {i : Nat} {ks : List Nat} (h : WE (E.set i none) fun F => WE (killE ks F) P) : WE (killE (i :: ks) E) P := h
theorem w_keep0 (h : P []) : WE (keepE [] E) P := h
theorem w_keepT {bs : List Bool} {e : Option O} (h : WE (keepE bs E) fun F => P (e :: F)) : WE (keepE (true :: bs) (e :: E)) P := h
theorem w_keepF {bs : List Bool} {e : Option O} (h : WE (keepE bs E) fun F => P (none :: F)) : WE (keepE (false :: bs) (e :: E)) P := h
theorem w_hide0 (h : P []) : WE (hideE []) P := h
theorem w_hideN (h : WE (hideE E) fun F => P (none :: F)) : WE (hideE (none :: E)) P := h
theorem w_hideD {d : D} (h : WE (hideE E) fun F => P (some (.dt d) :: F)) : WE (hideE (some (.dt d) :: E)) P := h
theorem w_hideL {xs : List O} (h : WE (hideE E) fun F => P (none :: F)) : WE (hideE (some (.lst xs) :: E)) P := h
theorem w_hideT {xs : List O} (h : WE (hideE E) fun F => P (none :: F)) : WE (hideE (some (.tup xs) :: E)) P := h
theorem w_hideI {c : Str} {xs : List (Str × O)} (h : WE (hideE E) fun F => P (none :: F)) : WE (hideE (some (.ins c xs) :: E)) P := h
theorem w_frz0 (h : P []) : WE (frzE []) P := h
theorem w_frzN (h : WE (frzE E) fun F => P (none :: F)) : WE (frzE (none :: E)) P := h
theorem w_frzD {d : D} (h : WE (frzE E) fun F => P (some (.dt d) :: F)) : WE (frzE (some (.dt d) :: E)) P := by
  have e : frzE (some (.dt d) :: E) = some (.dt d) :: frzE E := by
    show (some (O.dt d)).bind (fun o => (o.toD.map O.dt)) :: frzE E = _
    show (O.toD (.dt d)).map O.dt :: frzE E = _
    unfold O.toD; rfl
  rw [e]; exact h
theorem w_frzI {c : Str} {xs : List (Str × O)} (h : WE (frzE E) fun F => P (none :: F)) : WE (frzE (some (.ins c xs) :: E)) P := by
  have e : frzE (some (.ins c xs) :: E) = none :: frzE E := by
    show (O.toD (.ins c xs)).map O.dt :: frzE E = _
    unfold O.toD; rfl
  rw [e]; exact h
theorem w_frzO {o : O} (h : WE (o.toD.map O.dt) fun e => WE (frzE E) fun F => P (e :: F)) : WE (frzE (some o :: E)) P := h
theorem w_back0 {es : En} (h : P E) : WE (backE E [] es) P := by cases es <;> exact h
theorem w_backD {x : D} {r : List Arg} {e : Option O} {es : En} (h : WE (backE E r es) P) : WE (backE E (.d x :: r) (e :: es)) P := h
theorem w_backS {i : Nat} {r : List Arg} {e : Option O} {es : En} (h : WE (E.set i e) fun F => WE (backE F r es) P) : WE (backE E (.s i :: r) (e :: es)) P := h
theorem w_put {k : Nat} {π : List PSt} {x : O} (h : WO (slO E k) fun o => WE (o.put π x) fun y => WE (E.set k (some y)) P) : WE (putE E k π x) P := by
  rw [wo_slO] at h
  obtain ⟨o, h1, h2⟩ := h
  show P (putE E k π x)
  unfold putE
  rw [h1]; exact h2
theorem w_put0 {PO : O → Prop} {o x : O} (h : PO x) : WE (o.put [] x) PO := by
  have e : o.put [] x = x := by cases o <;> rfl
  rw [e]; exact h
theorem w_putIx {PO : O → Prop} {os : List O} {j : Nat} {π : List PSt} {x : O} (h : WO os[j]? fun o => WE (o.put π x) fun y => PO (.lst (os.set j y))) : WE ((O.lst os).put (.ix j :: π) x) PO := by
  show PO (match os[j]? with | some o => .lst (os.set j (o.put π x)) | none => .lst os)
  cases e : os[j]? with
  | none => rw [e] at h; exact h.elim
  | some o => rw [e] at h; exact h
theorem w_putFld {PO : O → Prop} {c f : Str} {fs : List (Str × O)} {π : List PSt} {x : O} (h : WO (fGet f fs) fun o => WE (o.put π x) fun y => WE (fPut f y fs) fun gs => PO (.ins c gs)) : WE ((O.ins c fs).put (.fld f :: π) x) PO := by
  show PO (match fGet f fs with | some o => .ins c (fPut f (o.put π x) fs) | none => .ins c fs)
  cases e : fGet f fs with
  | none => rw [e] at h; exact h.elim
  | some o => rw [e] at h; exact h
theorem w_fGet0 {PO : O → Prop} {f : Str} {o : O} {r : List (Str × O)} (h : PO o) : WO (fGet f ((f, o) :: r)) PO := by
  show WO (if f = f then some o else fGet f r) PO
  rw [if_pos rfl]; exact h
theorem w_fPut0 {PF : List (Str × O) → Prop} {f : Str} {o x : O} {r : List (Str × O)} (h : PF ((f, x) :: r)) : WE (fPut f x ((f, o) :: r)) PF := by
  show PF (if f = f then (f, x) :: r else _)
  rw [if_pos rfl]; exact h
end
/-! data -/
section
variable {Q : D → En → Prop} {ma mb mc : M D} {mo : M O} {mt : M Bool} {mA : M (List Arg)} {mp : En → Option (Nat × List PSt)}
theorem w_var {i : Nat} (h : WO (slD E i) fun d => Q d E) : Wp (mVar i E) Q X := by rw [wp_var, ← wo_slD]; exact h
theorem w_c {d : D} (h : Q d E) : Wp (mC d E) Q X := h
theorem w_m1 {f : D → Option D} (h : Wp (ma E) (fun x E1 => WO (f x) fun z => Q z E1) X) : Wp (m1 f ma E) Q X := wp_m1.mpr h
theorem w_m2 {f : D → D → Option D} (h : Wp (ma E) (fun x E1 => Wp (mb E1) (fun y E2 => WO (f x y) fun z => Q z E2) X) X) : Wp (m2 f ma mb E) Q X := wp_m2.mpr h
theorem w_andV (h : Wp (ma E) (fun x E1 => WO (asB x) fun b => if b = true then Wp (mb E1) Q X else Q (.bool false) E1) X) : Wp (mAndV ma mb E) Q X := by
  rw [wp_andV]; simpa only [wo_asB] using h
theorem w_orV (h : Wp (ma E) (fun x E1 => WO (asB x) fun b => if b = true then Q (.bool true) E1 else Wp (mb E1) Q X) X) : Wp (mOrV ma mb E) Q X := by
  rw [wp_orV]; simpa only [wo_asB] using h
theorem w_notV (h : Wp (ma E) (fun x E1 => WO (asB x) fun b => Q (.bool !b) E1) X) : Wp (mNotV ma E) Q X := by
  rw [wp_notV]; simpa only [wo_asB] using h
theorem w_if (h : Wp (mt E) (fun k E1 => if k = true then Wp (ma E1) Q X else Wp (mb E1) Q X) X) : Wp (mIf mt ma mb E) Q X := wp_if.mpr h
theorem w_fz (h : Wp (mo E) (fun o E1 => WO o.toD fun d => Q d E1) X) : Wp (mFz mo E) Q X := wp_fz.mpr h
theorem w_frzV {i : Nat} (h : WO (slO E i) fun o => WO o.toD fun d => WE (E.set i (some (.dt d))) fun E1 => Q d E1) : Wp (mFrzV i E) Q X := by rw [wp_frzV, ← wo_slO]; exact h
theorem w_eye (h : WE (frzE E) fun F => Wp (ma F) (fun d _ => scalD d = true ∧ Q d E) XF) : Wp (mEye ma E) Q X := wp_eye.mpr h
theorem w_pu {f : En → Option D} (h : WO (f E) fun d => Q d E) : Wp (mPu f E) Q X := wp_pu.mpr h
theorem w_hide (h : WE (hideE E) fun F => Wp (ma F) (fun d _ => Q d E) XF) : Wp (mHide ma E) Q X := wp_hide.mpr h
theorem w_disp {f : List D → D} (h : Wp (mA E) (fun as E1 => WO (argsD as) fun ds => ds.length ≤ 16777216 ∧ Q (f ds) E1) X) : Wp (mDisp f mA E) Q X := wp_disp.mpr h
theorem w_callD {f : List D → Option D} (h : Wp (mA E) (fun as E1 => WO (argsD as) fun ds => WO (f ds) fun d => Q d E1) X) : Wp (mCallD f mA E) Q X := wp_callD.mpr h
theorem w_isi {T : String} (h : Wp (ma E) (fun d E1 => WO (isD T d) fun b => Q (.bool b) E1) X) : Wp (mIsi T ma E) Q X := wp_isi.mpr h
theorem w_chain {f g : D → D → Option D} (h : Wp (ma E) (fun x E1 => Wp (mb E1) (fun y E2 => WO (f x y) fun z => WO (asB z) fun b => if b = true then Wp (mc E2) (fun z E3 => WO (g y z) fun q => Q q E3) X else Q (.bool false) E2) X) X) : Wp (mChain f g ma mb mc E) Q X := by
  rw [wp_chain]; simpa only [wo_asB] using h
theorem w_sl {ml mh : M (Option Int)} (h : Wp (ma E) (fun x E1 => Wp (ml E1) (fun lo E2 => Wp (mh E2) (fun hi E3 => WO (pSl x lo hi) fun d => Q d E3) X) X) X) : Wp (mSl ma ml mh E) Q X := wp_sl.mpr h
theorem w_frzPl (h : WPl mp E fun k' π => WO (slO E k') fun o => WO (o.get π) fun n => WO n.toD fun d => WE (o.put π (.dt d)) fun y => WE (E.set k' (some y)) fun E1 => Q d E1) : Wp (mFrzPl mp E) Q X := by
  unfold WPl at h
  rw [wp_frzPl]; simp only [← wo_slO]; exact h
theorem w_pop (h : WPl mp E fun k' π => WO (nodeE E k' π) fun n => WO (asL n) fun os => WO os[os.length - 1]? fun q => WO (asDt q) fun d => WE (putE E k' π (.lst os.dropLast)) fun E1 => Q d E1) : Wp (mPop mp E) Q X := by
  unfold WPl at h
  rw [wp_pop]
  refine WO.mono h fun kp h => WO.mono h fun n h => ?_
  rw [wo_asL] at h
  obtain ⟨os, e, h⟩ := h
  rw [wo_iff] at h
  obtain ⟨q, e2, h⟩ := h
  rw [wo_asDt] at h
  obtain ⟨d, e3, h⟩ := h
  exact ⟨os, e, d, by rw [e2, e3], h⟩
end
/-! owned -/
section
variable {Q : O → En → Prop} {ma mb mc : M D} {mo mo2 : M O} {mt : M Bool} {mA : M (List Arg)} {mL : M (List O)}
theorem w_ifO (h : Wp (mt E) (fun k E1 => if k = true then Wp (mo E1) Q X else Wp (mo2 E1) Q X) X) : Wp (mIfO mt mo mo2 E) Q X := wp_ifO.mpr h
theorem w_dt (h : Wp (ma E) (fun d E1 => Q (.dt d) E1) X) : Wp (mDt ma E) Q X := wp_dt.mpr h
theorem w_lstO (h : Wp (mA E) (fun as E1 => WO (argsD as) fun ds => ds.length ≤ 16777216 ∧ Q (.lst (ds.map .dt)) E1) X) : Wp (mLstO mA E) Q X := wp_lstO.mpr h
theorem w_lstOO (h : Wp (mL E) (fun os E1 => os.length ≤ 16777216 ∧ Q (.lst os) E1) X) : Wp (mLstOO mL E) Q X := wp_lstOO.mpr h
theorem w_tupOO (h : Wp (mL E) (fun os E1 => os.length ≤ 16777216 ∧ Q (.tup os) E1) X) : Wp (mTupOO mL E) Q X := wp_tupOO.mpr h
theorem w_m2O {f : D → D → Option (List D)} (h : Wp (ma E) (fun x E1 => Wp (mb E1) (fun y E2 => WO (f x y) fun z => Q (.lst (z.map .dt)) E2) X) X) : Wp (m2O f ma mb E) Q X := wp_m2O.mpr h
theorem w_callO {f : List D → Option (List D)} (h : Wp (mA E) (fun as E1 => WO (argsD as) fun ds => WO (f ds) fun d => Q (.lst (d.map .dt)) E1) X) : Wp (mCallO f mA E) Q X := wp_callO.mpr h
theorem w_mv {i : Nat} (h : WO (slO E i) fun o => WE (E.set i none) fun E1 => Q o E1) : Wp (mMv i E) Q X := by rw [wp_mv, ← wo_slO]; exact h
theorem w_call {run : List O → Rs O} (h : Wp (mA E) (fun as E1 => (slotsA as).length ≤ 1 ∧ WO (argsO E1 as) fun os => Wp (run os) (fun r es => WE (backE E1 as es) fun E2 => Q r E2) (fun c fs es => WE (backE E1 as es) fun E2 => X c fs E2)) X) : Wp (mCall run mA E) Q X := wp_call.mpr h
theorem w_meth {i : Nat} {c m : Str} {run : List O → Rs O} (h : WO (slO E i) fun o => WO (asIns c o) fun fs => fGet m fs = none ∧ Wp (mCall run (mArgS i mA) E) Q X) : Wp (mMeth i c m run mA E) Q X := by
  rw [wp_meth]
  rw [wo_slO] at h
  obtain ⟨o, h1, h⟩ := h
  rw [wo_asIns] at h
  obtain ⟨fs, e, h⟩ := h
  exact ⟨fs, by rw [h1, e], h⟩
theorem w_make {c : Str} {run : List O → Rs O} (h : Wp (mA E) (fun as E1 => WO (argsD as) fun ds => Wp (run (.ins c [] :: ds.map .dt)) (fun r es => r = .dt .none ∧ WO (slO es 0) fun o => Q o E1) (fun c fs _ => X c fs E1)) X) : Wp (mMake c run mA E) Q X := by
  rw [wp_make]
  refine h.mono fun as E1 h => WO.mono h fun ds h => h.mono fun r es h => ⟨h.1, ?_⟩
  replace h := h.2
  rw [wo_slO] at h
  obtain ⟨o, e, h⟩ := h
  cases es with
  | nil => simp at e
  | cons z zs => simp at e; subst e; exact ⟨o, zs, rfl, h⟩
theorem w_lc {vs : List Nat} {mi : M (List D)} {bd : D → En → Option En} {me : M O} (h : Wp (mi E) (fun ds E1 => WE (killE vs E1) fun E2 => Wp (lcL vs bd mt me ds [] E2) Q X) X) : Wp (mLc vs mi bd mt me E) Q X := wp_lc.mpr h
theorem w_lc2 {vs vs1 : List Nat} {mi mi1 : M (List D)} {bd bd1 : D → En → Option En} {mt1 : M Bool} {me : M D} (h : Wp (mi E) (fun ds E1 => WE (killE vs E1) fun E2 => WO (lc2Out vs vs1 bd mt mi1 bd1 mt1 me ds [] E2) fun p => Q (.lst (p.1.map .dt)) p.2) X) : Wp (mLc2 vs vs1 mi bd mt mi1 bd1 mt1 me E) Q X := wp_lc2.mpr h
theorem w_nilO {Q : List O → En → Prop} (h : Q [] E) : Wp (mNilO E) Q X := h
theorem w_consO {Q : List O → En → Prop} (h : Wp (mo E) (fun o E1 => Wp (mL E1) (fun os E2 => Q (o :: os) E2) X) X) : Wp (mConsO mo mL E) Q X := wp_consO.mpr h
end
section
variable {ma mb mc : M D} {mA : M (List Arg)} {mt mu : M Bool} {mp : En → Option (Nat × List PSt)}
theorem w_nilA {Q : List Arg → En → Prop} (h : Q [] E) : Wp (mNilA E) Q X := h
theorem w_argD {Q : List Arg → En → Prop} (h : Wp (ma E) (fun x E1 => Wp (mA E1) (fun as E2 => Q (.d x :: as) E2) X) X) : Wp (mArgD ma mA E) Q X := wp_argD.mpr h
theorem w_argS {Q : List Arg → En → Prop} {i : Nat} (h : WO (slO E i) fun _ => Wp (mA E) (fun as E2 => Q (.s i :: as) E2) X) : Wp (mArgS i mA E) Q X := by rw [wp_argS, ← wo_slO]; exact h
theorem w_items {Q : List D → En → Prop} (h : Wp (ma E) (fun d E1 => WO (asSD d) fun ds => Q ds E1) X) : Wp (mItems ma E) Q X := by
  rw [wp_items]; simpa only [wo_asSD] using h
theorem w_itemsT {Q : List D → En → Prop} (h : Wp (ma E) (fun d E1 => WO (asTD d) fun ds => Q ds E1) X) : Wp (mItemsT ma E) Q X := by
  rw [wp_itemsT]; simpa only [wo_asTD] using h
theorem w_rng {Q : List D → En → Prop} {f : List D → Option (List D)} (h : Wp (mA E) (fun as E1 => WO (argsD as) fun ds => WO (f ds) fun d => Q d E1) X) : Wp (mRng f mA E) Q X := wp_rng.mpr h
theorem w_noPart {Q : Option Int → En → Prop} (h : Q none E) : Wp (mNoPart E) Q X := h
theorem w_part {Q : Option Int → En → Prop} (h : Wp (ma E) (fun d E1 => WO (asI d) fun i => Q (some i) E1) X) : Wp (mPart ma E) Q X := by
  rw [wp_part]; simpa only [wo_asI] using h
theorem w_B {Q : Bool → En → Prop} (h : Wp (ma E) (fun d E1 => WO (asB d) fun b => Q b E1) X) : Wp (mB ma E) Q X := by
  rw [wp_B]; simpa only [wo_asB] using h
theorem w_tru {Q : Bool → En → Prop} {f : D → Option Bool} (h : Wp (ma E) (fun d E1 => WO (f d) fun b => Q b E1) X) : Wp (mTru f ma E) Q X := wp_tru.mpr h
theorem w_truPl {Q : Bool → En → Prop} (h : WPl mp E fun k' π => WO (nodeE E k' π) fun n => WO (asL n) fun os => Q (!os.isEmpty) E) : Wp (mTruPl mp E) Q X := by
  unfold WPl at h
  rw [wp_truPl]; simpa only [wo_asL] using h
theorem w_and {Q : Bool → En → Prop} (h : Wp (mt E) (fun c E1 => if c = true then Wp (mu E1) Q X else Q false E1) X) : Wp (mAnd mt mu E) Q X := wp_and.mpr h
theorem w_or {Q : Bool → En → Prop} (h : Wp (mt E) (fun c E1 => if c = true then Q true E1 else Wp (mu E1) Q X) X) : Wp (mOr mt mu E) Q X := wp_or.mpr h
theorem w_not {Q : Bool → En → Prop} (h : Wp (mt E) (fun c E1 => Q (!c) E1) X) : Wp (mNot mt E) Q X := wp_not.mpr h
theorem w_eyeT {Q : Bool → En → Prop} (h : WE (frzE E) fun F => Wp (mt F) (fun b _ => Q b E) XF) : Wp (mEyeT mt E) Q X := wp_eyeT.mpr h
theorem w_frzL {ds : List D} {P : Option O → Prop} (h : P (some (.dt (.list ds)))) : WE ((O.lst (ds.map .dt)).toD.map O.dt) P := by
  have e : ∀ ds : List D, O.toDs (ds.map .dt) = some ds := fun ds => by
    induction ds with
    | nil => unfold O.toDs; rfl
    | cons d ds ih =>
      rw [List.map_cons]; unfold O.toDs
      have e2 : O.toD (.dt d) = some d := by unfold O.toD; rfl
      rw [e2, ih]
  have e2 : (O.lst (ds.map .dt)).toD = some (.list ds) := by unfold O.toD; rw [e]; rfl
  rw [e2]; exact h
theorem w_frzL0 {P : Option O → Prop} (h : P (some (.dt (.list [])))) : WE ((O.lst []).toD.map O.dt) P := w_frzL (ds := []) h
theorem w_uHide (h : WE (hideE E) fun F => Wp (ma F) (fun d _ => P d) XF) : WO (uHide ma E) P := wo_uHide.mpr h
theorem w_uEye (h : WE (frzE E) fun F => Wp (ma F) (fun d _ => scalD d = true ∧ P d) XF) : WO (uEye ma E) P := wo_uEye.mpr h
theorem w_uLoad (h : WPl mp E fun k' π => WO (nodeE E k' π) fun n => WO (asDt n) P) : WO (uLoad mp E) P := by
  unfold WPl at h
  rw [wo_uLoad]; simpa only [wo_asDt] using h
theorem w_plV {P : Nat → List PSt → Prop} {k : Nat} (h : WO (slO E k) fun _ => P k []) : WPl (plV k) E P := by
  unfold WPl; rw [wo_plV, ← wo_slO]; exact h
theorem w_plIx {P : Nat → List PSt → Prop} {f : En → Option D} (h : WPl mp E fun k π => WO (f E) fun d => WO (asI d) fun i => WO (nodeE E k π) fun n => WO (asL n) fun os => WO (ixN os.length i) fun j => P k (π ++ [.ix j])) : WPl (plIx mp f) E P := by
  unfold WPl at h ⊢; rw [wo_plIx]; simpa only [wo_asI, wo_asL] using h
theorem w_plFld {P : Nat → List PSt → Prop} {c g : Str} (h : WPl mp E fun k π => WO (nodeE E k π) fun n => WO (asIns c n) fun fs => WO (fGet g fs) fun _ => P k (π ++ [.fld g])) : WPl (plFld mp c g) E P := by
  unfold WPl at h ⊢; rw [wo_plFld]; simpa only [wo_asIns] using h
theorem get_app : ∀ (π : List PSt) (o : O) (x : PSt), o.get (π ++ [x]) = (o.get π).bind fun n => n.get [x]
  | [], o, x => by
    have e : o.get [] = some o := by cases o <;> rfl
    rw [e]; rfl
  | .ix j :: π, .lst os, x => by
    show (match os[j]? with | some o => O.get o (π ++ [x]) | none => none) = (match os[j]? with | some o => O.get o π | none => none).bind fun n => n.get [x]
    cases os[j]? with
    | none => rfl
    | some o => exact get_app π o x
  | .fld f :: π, .ins c fs, x => by
    show (match fGet f fs with | some o => O.get o (π ++ [x]) | none => none) = (match fGet f fs with | some o => O.get o π | none => none).bind fun n => n.get [x]
    cases fGet f fs with
    | none => rfl
    | some o => exact get_app π o x
  | .ix j :: π, .dt d, x => rfl
  | .ix j :: π, .tup d, x => rfl
  | .ix j :: π, .dic d, x => rfl
  | .ix j :: π, .dct d, x => rfl
  | .ix j :: π, .ins c d, x => rfl
  | .fld j :: π, .dt d, x => rfl
  | .fld j :: π, .tup d, x => rfl
  | .fld j :: π, .lst d, x => rfl
  | .fld j :: π, .dic d, x => rfl
  | .fld j :: π, .dct d, x => rfl
theorem w_getApp {P : O → Prop} {o : O} {π : List PSt} {x : PSt} (h : WO (o.get π) fun n => WO (n.get [x]) P) : WO (o.get (π ++ [x])) P := by
  rw [get_app, wo_bind]; exact h
theorem put_app : ∀ (π : List PSt) (o n : O) (x : PSt) (y : O), o.get π = some n → o.put (π ++ [x]) y = o.put π (n.put [x] y)
  | [], o, n, x, y, e => by
    have e2 : o.get [] = some o := by cases o <;> rfl
    rw [e2] at e; cases e
    have e3 : ∀ z, o.put [] z = z := fun z => by cases o <;> rfl
    rw [e3]; rfl
  | .ix j :: π, .lst os, n, x, y, e => by
    have e : (match os[j]? with | some o => O.get o π | none => none) = some n := e
    show (match os[j]? with | some o => O.lst (os.set j (o.put (π ++ [x]) y)) | none => .lst os) = (match os[j]? with | some o => O.lst (os.set j (o.put π (n.put [x] y))) | none => .lst os)
    cases q : os[j]? with
    | none => rfl
    | some o => rw [q] at e; simp only; rw [put_app π o n x y e]
  | .fld f :: π, .ins c fs, n, x, y, e => by
    have e : (match fGet f fs with | some o => O.get o π | none => none) = some n := e
    show (match fGet f fs with | some o => O.ins c (fPut f (o.put (π ++ [x]) y) fs) | none => .ins c fs) = (match fGet f fs with | some o => O.ins c (fPut f (o.put π (n.put [x] y)) fs) | none => .ins c fs)
    cases q : fGet f fs with
    | none => rfl
    | some o => rw [q] at e; simp only; rw [put_app π o n x y e]
  | .ix j :: π, .dt d, _, x, _, e => by cases e
  | .ix j :: π, .tup d, _, x, _, e => by cases e
  | .ix j :: π, .dic d, _, x, _, e => by cases e
  | .ix j :: π, .dct d, _, x, _, e => by cases e
  | .ix j :: π, .ins c d, _, x, _, e => by cases e
  | .fld j :: π, .dt d, _, x, _, e => by cases e
  | .fld j :: π, .tup d, _, x, _, e => by cases e
  | .fld j :: π, .lst d, _, x, _, e => by cases e
  | .fld j :: π, .dic d, _, x, _, e => by cases e
  | .fld j :: π, .dct d, _, x, _, e => by cases e
theorem w_putApp {PO : O → Prop} {o y : O} {π : List PSt} {x : PSt} (h : WO (o.get π) fun n => WE (n.put [x] y) fun n' => WE (o.put π n') PO) : WE (o.put (π ++ [x]) y) PO := by
  rw [wo_iff] at h
  obtain ⟨n, e, h⟩ := h
  show PO _
  rw [put_app π o n x y e]; exact h
theorem w_nodeE {P : O → Prop} {k : Nat} {π : List PSt} (h : WO (slO E k) fun o => WO (o.get π) P) : WO (nodeE E k π) P := by rw [wo_nodeE, ← wo_slO]; exact h
theorem w_get0 {P : O → Prop} {o : O} (h : P o) : WO (o.get []) P := wo_get0.mpr h
theorem w_getIx {P : O → Prop} {os : List O} {j : Nat} {π : List PSt} (h : WO os[j]? fun o => WO (o.get π) P) : WO ((O.lst os).get (.ix j :: π)) P := wo_getIx.mpr h
theorem w_getFld {P : O → Prop} {c g : Str} {fs : List (Str × O)} {π : List PSt} (h : WO (fGet g fs) fun o => WO (o.get π) P) : WO ((O.ins c fs).get (.fld g :: π)) P := wo_getFld.mpr h
theorem w_app0 {P : List PSt → Prop} {x : PSt} (h : P [x]) : P ([] ++ [x]) := h
end
/-! statements -/
section
variable {Q : Out → En → Prop} {ma mb mc : M D} {mo : M O} {mt : M Bool} {a b : M Out} {mL : M (List O)} {mp : En → Option (Nat × List PSt)} {f fe : En → Option D}
theorem w_nxN {P : En → Prop} (h : P E) : nxQ P Q .nx E := h
theorem w_nxR {P : En → Prop} {o : O} (h : Q (.rt o) E) : nxQ P Q (.rt o) E := h
theorem w_nxB {P : En → Prop} (h : Q .br E) : nxQ P Q .br E := h
theorem w_nxC {P : En → Prop} (h : Q .ct E) : nxQ P Q .ct E := h
theorem w_nx (h : Q .nx E) : Wp (mNx E) Q X := h
theorem w_ok {α : Type} {Q : α → En → Prop} {x : α} (h : Q x E) : Wp (.ok x E) Q X := h
theorem w_seq (h : Wp (a E) (nxQ (fun E1 => Wp (b E1) Q X) Q) X) : Wp (mSeq a b E) Q X := wp_seq.mpr h
theorem w_drop (h : Wp (ma E) (fun _ E1 => Q .nx E1) X) : Wp (mDrop ma E) Q X := wp_drop.mpr h
theorem w_dropO (h : Wp (mo E) (fun _ E1 => Q .nx E1) X) : Wp (mDrop mo E) Q X := wp_dropO.mpr h
theorem w_ret (h : Wp (mo E) (fun o E1 => Q (.rt o) E1) X) : Wp (mRet mo E) Q X := wp_ret.mpr h
theorem w_retD (h : Wp (ma E) (fun d E1 => Q (.rt (.dt d)) E1) X) : Wp (mRetD ma E) Q X := wp_retD.mpr h
theorem w_ifS (h : Wp (mt E) (fun k E1 => if k = true then Wp (a E1) Q X else Wp (b E1) Q X) X) : Wp (mIfS mt a b E) Q X := wp_ifS.mpr h
theorem w_set {i : Nat} (h : Wp (ma E) (fun d E1 => WO (stE E1 i (some (.dt d))) fun E2 => Q .nx E2) X) : Wp (mSet i ma E) Q X := by
  rw [wp_set]; simpa only [wo_stE] using h
theorem w_setO {i : Nat} (h : Wp (mo E) (fun d E1 => WO (stE E1 i (some d)) fun E2 => Q .nx E2) X) : Wp (mSetO i mo E) Q X := by
  rw [wp_setO]; simpa only [wo_stE] using h
theorem w_kill {ks : List Nat} (h : WE (killE ks E) fun E1 => Wp (a E1) Q X) : Wp (mKill ks a E) Q X := h
theorem w_for {ks : List Nat} {mi : M (List D)} {bd : D → En → Option En} (h : Wp (mi E) (fun xs E1 => WE (killE ks E1) fun E2 => Wp (forL ks bd b xs E2) Q X) X) : Wp (mFor ks mi bd b E) Q X := wp_for.mpr h
theorem w_while {N : Nat} {ks : List Nat} (h : WE (killE ks E) fun E1 => Wp (whileL ks mt b N E1) Q X) : Wp (mWhile N ks mt b E) Q X := h
theorem w_appendV {k : Nat} (h : WO (slO E k) fun o => WO (asL o) fun _ => Wp (ma E) (fun d E1 => WO (slO E1 k) fun o => WO (asL o) fun os => os.length < 16777216 ∧ WE (E1.set k (some (.lst (os ++ [.dt d])))) fun E2 => Q .nx E2) X) : Wp (mAppendV k ma E) Q X := by
  rw [wp_appendV]; simp only [← wo_slLst]; exact h
theorem w_appendO {k : Nat} (h : WO (slO E k) fun o => WO (asL o) fun _ => Wp (mo E) (fun d E1 => WO (slO E1 k) fun o => WO (asL o) fun os => os.length < 16777216 ∧ WE (E1.set k (some (.lst (os ++ [d])))) fun E2 => Q .nx E2) X) : Wp (mAppendO k mo E) Q X := by
  rw [wp_appendO]; simp only [← wo_slLst]; exact h
theorem w_append (h : WPl mp E fun k' π => WO (f E) fun d => WO (nodeE E k' π) fun n => WO (asL n) fun os => os.length < 16777216 ∧ WE (putE E k' π (.lst (os ++ [.dt d]))) fun E2 => Q .nx E2) : Wp (mAppend mp f E) Q X := by
  unfold WPl at h
  rw [wp_append]; simpa only [wo_asL, WE] using h
theorem w_setIx (h : Wp (ma E) (fun d E1 => WPl mp E1 fun k' π => WO (f E1) fun y => WO (asI y) fun i => WO (nodeE E1 k' π) fun n => WO (asL n) fun os => WO (ixN os.length i) fun j => WE (putE E1 k' π (.lst (os.set j (.dt d)))) fun E2 => Q .nx E2) X) : Wp (mSetIx mp f ma E) Q X := by
  unfold WPl at h
  rw [wp_setIx]; simpa only [wo_asL, wo_asI, WE] using h
theorem w_augIx {g : D → D → Option D} (h : WPl mp E fun k' π => WO (f E) fun y => WO (asI y) fun i => WO (fe E) fun d => WO (nodeE E k' π) fun n => WO (asL n) fun os => WO (ixN os.length i) fun j => WO os[j]? fun o => WO (asDt o) fun x => WO (g x d) fun z => scalD z = true ∧ WE (putE E k' π (.lst (os.set j (.dt z)))) fun E2 => Q .nx E2) : Wp (mAugIx g mp f fe E) Q X := by
  unfold WPl at h
  rw [wp_augIx]
  refine WO.mono h fun kp h => WO.mono h fun y h => ?_
  rw [wo_asI] at h
  obtain ⟨i, e, h⟩ := h
  refine ⟨i, e, WO.mono h fun d h => WO.mono h fun n h => ?_⟩
  rw [wo_asL] at h
  obtain ⟨os, e, h⟩ := h
  refine ⟨os, e, WO.mono h fun j h => ?_⟩
  rw [wo_iff] at h
  obtain ⟨o, e, h⟩ := h
  rw [wo_asDt] at h
  obtain ⟨x, e2, h⟩ := h
  exact ⟨x, by rw [e, e2], h⟩
theorem w_aug {g : D → D → Option D} {i : Nat} (h : WO (slD E i) fun x => Wp (ma E) (fun y E1 => WO (g x y) fun z => WO (stE E1 i (some (.dt z))) fun E2 => Q .nx E2) X) : Wp (mAug g i ma E) Q X := by
  rw [wp_aug]; simp only [wo_stE] at h; rw [← wo_slD]; exact h
theorem w_par {bs : List (O → En → Option En)} (h : Wp (mL E) (fun os E1 => WO (setB bs os E1) fun E2 => Q .nx E2) X) : Wp (mPar bs mL E) Q X := wp_par.mpr h
theorem w_setB0 {P : En → Prop} (h : P E) : WO (setB [] [] E) P := h
theorem w_setB1 {P : En → Prop} {b : O → En → Option En} {bs : List (O → En → Option En)} {o : O} {os : List O} (h : WO (b o E) fun E1 => WO (setB bs os E1) P) : WO (setB (b :: bs) (o :: os) E) P := wo_setB1.mpr h
theorem w_mapB {P : En → Prop} {i : Nat} {is : List Nat} {o : O} {os : List O} (h : WO (stE E i (some o)) fun E1 => WO (setB (is.map bNameO) os E1) P) : WO (setB ((i :: is).map bNameO) (o :: os) E) P := by
  rw [List.map_cons]; refine wo_setB1.mpr ?_; rw [wo_bNameO]; rw [wo_stE] at h; exact h
theorem w_mapB0 {P : En → Prop} (h : P E) : WO (setB (([] : List Nat).map bNameO) [] E) P := h
theorem w_bNameO {P : En → Prop} {i : Nat} {o : O} (h : WO (stE E i (some o)) P) : WO (bNameO i o E) P := by rw [wo_bNameO]; rw [wo_stE] at h; exact h
theorem w_bName {P : En → Prop} {i : Nat} {d : D} (h : WO (stE E i (some (.dt d))) P) : WO (bName i d E) P := by rw [wo_bName]; rw [wo_stE] at h; exact h
theorem w_bTup {P : En → Prop} {is : List Nat} {d : D} (h : WO (asTD d) fun ds => WO (setAll is ds E) P) : WO (bTup is d E) P := by rw [wo_bTup]; rw [wo_asTD] at h; exact h
theorem w_bLst {P : En → Prop} {is : List Nat} {d : D} (h : WO (asLD d) fun ds => WO (setAll is ds E) P) : WO (bLst is d E) P := by rw [wo_bLst]; rw [wo_asLD] at h; exact h
theorem w_setAll0 {P : En → Prop} (h : P E) : WO (setAll [] [] E) P := h
theorem w_setAll1 {P : En → Prop} {i : Nat} {is : List Nat} {d : D} {ds : List D} (h : WO (stE E i (some (.dt d))) fun E1 => WO (setAll is ds E1) P) : WO (setAll (i :: is) (d :: ds) E) P := by rw [wo_setAll1]; rw [wo_stE] at h; exact h
theorem w_bSetIx {P : En → Prop} {o : O} (h : WO (asDt o) fun d => WPl mp E fun k' π => WO (f E) fun y => WO (asI y) fun i => WO (nodeE E k' π) fun n => WO (asL n) fun os => WO (ixN os.length i) fun j => WE (putE E k' π (.lst (os.set j (.dt d)))) P) : WO (bSetIx mp f o E) P := by
  unfold WPl at h
  rw [wo_bSetIx]; simpa only [wo_asL, wo_asI, wo_asDt, WE] using h
theorem w_asgD {bd : D → En → Option En} (h : Wp (ma E) (fun d E1 => WO (bd d E1) fun E2 => Q .nx E2) X) : Wp (mAsgD bd ma E) Q X := wp_asgD.mpr h
theorem w_fldO {i : Nat} {c g : Str} (h : Wp (mo E) (fun o E1 => WO (slO E1 i) fun q => WO (asIns c q) fun fs => fs.length < 1000 ∧ WE (fSet g o fs) fun gs => WE (E1.set i (some (.ins c gs))) fun E2 => Q .nx E2) X) : Wp (mFldO i c g mo E) Q X := by
  rw [wp_fldO]
  refine h.mono fun o E1 h => ?_
  rw [wo_slO] at h
  obtain ⟨q, e, h⟩ := h
  rw [wo_asIns] at h
  obtain ⟨fs, e2, h⟩ := h
  exact ⟨fs, by rw [e, e2], h⟩
theorem w_fSet0 {PF : List (Str × O) → Prop} {f : Str} {x : O} (h : PF [(f, x)]) : WE (fSet f x []) PF := h
theorem w_alias {k s : Nat} {rest : M Out} (h : WPl mp E fun k' π => k' = k ∧ (s ≠ k ∧ s < E.length) ∧ WO (slO E k) fun o => WO (o.get π) fun n => WE (E.set k none) fun E1 => WE (E1.set s (some n)) fun E2 => Wp (rest E2) (fun out E2 => k < E2.length ∧ WO (slO E2 s) fun n2 => WE (E2.set s none) fun E3 => WE (o.put π n2) fun y => WE (E3.set k (some y)) fun E4 => Q out E4) XF) : Wp (mAlias k s mp rest E) Q X := by
  unfold WPl at h
  rw [wp_alias]
  refine WO.mono h fun kp h => ?_
  obtain ⟨h1, ⟨h2, h3⟩, h⟩ := h
  refine ⟨h1, h2, h3, ?_⟩
  rw [wo_slO] at h
  obtain ⟨o, e, h⟩ := h
  refine ⟨o, e, ?_⟩
  rw [wo_nodeE]
  refine ⟨o, e, WO.mono h fun n h => Wp.mono h fun out E2 h => ?_⟩
  obtain ⟨h1, h⟩ := h
  rw [wo_slO] at h
  obtain ⟨n2, e2, h⟩ := h
  exact ⟨n2, e2, h1, h⟩
theorem w_pair {p : Nat} {rest : M Out} (h : Wp (ma E) (fun d E1 => WO (stE E1 p (some (.dt d))) fun E2 => Wp (rest E2) Q X) X) : Wp (mPair p ma rest E) Q X := by
  rw [wp_pair]; simpa only [wo_stE] using h
theorem w_finN {fl : List Bool} {Q : O → En → Prop} (h : WE (keepE fl E) fun F => Q (.dt .none) F) : finQ fl Q .nx E := h
theorem w_finR {fl : List Bool} {Q : O → En → Prop} {o : O} (h : WE (keepE fl E) fun F => Q o F) : finQ fl Q (.rt o) E := h
theorem w_ifT {p q : Prop} {b : Bool} (hb : b = true) (h : p) : if b = true then p else q := by rw [if_pos hb]; exact h
theorem w_ifF {p q : Prop} {b : Bool} (hb : b = false) (h : q) : if b = true then p else q := by rw [if_neg (by rw [hb]; simp)]; exact h
theorem w_ifnT {p q : Prop} (h : q) : if (!true) = true then p else q := h
theorem w_ifnF {p q : Prop} (h : p) : if (!false) = true then p else q := h
theorem w_ite {p q : Prop} {b : Bool} (h : b = true → p) (h2 : b = false → q) : if b = true then p else q := by
  cases b with
  | true => rw [if_pos rfl]; exact h rfl
  | false => rw [if_neg (by simp)]; exact h2 rfl
theorem w_iteD {p q : Prop} {c : Prop} [Decidable c] (h : c → p) (h2 : ¬c → q) : if decide c = true then p else q := by
  by_cases hc : c
  · rw [if_pos (decide_eq_true hc)]; exact h hc
  · rw [if_neg (by simpa using hc)]; exact h2 hc
theorem w_iteT {p q : Prop} (h : p) : if true = true then p else q := by rw [if_pos rfl]; exact h
theorem w_iteF {p q : Prop} (h : q) : if false = true then p else q := by rw [if_neg (by simp)]; exact h
theorem w_argsO0 {P : List O → Prop} (h : P []) : WO (argsO E []) P := h
theorem w_argsOd {P : List O → Prop} {x : D} {r : List Arg} (h : WO (argsO E r) fun l => P (.dt x :: l)) : WO (argsO E (.d x :: r)) P := by
  show WO ((argsO E r).map _) P; rw [wo_map]; exact h
theorem w_argsOs {P : List O → Prop} {i : Nat} {r : List Arg} (h : WO (slO E i) fun o => WO (argsO E r) fun l => P (o :: l)) : WO (argsO E (.s i :: r)) P := by
  rw [wo_slO] at h
  obtain ⟨o, e, h⟩ := h
  show WO (match E[i]? with
    | some (some o) => (argsO E r).map (o :: ·)
    | _ => none) P
  rw [e]; simp only; rw [wo_map]; exact h
theorem w_argsD0 {P : List D → Prop} (h : P []) : WO (argsD []) P := h
theorem w_argsDd {P : List D → Prop} {x : D} {r : List Arg} (h : WO (argsD r) fun l => P (x :: l)) : WO (argsD (.d x :: r)) P := by
  show WO ((argsD r).map _) P; rw [wo_map]; exact h
theorem w_fn {fl : List Bool} {n : Nat} {body : M Out} {os : List O} {Q : O → En → Prop} (hl : os.length = fl.length) {E0 : En} (he : os.map some ++ List.replicate (n - fl.length) none = E0) (h : Wp (body E0) (finQ fl Q) (fun c fs E => WE (keepE fl E) fun F => X c fs F)) : Wp (mFn fl n body os) Q X := by
  subst he; exact wp_fn.mpr ⟨hl, h⟩
theorem w_exc {α : Type} {Q : α → En → Prop} {c : Str} {fs : List (Str × D)} (h : X c fs E) : Wp (.exc c fs E) Q X := h
theorem w_bindR {α β : Type} {Q : α → En → Prop} {s : Rs β} {k : β → En → Rs α} (h : Wp s (fun b F => Wp (k b F) Q X) X) : Wp (s.bind k) Q X := wp_bind.mpr h
theorem w_try {i : Nat} {cat : Str → Option Bool} {mb : M Out} {mH : Str → List (Str × D) → M Out} (h : Wp (mb E) Q (fun c fs E1 => WO (cat c) fun b => if b = true then i < E1.length ∧ WE (E1.set i none) (fun E2 => Wp (mH c fs E2) Q XF) else X c fs E1)) : Wp (mTry i cat mb mH E) Q X := by
  unfold mTry
  cases e : mb E with
  | ok o F => rw [e] at h; exact h
  | no => rw [e] at h; exact h.elim
  | exc c fs F =>
    rw [e] at h
    replace h : WO (cat c) _ := h
    cases e2 : cat c with
    | none => rw [e2] at h; exact h.elim
    | some b =>
      rw [e2] at h
      cases b with
      | false => simp only [e2]; exact h
      | true =>
        obtain ⟨h1, h2⟩ := h
        simp only [e2, h1, if_true]
        replace h2 : Wp (mH c fs (F.set i none)) Q XF := h2
        cases e3 : mH c fs (F.set i none) with
        | ok o F2 => rw [e3] at h2; exact h2
        | exc _ _ _ => rw [e3] at h2; exact h2.elim
        | no => rw [e3] at h2; exact h2.elim
theorem w_some {α : Type} {P : α → Prop} {a : α} (h : P a) : WO (some a) P := h
end
end
end Lf
set_option Elab.async false
set_option linter.all false
set_option maxRecDepth 100000
set_option maxHeartbeats 4000000
/-! Plain laws: what the operations give. -/
namespace Lf
open PySem L2
section
variable {P : D → Prop}
theorem wo_subI {i j : Int} : WO (pSub (.int i) (.int j)) P ↔ P (.int (i - j)) := Iff.rfl
theorem wo_addI {i j : Int} : WO (pAdd (.int i) (.int j)) P ↔ P (.int (i + j)) := Iff.rfl
theorem wo_iaddI {i j : Int} : WO (pIadd (.int i) (.int j)) P ↔ P (.int (i + j)) := Iff.rfl
theorem wo_isubI {i j : Int} : WO (pIsub (.int i) (.int j)) P ↔ P (.int (i - j)) := Iff.rfl
theorem wo_negI {i : Int} : WO (pNeg (.int i)) P ↔ P (.int (-i)) := Iff.rfl
theorem wo_addL {xs ys : List D} : WO (pAdd (.list xs) (.list ys)) P ↔ xs.length + ys.length ≤ 16777216 ∧ P (.list (xs ++ ys)) := by unfold pAdd; rw [wo_if]
theorem wo_addS {a b : Str} : WO (pAdd (.str a) (.str b)) P ↔ a.length + b.length ≤ 16777216 ∧ P (.str (a ++ b)) := by unfold pAdd; rw [wo_if]
theorem wo_catL {P : List D → Prop} {xs ys : List D} : WO (catL (.list xs) (.list ys)) P ↔ xs.length + ys.length ≤ 16777216 ∧ P (xs ++ ys) := by unfold catL; rw [wo_if]
theorem wo_repL {P : List D → Prop} {xs : List D} {k : Int} : WO (repL (.list xs) (.int k)) P ↔ (-(2 ^ 63) ≤ k ∧ k < 2 ^ 63 ∧ xs.length * k.toNat ≤ 16777216) ∧ P (List.replicate k.toNat xs).flatten := by unfold repL; rw [wo_if]
theorem wo_mulL {xs : List D} {k : Int} : WO (pMul (.list xs) (.int k)) P ↔ (-(2 ^ 63) ≤ k ∧ k < 2 ^ 63 ∧ xs.length * k.toNat ≤ 16777216) ∧ P (.list (List.replicate k.toNat xs).flatten) := by unfold pMul; rw [wo_if]
theorem wo_mulI {i j : Int} : WO (pMul (.int i) (.int j)) P ↔ ((-(2 ^ 64) < i ∧ i < 2 ^ 64) ∨ (-(2 ^ 64) < j ∧ j < 2 ^ 64)) ∧ P (.int (i * j)) := by unfold pMul; rw [wo_if]
theorem wo_fdivI {i j : Int} : WO (pFdiv (.int i) (.int j)) P ↔ (j ≠ 0 ∧ j.natAbs < 1073741824) ∧ P (.int (i.fdiv j)) := by unfold pFdiv; rw [wo_if]
theorem wo_modI {i j : Int} : WO (pMod (.int i) (.int j)) P ↔ j ≠ 0 ∧ P (.int (i.fmod j)) := by unfold pMod; rw [wo_if]
theorem wo_powI {i j : Int} : WO (pPow (.int i) (.int j)) P ↔ (0 ≤ j ∧ j ≤ 1000000 ∧ i.natAbs < 2 ^ 64) ∧ P (.int (i ^ j.toNat)) := by unfold pPow; rw [wo_if]
theorem wo_ltI {i j : Int} : WO (pLt (.int i) (.int j)) P ↔ P (.bool (decide (i < j))) := Iff.rfl
theorem wo_leI {i j : Int} : WO (pLe (.int i) (.int j)) P ↔ P (.bool (decide (i ≤ j))) := Iff.rfl
theorem wo_gtI {i j : Int} : WO (pGt (.int i) (.int j)) P ↔ P (.bool (decide (j < i))) := Iff.rfl
theorem wo_geI {i j : Int} : WO (pGe (.int i) (.int j)) P ↔ P (.bool (decide (j ≤ i))) := Iff.rfl
theorem eqv_I {i j : Int} : PyData.eqv (.int i) (.int j) = decide (i = j) := by
  unfold PyData.eqv; exact (Bool.beq_eq_decide_eq i j)
theorem eqv_S {i j : Str} : PyData.eqv (.str i) (.str j) = decide (i = j) := by
  unfold PyData.eqv; exact (Bool.beq_eq_decide_eq i j)
theorem eqv_B {i j : Bool} : PyData.eqv (.bool i) (.bool j) = decide (i = j) := by
  unfold PyData.eqv; exact (Bool.beq_eq_decide_eq i j)
theorem okD_I {i : Int} : okD (.int i) = true := by
  unfold okD SeqAt.shaped plainD; simp [PyData.canLay0, PyData.depth]
theorem okD_B {i : Bool} : okD (.bool i) = true := by
  unfold okD SeqAt.shaped plainD; simp [PyData.canLay0, PyData.depth]
theorem okD_N : okD .none = true := by
  unfold okD SeqAt.shaped plainD; simp [PyData.canLay0, PyData.depth]
theorem wo_eqI {i j : Int} : WO (pEq (.int i) (.int j)) P ↔ P (.bool (decide (i = j))) := by
  unfold pEq; rw [if_pos ⟨okD_I, okD_I⟩, wo_some, eqv_I]
theorem wo_neI {i j : Int} : WO (pNe (.int i) (.int j)) P ↔ P (.bool (!decide (i = j))) := by
  unfold pNe; rw [if_pos ⟨okD_I, okD_I⟩, wo_some, eqv_I]
theorem wo_eqB {i j : Bool} : WO (pEq (.bool i) (.bool j)) P ↔ P (.bool (decide (i = j))) := by
  unfold pEq; rw [if_pos ⟨okD_B, okD_B⟩, wo_some, eqv_B]
theorem wo_eqD {x y : D} : WO (pEq x y) P ↔ (okD x = true ∧ okD y = true) ∧ P (.bool (PyData.eqv x y)) := by unfold pEq; rw [wo_if]
theorem wo_neD {x y : D} : WO (pNe x y) P ↔ (okD x = true ∧ okD y = true) ∧ P (.bool (!PyData.eqv x y)) := by unfold pNe; rw [wo_if]
theorem wo_isN : WO (pIs .none .none) P ↔ P (.bool true) := Iff.rfl
theorem wo_isB {b : Bool} : WO (pIs (.bool b) .none) P ↔ P (.bool false) := Iff.rfl
theorem wo_isI {i : Int} : WO (pIs (.int i) .none) P ↔ P (.bool false) := Iff.rfl
theorem wo_isS {z : Str} : WO (pIs (.str z) .none) P ↔ P (.bool false) := Iff.rfl
theorem wo_isL {xs : List D} : WO (pIs (.list xs) .none) P ↔ P (.bool false) := Iff.rfl
theorem wo_isT {xs : List D} : WO (pIs (.tuple xs) .none) P ↔ P (.bool false) := Iff.rfl
theorem wo_isnN : WO (pIsNot .none .none) P ↔ P (.bool false) := Iff.rfl
theorem wo_isnB {b : Bool} : WO (pIsNot (.bool b) .none) P ↔ P (.bool true) := Iff.rfl
theorem wo_isnI {i : Int} : WO (pIsNot (.int i) .none) P ↔ P (.bool true) := Iff.rfl
theorem wo_isnS {z : Str} : WO (pIsNot (.str z) .none) P ↔ P (.bool true) := Iff.rfl
theorem wo_isnL {xs : List D} : WO (pIsNot (.list xs) .none) P ↔ P (.bool true) := Iff.rfl
theorem wo_isnT {xs : List D} : WO (pIsNot (.tuple xs) .none) P ↔ P (.bool true) := Iff.rfl
theorem wo_ixL {xs : List D} {i : Int} : WO (pIx (.list xs) (.int i)) P ↔ ∃ d, atI xs i = some d ∧ P d := wo_iff
theorem wo_ixT {xs : List D} {i : Int} : WO (pIx (.tuple xs) (.int i)) P ↔ ∃ d, atI xs i = some d ∧ P d := wo_iff
theorem wo_ixN {P : Nat → Prop} {n : Nat} {i : Int} : WO (ixN n i) P ↔ ∃ j, ixN n i = some j ∧ P j := wo_iff
theorem wo_lenL {xs : List D} : WO (cLen [.list xs]) P ↔ P (.int xs.length) := Iff.rfl
theorem wo_lenT {xs : List D} : WO (cLen [.tuple xs]) P ↔ P (.int xs.length) := Iff.rfl
theorem wo_lenS {z : Str} : WO (cLen [.str z]) P ↔ z.length ≤ 16777216 ∧ P (.int z.length) := by unfold cLen; rw [wo_if]
theorem wo_absI {i : Int} : WO (cAbs [.int i]) P ↔ P (.int (if i < 0 then -i else i)) := Iff.rfl
theorem wo_maxI {i j : Int} : WO (cMax2 [.int i, .int j]) P ↔ P (.int (if j > i then j else i)) := Iff.rfl
theorem wo_minI {i j : Int} : WO (cMin2 [.int i, .int j]) P ↔ P (.int (if j < i then j else i)) := Iff.rfl
theorem wo_intI {i : Int} : WO (cInt [.int i]) P ↔ P (.int i) := Iff.rfl
theorem wo_intB {b : Bool} : WO (cInt [.bool b]) P ↔ P (.int (if b then 1 else 0)) := Iff.rfl
theorem wo_tupL {xs : List D} : WO (cTuple [.list xs]) P ↔ P (.tuple xs) := Iff.rfl
theorem wo_tupT {xs : List D} : WO (cTuple [.tuple xs]) P ↔ P (.tuple xs) := Iff.rfl
theorem wo_listL {P : List D → Prop} {xs : List D} : WO (cList [.list xs]) P ↔ P xs := Iff.rfl
theorem wo_listT {P : List D → Prop} {xs : List D} : WO (cList [.tuple xs]) P ↔ P xs := Iff.rfl
theorem intsD_m {ns : List Int} : intsD (ns.map .int) = some ns := by
  induction ns with
  | nil => rfl
  | cons n ns ih => show (intsD (ns.map .int)).map (n :: ·) = _; rw [ih]; rfl
theorem boolsD_m {bs : List Bool} : boolsD (bs.map .bool) = some bs := by
  induction bs with
  | nil => rfl
  | cons n ns ih => show (boolsD (ns.map .bool)).map (n :: ·) = _; rw [ih]; rfl
theorem wo_sumI {ns : List Int} : WO (cSum [.list (ns.map .int)]) P ↔ P (.int ns.sum) := by show WO ((intsD _).map _) P ↔ _; rw [intsD_m]; rfl
theorem wo_allB {bs : List Bool} : WO (cAll [.list (bs.map .bool)]) P ↔ P (.bool (bs.all id)) := by show WO ((boolsD _).map _) P ↔ _; rw [boolsD_m]; rfl
theorem wo_anyB {bs : List Bool} : WO (cAny [.list (bs.map .bool)]) P ↔ P (.bool (bs.any id)) := by show WO ((boolsD _).map _) P ↔ _; rw [boolsD_m]; rfl
theorem wo_sortT {P : List D → Prop} {ns : List Int} : WO (cSorted [.tuple (ns.map .int)]) P ↔ P ((sortI ns).map .int) := by show WO ((intsD _).map _) P ↔ _; rw [intsD_m]; rfl
theorem wo_sortI {P : List D → Prop} {ns : List Int} : WO (cSorted [.list (ns.map .int)]) P ↔ P ((sortI ns).map .int) := by show WO ((intsD _).map _) P ↔ _; rw [intsD_m]; rfl
theorem wo_rngO1 {P : List D → Prop} {n : Int} : WO (rngO1 [.int n]) P ↔ (n ≤ 16777216 ∧ -16777216 ≤ n) ∧ P (rangeD 0 n.toNat) := by unfold rngO1; rw [wo_if]
theorem wo_rngO2 {P : List D → Prop} {i j : Int} : WO (rngO2 [.int i, .int j]) P ↔ (0 ≤ i ∧ i ≤ 16777216 ∧ j ≤ 16777216 ∧ 0 ≤ j) ∧ P (rangeD i (j - i).toNat) := by unfold rngO2; rw [wo_if]
theorem wo_rng1 {P : List D → Prop} {n : Int} : WO (rng1 [.int n]) P ↔ (-(2 ^ 62) ≤ n ∧ n < 2 ^ 62) ∧ P (rangeD 0 n.toNat) := by unfold rng1; rw [wo_if]
theorem wo_rng2 {P : List D → Prop} {i j : Int} : WO (rng2 [.int i, .int j]) P ↔ (-(2 ^ 62) ≤ i ∧ i < 2 ^ 62 ∧ -(2 ^ 62) ≤ j ∧ j < 2 ^ 62) ∧ P (rangeD i (j - i).toNat) := by unfold rng2; rw [wo_if]
theorem wo_rng3 {P : List D → Prop} {i j c : Int} : WO (rng3 [.int i, .int j, .int c]) P ↔ (c = -1 ∧ -(2 ^ 62) ≤ i ∧ i < 2 ^ 62 ∧ -(2 ^ 62) ≤ j ∧ j < 2 ^ 62) ∧ P (rangeC i (-1) (i - j).toNat) := by unfold rng3; rw [wo_if]
theorem wo_enum {P : List D → Prop} {ds : List D} : WO (enumD [.list ds]) P ↔ P ((List.range ds.length).zip ds |>.map fun p => .tuple [.int (p.1 : Nat), p.2]) := Iff.rfl
theorem wo_zip {P : List D → Prop} {ds es : List D} : WO (zipD [.list ds, .list es]) P ↔ P ((ds.zip es).map fun p => .tuple [p.1, p.2]) := Iff.rfl
theorem wo_rev {xs : List D} : WO (pRev (.list xs)) P ↔ P (.list xs.reverse) := Iff.rfl
theorem wo_slL {xs : List D} {lo hi : Option Int} : WO (pSl (.list xs) lo hi) P ↔ P (.list (cutL xs lo hi)) := Iff.rfl
end
theorem isD_int_none : isD "int" .none = some false := by first | rfl | exact (show kitB _ _ = _ by decide +kernel)
theorem isD_int_bool {b : Bool} : isD "int" (.bool b) = some true := by first | rfl | exact (show kitB _ _ = _ by decide +kernel)
theorem isD_int_int {i : Int} : isD "int" (.int i) = some true := by first | rfl | exact (show kitB _ _ = _ by decide +kernel)
theorem isD_int_str {z : Str} : isD "int" (.str z) = some false := by first | rfl | exact (show kitB _ _ = _ by decide +kernel)
theorem isD_int_list {xs : List D} : isD "int" (.list xs) = some false := by first | rfl | exact (show kitB _ _ = _ by decide +kernel)
theorem isD_int_tuple {xs : List D} : isD "int" (.tuple xs) = some false := by first | rfl | exact (show kitB _ _ = _ by decide +kernel)
theorem isD_bool_none : isD "bool" .none = some false := by first | rfl | exact (show kitB _ _ = _ by decide +kernel)
theorem isD_bool_bool {b : Bool} : isD "bool" (.bool b) = some true := by first | rfl | exact (show kitB _ _ = _ by decide +kernel)
theorem isD_bool_int {i : Int} : isD "bool" (.int i) = some false := by first | rfl | exact (show kitB _ _ = _ by decide +kernel)
theorem isD_bool_str {z : Str} : isD "bool" (.str z) = some false := by first | rfl | exact (show kitB _ _ = _ by decide +kernel)
theorem isD_bool_list {xs : List D} : isD "bool" (.list xs) = some false := by first | rfl | exact (show kitB _ _ = _ by decide +kernel)
theorem isD_bool_tuple {xs : List D} : isD "bool" (.tuple xs) = some false := by first | rfl | exact (show kitB _ _ = _ by decide +kernel)
theorem isD_str_none : isD "str" .none = some false := by first | rfl | exact (show kitB _ _ = _ by decide +kernel)
theorem isD_str_bool {b : Bool} : isD "str" (.bool b) = some false := by first | rfl | exact (show kitB _ _ = _ by decide +kernel)
theorem isD_str_int {i : Int} : isD "str" (.int i) = some false := by first | rfl | exact (show kitB _ _ = _ by decide +kernel)
theorem isD_str_str {z : Str} : isD "str" (.str z) = some true := by first | rfl | exact (show kitB _ _ = _ by decide +kernel)
theorem isD_str_list {xs : List D} : isD "str" (.list xs) = some false := by first | rfl | exact (show kitB _ _ = _ by decide +kernel)
theorem isD_str_tuple {xs : List D} : isD "str" (.tuple xs) = some false := by first | rfl | exact (show kitB _ _ = _ by decide +kernel)
theorem isD_list_none : isD "list" .none = some false := by first | rfl | exact (show kitB _ _ = _ by decide +kernel)
theorem isD_list_bool {b : Bool} : isD "list" (.bool b) = some false := by first | rfl | exact (show kitB _ _ = _ by decide +kernel)
theorem isD_list_int {i : Int} : isD "list" (.int i) = some false := by first | rfl | exact (show kitB _ _ = _ by decide +kernel)
theorem isD_list_str {z : Str} : isD "list" (.str z) = some false := by first | rfl | exact (show kitB _ _ = _ by decide +kernel)
theorem isD_list_list {xs : List D} : isD "list" (.list xs) = some true := by first | rfl | exact (show kitB _ _ = _ by decide +kernel)
theorem isD_list_tuple {xs : List D} : isD "list" (.tuple xs) = some false := by first | rfl | exact (show kitB _ _ = _ by decide +kernel)
theorem isD_tuple_none : isD "tuple" .none = some false := by first | rfl | exact (show kitB _ _ = _ by decide +kernel)
theorem isD_tuple_bool {b : Bool} : isD "tuple" (.bool b) = some false := by first | rfl | exact (show kitB _ _ = _ by decide +kernel)
theorem isD_tuple_int {i : Int} : isD "tuple" (.int i) = some false := by first | rfl | exact (show kitB _ _ = _ by decide +kernel)
theorem isD_tuple_str {z : Str} : isD "tuple" (.str z) = some false := by first | rfl | exact (show kitB _ _ = _ by decide +kernel)
theorem isD_tuple_list {xs : List D} : isD "tuple" (.list xs) = some false := by first | rfl | exact (show kitB _ _ = _ by decide +kernel)
theorem isD_tuple_tuple {xs : List D} : isD "tuple" (.tuple xs) = some true := by first | rfl | exact (show kitB _ _ = _ by decide +kernel)
/-! ### slots -/
theorem killE_nil {E : En} : killE [] E = E := rfl
theorem killE_cons {i : Nat} {ks : List Nat} {E : En} : killE (i :: ks) E = killE ks (E.set i none) := rfl
theorem keepE_nil {E : En} : keepE [] E = [] := rfl
theorem keepE_t {bs : List Bool} {e : Option O} {E : En} : keepE (true :: bs) (e :: E) = e :: keepE bs E := rfl
theorem keepE_f {bs : List Bool} {e : Option O} {E : En} : keepE (false :: bs) (e :: E) = none :: keepE bs E := rfl
theorem hideE_nil : hideE [] = [] := rfl
theorem hideE_none {E : En} : hideE (none :: E) = none :: hideE E := rfl
theorem hideE_dt {d : D} {E : En} : hideE (some (.dt d) :: E) = some (.dt d) :: hideE E := rfl
theorem hideE_lst {xs : List O} {E : En} : hideE (some (.lst xs) :: E) = none :: hideE E := rfl
theorem hideE_tup {xs : List O} {E : En} : hideE (some (.tup xs) :: E) = none :: hideE E := rfl
theorem hideE_ins {c : Str} {xs : List (Str × O)} {E : En} : hideE (some (.ins c xs) :: E) = none :: hideE E := rfl
theorem frzE_nil : frzE [] = [] := rfl
theorem frzE_none {E : En} : frzE (none :: E) = none :: frzE E := rfl
theorem frzE_some {o : O} {E : En} : frzE (some o :: E) = o.toD.map O.dt :: frzE E := rfl
theorem toD_dt {d : D} : O.toD (.dt d) = some d := by unfold O.toD; rfl
theorem toD_ins {c : Str} {xs : List (Str × O)} : O.toD (.ins c xs) = none := by unfold O.toD; rfl
theorem toDs_map {ds : List D} : O.toDs (ds.map .dt) = some ds := by
  induction ds with
  | nil => unfold O.toDs; rfl
  | cons d ds ih => rw [List.map_cons]; unfold O.toDs; rw [toD_dt, ih]
theorem toD_lst {ds : List D} : O.toD (.lst (ds.map .dt)) = some (.list ds) := by unfold O.toD; rw [toDs_map]; rfl
theorem toD_lst0 : O.toD (.lst []) = some (.list []) := toD_lst (ds := [])
theorem toD_tup {ds : List D} : O.toD (.tup (ds.map .dt)) = some (.tuple ds) := by unfold O.toD; rw [toDs_map]; rfl
theorem toDs_lists {ts : List (List D)} : O.toDs (ts.map fun ds => .lst (ds.map .dt)) = some (ts.map .list) := by
  induction ts with
  | nil => unfold O.toDs; rfl
  | cons d ds ih => rw [List.map_cons]; unfold O.toDs; rw [toD_lst, ih]; rfl
theorem toD_lists {ts : List (List D)} : O.toD (.lst (ts.map fun ds => .lst (ds.map .dt))) = some (.list (ts.map .list)) := by unfold O.toD; rw [toDs_lists]; rfl
theorem putE_eq {E : En} {k : Nat} {π : List PSt} {x : O} : putE E k π x = (match E[k]? with | some (some o) => E.set k (some (o.put π x)) | _ => E) := rfl
theorem put_nil {o x : O} : o.put [] x = x := by cases o <;> rfl
theorem put_ix {os : List O} {j : Nat} {π : List PSt} {x : O} : (O.lst os).put (.ix j :: π) x = (match os[j]? with | some o => .lst (os.set j (o.put π x)) | none => .lst os) := rfl
theorem put_fld {c f : Str} {fs : List (Str × O)} {π : List PSt} {x : O} : (O.ins c fs).put (.fld f :: π) x = (match fGet f fs with | some o => .ins c (fPut f (o.put π x) fs) | none => .ins c fs) := rfl
theorem fGet_nil {f : Str} : fGet f [] = none := rfl
theorem fGet_cons {f g : Str} {o : O} {r : List (Str × O)} : fGet f ((g, o) :: r) = if f = g then some o else fGet f r := rfl
theorem fPut_cons {f g : Str} {o x : O} {r : List (Str × O)} : fPut f x ((g, o) :: r) = if f = g then (g, x) :: r else (g, o) :: fPut f x r := rfl
theorem fSet_nil {f : Str} {x : O} : fSet f x [] = [(f, x)] := rfl
theorem fSet_cons {f g : Str} {o x : O} {r : List (Str × O)} : fSet f x ((g, o) :: r) = if g = f then (g, x) :: r else (g, o) :: fSet f x r := rfl
section
variable {E : En} {P : List O → Prop}
theorem wo_argsO0 : WO (argsO E []) P ↔ P [] := Iff.rfl
theorem wo_argsOd {x : D} {r : List Arg} : WO (argsO E (.d x :: r)) P ↔ WO (argsO E r) fun l => P (.dt x :: l) := by
  show WO ((argsO E r).map _) P ↔ _; rw [wo_map]
theorem wo_argsOs {i : Nat} {r : List Arg} : WO (argsO E (.s i :: r)) P ↔ ∃ o, E[i]? = some (some o) ∧ WO (argsO E r) fun l => P (o :: l) := by
  show WO (match E[i]? with
    | some (some o) => (argsO E r).map (o :: ·)
    | _ => none) P ↔ _
  split
  · next o h => rw [wo_map]; exact ⟨fun q => ⟨o, h, q⟩, fun ⟨o', h', q⟩ => by rw [h] at h'; cases h'; exact q⟩
  · next h => exact ⟨fun q => q.elim, fun ⟨d', h', q⟩ => (h _ h').elim⟩
theorem wo_argsD0 {P : List D → Prop} : WO (argsD []) P ↔ P [] := Iff.rfl
theorem wo_argsDd {P : List D → Prop} {x : D} {r : List Arg} : WO (argsD (.d x :: r)) P ↔ WO (argsD r) fun l => P (x :: l) := by
  show WO ((argsD r).map _) P ↔ _; rw [wo_map]
theorem slotsA0 : slotsA [] = [] := rfl
theorem slotsAd {x : D} {r : List Arg} : slotsA (.d x :: r) = slotsA r := rfl
theorem slotsAs {i : Nat} {r : List Arg} : slotsA (.s i :: r) = i :: slotsA r := rfl
theorem backE0 {es : En} : backE E [] es = E := by cases es <;> rfl
theorem backEd {x : D} {r : List Arg} {e : Option O} {es : En} : backE E (.d x :: r) (e :: es) = backE E r es := rfl
theorem backEs {i : Nat} {r : List Arg} {e : Option O} {es : En} : backE E (.s i :: r) (e :: es) = backE (E.set i e) r es := rfl
end
theorem map_snocD {ds : List D} {d : D} : ds.map O.dt ++ [O.dt d] = (ds ++ [d]).map O.dt := by simp
theorem map_setD {ds : List D} {d : D} {j : Nat} : (ds.map O.dt).set j (O.dt d) = (ds.set j d).map O.dt := by rw [List.map_set]
theorem map_snocI {ns : List Int} {n : Int} : ns.map PyData.int ++ [PyData.int n] = (ns ++ [n]).map PyData.int := by simp
/-! ### loops -/
section
variable {Q : Out → En → Prop} {X : Str → List (Str × D) → En → Prop} {ks : List Nat} {bd : D → En → Option En} {b : M Out} {E : En}
def agQ (ks : List Nat) (N : En → Prop) (Q : Out → En → Prop) : Out → En → Prop := fun o E2 => match o with
  | .nx => N (killE ks E2)
  | .ct => N (killE ks E2)
  | .br => Q .nx (killE ks E2)
  | .rt o => Q (.rt o) E2
theorem agQ_nx {N : En → Prop} : agQ ks N Q .nx E ↔ N (killE ks E) := Iff.rfl
theorem agQ_ct {N : En → Prop} : agQ ks N Q .ct E ↔ N (killE ks E) := Iff.rfl
theorem agQ_br {N : En → Prop} : agQ ks N Q .br E ↔ Q .nx (killE ks E) := Iff.rfl
theorem agQ_rt {N : En → Prop} {o : O} : agQ ks N Q (.rt o) E ↔ Q (.rt o) E := Iff.rfl
theorem w_agN {N : En → Prop} (h : WE (killE ks E) N) : agQ ks N Q .nx E := h
theorem w_agC {N : En → Prop} (h : WE (killE ks E) N) : agQ ks N Q .ct E := h
theorem w_agB {N : En → Prop} (h : WE (killE ks E) fun F => Q .nx F) : agQ ks N Q .br E := h
theorem w_agR {N : En → Prop} {o : O} (h : Q (.rt o) E) : agQ ks N Q (.rt o) E := h
theorem w_appI {P : En → Prop} {k : Nat} {ns : List Int} {v : Int} (h : WE (E.set k (some (.lst (((ns ++ [v]).map PyData.int).map .dt)))) P) : WE (E.set k (some (.lst ((ns.map PyData.int).map O.dt ++ [.dt (.int v)])))) P := by
  have e : (ns.map PyData.int).map O.dt ++ [.dt (.int v)] = ((ns ++ [v]).map PyData.int).map O.dt := by simp
  rw [e]; exact h
theorem w_appD {P : En → Prop} {k : Nat} {ds : List D} {v : D} (h : WE (E.set k (some (.lst ((ds ++ [v]).map .dt)))) P) : WE (E.set k (some (.lst (ds.map O.dt ++ [.dt v])))) P := by
  have e : ds.map O.dt ++ [.dt v] = (ds ++ [v]).map O.dt := by simp
  rw [e]; exact h
theorem w_putI {P : En → Prop} {k : Nat} {π : List PSt} {ns : List Int} {j : Nat} {v : Int} (h : WE (putE E k π (.lst (((ns.set j v).map PyData.int).map .dt))) P) : WE (putE E k π (.lst (((ns.map PyData.int).map O.dt).set j (.dt (.int v))))) P := by
  have e : ((ns.map PyData.int).map O.dt).set j (.dt (.int v)) = ((ns.set j v).map PyData.int).map O.dt := by rw [List.map_set, List.map_set]
  rw [e]; exact h
theorem w_putD {P : En → Prop} {k : Nat} {π : List PSt} {ds : List D} {j : Nat} {v : D} (h : WE (putE E k π (.lst ((ds.set j v).map .dt))) P) : WE (putE E k π (.lst ((ds.map O.dt).set j (.dt v)))) P := by
  have e : (ds.map O.dt).set j (.dt v) = (ds.set j v).map O.dt := by rw [List.map_set]
  rw [e]; exact h
theorem wp_again {r : Rs Out} {next : M Out} : Wp (again ks r next) Q X ↔ Wp r (agQ ks (fun E => Wp (next E) Q X) Q) X := by
  unfold again
  cases r with
  | ok o F => cases o <;> exact Iff.rfl
  | exc c fs F => exact Iff.rfl
  | no => exact Iff.rfl
theorem wp_for0 : Wp (forL ks bd b [] E) Q X ↔ Q .nx E := Iff.rfl
theorem wp_for1 {x : D} {xs : List D} : Wp (forL ks bd b (x :: xs) E) Q X ↔ WO (bd x E) fun E1 => Wp (b E1) (agQ ks (fun E => Wp (forL ks bd b xs E) Q X) Q) X := by
  show Wp (match bd x E with
    | some E1 => again ks (b E1) (forL ks bd b xs)
    | none => .no) Q X ↔ _
  cases bd x E with
  | none => exact Iff.rfl
  | some E1 => exact wp_again
/-- a for by its place -/
theorem for_at {xs : List D} (Inv : Nat → En → Prop) (h0 : Inv 0 E) (hs : ∀ i d E, xs[i]? = some d → Inv i E → WO (bd d E) fun E1 => Wp (b E1) (agQ ks (Inv (i + 1)) Q) X) (hd : ∀ E, Inv xs.length E → Q .nx E) : Wp (forL ks bd b xs E) Q X := by
  have key : ∀ (ys : List D) (n : Nat) (E : En), n + ys.length = xs.length → (∀ i, ys[i]? = xs[n + i]?) → Inv n E → Wp (forL ks bd b ys E) Q X := by
    intro ys
    induction ys with
    | nil => intro n E hl hy hi; have : n = xs.length := by simpa using hl
             subst this; exact hd E hi
    | cons y ys ih =>
      intro n E hl hy hi
      rw [wp_for1]
      have hy0 : xs[n]? = some y := by have := hy 0; simpa using this.symm
      refine (hs n y E hy0 hi).mono fun E1 h1 => h1.mono fun o E2 h2 => ?_
      have rc_ : ∀ E, Inv (n + 1) E → Wp (forL ks bd b ys E) Q X := fun E h => ih (n + 1) E (by simp at hl; omega) (fun i => by have := hy (i + 1); simp at this; rw [this]; congr 1; omega) h
      cases o with
      | nx => exact rc_ _ h2
      | ct => exact rc_ _ h2
      | br => exact h2
      | rt o => exact h2
  exact key xs 0 E (by simp) (fun i => by simp) h0
/-- a for over whole numbers, by what is done -/
theorem for_ints {ns : List Int} (Inv : List Int → En → Prop) (h0 : Inv [] E) (hs : ∀ pre n post E, ns = pre ++ n :: post → Inv pre E → WO (bd (.int n) E) fun E1 => Wp (b E1) (agQ ks (Inv (pre ++ [n])) Q) X) (hd : ∀ E, Inv ns E → Q .nx E) : Wp (forL ks bd b (ns.map .int) E) Q X := by
  refine for_at (fun i E => Inv (ns.take i) E) (by simpa using h0) (fun i d E e hi => ?_) (fun E h => hd E (by simpa using h))
  rw [List.getElem?_map] at e
  cases q : ns[i]? with
  | none => rw [q] at e; cases e
  | some n =>
    rw [q] at e; cases e
    have hl : i < ns.length := (List.getElem?_eq_some_iff.mp q).1
    have hn : ns[i] = n := (List.getElem?_eq_some_iff.mp q).2
    have e1 : ns = ns.take i ++ n :: ns.drop (i + 1) := by rw [← hn, List.getElem_cons_drop, List.take_append_drop]
    have e2 : ns.take (i + 1) = ns.take i ++ [n] := by rw [List.take_succ, q]; rfl
    have := hs (ns.take i) n (ns.drop (i + 1)) E e1 hi
    rw [e2]; exact this
theorem rangeD_len {lo : Int} {n : Nat} : (rangeD lo n).length = n := by simp [rangeD]
/-- a for over a range -/
theorem for_rng {lo : Int} {n : Nat} (Inv : Nat → En → Prop) (h0 : Inv 0 E) (hs : ∀ i E, i < n → Inv i E → WO (bd (.int (lo + (i : Nat))) E) fun E1 => Wp (b E1) (agQ ks (Inv (i + 1)) Q) X) (hd : ∀ E, Inv n E → Q .nx E) : Wp (forL ks bd b (rangeD lo n) E) Q X := by
  refine for_at Inv h0 (fun i d E e hi => ?_) (fun E h => hd E (by rw [rangeD_len] at h; exact h))
  have hl : i < n := by have := (List.getElem?_eq_some_iff.mp e).1; rwa [rangeD_len] at this
  have e2 : d = .int (lo + (i : Nat)) := by
    unfold rangeD at e
    rw [List.getElem?_map, List.getElem?_range hl] at e
    exact (Option.some.inj e).symm
  subst e2
  exact hs i E hl hi
theorem wp_while1 {mt : M Bool} {N : Nat} : Wp (whileL ks mt b (N + 1) E) Q X ↔ Wp (mt E) (fun k E1 => if k = true then Wp (b E1) (agQ ks (fun E => Wp (whileL ks mt b N E) Q X) Q) X else Q .nx E1) X := by
  show Wp ((mt E).bind fun k E1 => if k then again ks (b E1) (whileL ks mt b N) else .ok .nx E1) Q X ↔ _
  rw [wp_bind]
  constructor <;> intro h <;> refine h.mono fun k E1 h => ?_
  · cases k with
    | false => exact h
    | true => exact wp_again.mp h
  · cases k with
    | false => exact h
    | true => exact wp_again.mpr h
/-- a while by a measure -/
theorem while_by {mt : M Bool} (Inv : Nat → En → Prop) {n N : Nat} (h0 : Inv n E) (hN : n < N) (hs : ∀ m E, Inv m E → Wp (mt E) (fun k E1 => if k = true then Wp (b E1) (agQ ks (fun E2 => ∃ m', m' < m ∧ Inv m' E2) Q) X else Q .nx E1) X) : Wp (whileL ks mt b N E) Q X := by
  induction N generalizing n E with
  | zero => omega
  | succ N ih =>
    rw [wp_while1]
    refine (hs n E h0).mono fun k E1 h => ?_
    cases k with
    | false => exact h
    | true =>
      rw [if_pos rfl] at h ⊢
      refine h.mono fun o E2 h2 => ?_
      cases o with
      | nx => obtain ⟨m', hm, hi⟩ := h2; exact ih hi (by omega)
      | ct => obtain ⟨m', hm, hi⟩ := h2; exact ih hi (by omega)
      | br => exact h2
      | rt o => exact h2
end
/-! ### comprehensions -/
section
variable {Q : O → En → Prop} {X : Str → List (Str × D) → En → Prop} {vs : List Nat} {bd : D → En → Option En} {mt : M Bool} {me : M O} {E : En}
theorem lc_nil {acc : List O} : Wp (lcL vs bd mt me [] acc E) Q X ↔ Q (.lst acc) E := Iff.rfl
theorem lc_cons {d : D} {ds : List D} {acc : List O} (h : WO (bd d E) fun E1 => Wp (mt E1) (fun k E2 => if k = true then Wp (me E2) (fun o E3 => acc.length < 16777216 ∧ Wp (lcL vs bd mt me ds (acc ++ [o]) (killE vs E3)) Q X) XF else Wp (lcL vs bd mt me ds acc (killE vs E2)) Q X) XF) : Wp (lcL vs bd mt me (d :: ds) acc E) Q X := by
  show Wp (match bd d E with
    | none => .no
    | some E1 => match mt E1 with
      | .ok true E2 => (match me E2 with
        | .ok o E3 => if acc.length < 16777216 then lcL vs bd mt me ds (acc ++ [o]) (killE vs E3) else .no
        | _ => .no)
      | .ok false E2 => lcL vs bd mt me ds acc (killE vs E2)
      | _ => .no) Q X
  cases g : bd d E with
  | none => rw [g] at h; exact h.elim
  | some E1 =>
    rw [g] at h
    replace h : Wp (mt E1) _ _ := h
    simp only
    cases g1 : mt E1 with
    | ok k E2 =>
      rw [g1] at h
      replace h : if k = true then _ else _ := h
      cases k with
      | false => exact h
      | true =>
        rw [if_pos rfl] at h
        simp only
        cases g2 : me E2 with
        | ok o E3 =>
          rw [g2] at h
          obtain ⟨c, h⟩ := h
          simp only [if_pos c]
          exact h
        | exc c fs F => rw [g2] at h; exact h.elim
        | no => rw [g2] at h; exact h.elim
    | exc c fs F => rw [g1] at h; exact h.elim
    | no => rw [g1] at h; exact h.elim
/-- a comprehension by its place: what is made so far, the slots -/
theorem lc_at {ds : List D} (Inv : Nat → List O → En → Prop) (h0 : Inv 0 [] E) (hl : ds.length ≤ 16777216) (hs : ∀ i d acc E, ds[i]? = some d → acc.length ≤ i → Inv i acc E → WO (bd d E) fun E1 => Wp (mt E1) (fun k E2 => if k = true then Wp (me E2) (fun o E3 => Inv (i + 1) (acc ++ [o]) (killE vs E3)) XF else Inv (i + 1) acc (killE vs E2)) XF) (hd : ∀ acc E, Inv ds.length acc E → Q (.lst acc) E) : Wp (lcL vs bd mt me ds [] E) Q X := by
  have key : ∀ (ys : List D) (n : Nat) (acc : List O) (E : En), n + ys.length = ds.length → (∀ i, ys[i]? = ds[n + i]?) → acc.length ≤ n → Inv n acc E → Wp (lcL vs bd mt me ys acc E) Q X := by
    intro ys
    induction ys with
    | nil => intro n acc E hl hy _ hi; have : n = ds.length := by simpa using hl
             subst this; exact hd acc E hi
    | cons y ys ih =>
      intro n acc E hl2 hy ha hi
      have hy0 : ds[n]? = some y := by have := hy 0; simpa using this.symm
      have rc_ : ∀ acc E, acc.length ≤ n + 1 → Inv (n + 1) acc E → Wp (lcL vs bd mt me ys acc E) Q X := fun acc E ha h => ih (n + 1) acc E (by simp at hl2; omega) (fun i => by have := hy (i + 1); simp at this; rw [this]; congr 1; omega) ha h
      refine lc_cons ((hs n y acc E hy0 ha hi).mono fun E1 h1 => h1.mono fun k E2 h2 => ?_)
      cases k with
      | false => exact rc_ _ _ (by omega) h2
      | true =>
        rw [if_pos rfl] at h2 ⊢
        exact h2.mono fun o E3 h3 => ⟨by simp at hl2; omega, rc_ _ _ (by simp; omega) h3⟩
  exact key ds 0 [] E (by simp) (fun i => by simp) (by simp) h0
/-- one that leaves the slots: a map -/
theorem lc_map {ds : List D} (g : D → O) (hl : ds.length ≤ 16777216) (hs : ∀ d ∈ ds, WO (bd d E) fun E1 => Wp (me E1) (fun o E3 => o = g d ∧ killE vs E3 = E) XF) (hq : Q (.lst (ds.map g)) E) : Wp (lcL vs bd (fun E => .ok true E) me ds [] E) Q X := by
  refine lc_at (fun i acc F => F = E ∧ acc = (ds.take i).map g) ⟨rfl, by simp⟩ hl (fun i d acc F e _ h => ?_) fun acc F h => ?_
  · obtain ⟨rfl, rfl⟩ := h
    refine (hs d (List.mem_of_getElem? e)).mono fun E1 h1 => ?_
    simp only [wp_ok, if_true]
    refine h1.mono fun o E3 h3 => ⟨h3.2, ?_⟩
    rw [List.take_succ, e, h3.1]; simp
  · obtain ⟨rfl, rfl⟩ := h
    rw [List.take_length]; exact hq
end
end Lf
set_option Elab.async false
set_option linter.all false
set_option maxRecDepth 100000
set_option maxHeartbeats 4000000
/-! Plain laws: defs that ask the caught exception. -/
namespace Lf
open PySem L2
section
variable {X : Str → List (Str × D) → En → Prop} {E : En} {K : Frag} {p : Addr × Obj} {C : Addr} {ma : M D} {Q : D → En → Prop}
theorem w_isX (h : Wp (ma E) (fun d E1 => WO (isX K p C d) fun b => Q (.bool b) E1) XF) : Wp (mIsX K p C ma E) Q X := by
  unfold mIsX
  cases e : ma E with
  | ok d E1 => rw [e] at h; simp only [wp_lift, wo_map]; exact h
  | exc c fs F => rw [e] at h; exact h.elim
  | no => rw [e] at h; exact h.elim
theorem w_fldX {f : Str} (h : Wp (ma E) (fun d E1 => WO (fldX K p f d) fun b => Q b E1) XF) : Wp (mFldX K p f ma E) Q X := by
  unfold mFldX
  cases e : ma E with
  | ok d E1 => rw [e] at h; simp only [wp_lift]; exact h
  | exc c fs F => rw [e] at h; exact h.elim
  | no => rw [e] at h; exact h.elim
end
/-- what is told of the classes of an error of the class c -/
def clsD (tab : List (Str × Str)) (c : Str) : D := .list ((tab.filter fun q => decide (c = q.2)).map fun q => .str q.1)
/-- what is told of what it keeps -/
def kepO (l1 : List (Str × Str)) (c : Str) (fs : List (Str × D)) : Option D := match l1.lookup c with
  | none => some .none
  | some f => match fs with
    | [(g, x)] => if g = f then some x else none
    | _ => none
def refR (tag : Str) (tab l1 : List (Str × Str)) (c : Str) (fs : List (Str × D)) : M Out := fun E => match kepO l1 c fs with
  | some k => .ok (.rt (.dt (.tuple [.str tag, clsD tab c, k]))) E
  | none => .no
theorem ref_ok {rc rk : List O → Rs O} {tag : Str} {tab l1 : List (Str × Str)} {c : Str} {fs : List (Str × D)} {d : D} {i : Nat} {E E2 : En} {out : Out} (h1 : rc [.dt d] = .ok (.dt (clsD tab c)) [none]) (h2 : ∀ k, kepO l1 c fs = some k → rk [.dt d] = .ok (.dt k) [none]) (hi : i < E.length)
    (hm : refR tag tab l1 c fs (E.set i none) = .ok out E2) :
    ∃ E3, (mRetD (mDisp .tuple (mArgD (mC (.str tag)) (mArgD (mFz (mCall rc (mArgD (mVar i) mNilA))) (mArgD (mFz (mCall rk (mArgD (mVar i) mNilA))) mNilA))))) (E.set i (some (.dt d))) = .ok out E3 ∧ E3.set i none = E2 := by
  unfold refR at hm
  cases e : kepO l1 c fs with
  | none => rw [e] at hm; cases hm
  | some k =>
    rw [e] at hm
    cases hm
    refine ⟨E.set i (some (.dt d)), wp_eq ?_, by rw [List.set_set]⟩
    have hv : (E.set i (some (.dt d)))[i]? = some (some (.dt d)) := by rw [List.getElem?_set_self hi]
    generalize E.set i (some (.dt d)) = F at hv
    have sl : ∀ P : D → Prop, P d → WO (slD F i) P := fun P hp => by rw [wo_slD]; exact ⟨d, hv, hp⟩
    refine w_retD (w_disp (w_argD (w_c (w_argD (w_fz (w_call (w_argD (w_var (sl _ (w_nilA ⟨Nat.zero_le _, w_argsOd (w_argsO0 ?_)⟩))))))))))
    rw [h1]
    refine w_ok (w_backD (w_back0 ?_))
    rw [toD_dt]
    refine w_some (w_argD (w_fz (w_call (w_argD (w_var (sl _ (w_nilA ⟨Nat.zero_le _, w_argsOd (w_argsO0 ?_)⟩)))))))
    rw [h2 k e]
    refine w_ok (w_backD (w_back0 ?_))
    rw [toD_dt]
    exact w_some (w_nilA (w_argsDd (w_argsDd (w_argsDd (w_argsD0 ⟨Nat.le_of_ble_eq_true rfl, rfl, rfl⟩)))))
/-- the names that go with True -/
theorem lc_flt {i j : Nat} {L : List (Str × Bool)} {E : En} {Q : O → En → Prop} {X : Str → List (Str × D) → En → Prop} (hij : i ≠ j) (hi : i < E.length) (hj : j < E.length) (he : (E.set i none).set j none = E) (hl : L.length ≤ 16777216)
    (hq : Q (.lst (((L.filter (·.2)).map fun q => PyData.str q.1).map .dt)) E) :
    Wp (lcL [i, j] (bTup [i, j]) (mB (mVar j)) (mDt (mVar i)) (L.map fun q => .tuple [.str q.1, .bool q.2]) [] E) Q X := by
  refine lc_at (fun n acc F => F = E ∧ acc = (((L.take n).filter (·.2)).map fun q => PyData.str q.1).map .dt) ⟨rfl, rfl⟩ (by simpa using hl) (fun n d acc F e _ h => ?_) fun acc F h => ?_
  · obtain ⟨rfl, rfl⟩ := h
    rw [List.getElem?_map] at e
    cases q : L[n]? with
    | none => rw [q] at e; cases e
    | some z =>
      obtain ⟨a, b⟩ := z
      rw [q] at e; cases e
      refine w_bTup (w_asTD (w_setAll1 ?_))
      rw [wo_stE]
      refine ⟨hi, w_setAll1 ?_⟩
      rw [wo_stE]
      refine ⟨by rw [List.length_set]; exact hj, w_setAll0 (w_B (w_var ?_))⟩
      rw [wo_slD]
      refine ⟨.bool b, by rw [List.getElem?_set_self (by rw [List.length_set]; exact hj)], w_asB ?_⟩
      have hk : killE [i, j] ((F.set i (some (.dt (.str a)))).set j (some (.dt (.bool b)))) = F := by
        show ((((F.set i (some (.dt (.str a)))).set j (some (.dt (.bool b)))).set i none).set j none) = F
        rw [List.set_comm _ _ (Ne.symm hij), List.set_set, List.set_set, he]
      cases b with
      | true =>
        rw [if_pos rfl]
        refine w_dt (w_var ?_)
        rw [wo_slD]
        refine ⟨.str a, by rw [List.getElem?_set_ne (Ne.symm hij), List.getElem?_set_self hi], hk, ?_⟩
        rw [List.take_succ, q]; simp
      | false =>
        rw [if_neg (by simp)]
        refine ⟨hk, ?_⟩
        rw [List.take_succ, q]; simp
  · obtain ⟨rfl, rfl⟩ := h
    rw [List.length_map, List.take_length]; exact hq
section
open PySem.Spec PyProof.Rows
theorem fn_mk2 {P : Program} {w : World} {K : Frag} {mg : Str → Option Value} {base : Heap} {x qual : Str} {st : Stmt} {f : Addr} {fd : FuncData} {N ps : List Str} {k : Nat} (F : FunD K x qual (defArgs st) (defBody st) (defScope st) [] [] f fd) (S : FnScope N ps (defScope st)) (fl : List Bool) (hfl : fl.length = ps.length) (hN : ps.length ≤ N.length) (body : M Out)
    (hb : ∀ (cdv : Value) (A : Around) (outer : List Env) (s : Shared) (H : Hp) (E : XK), Room k (A.deeper (envOfC qual (defScope st) s.heap.objs.size f cdv)) →
      L2N.Takes (cxOf (L2N.CX P w) P w K mg base N qual (defScope st) f cdv A outer s H E) (fun cls d _ H' => E cls d H') →
      PassesOwn (model P w) (cxOf (L2N.CX P w) P w K mg base N qual (defScope st) f cdv A outer s H E).A (cxOf (L2N.CX P w) P w K mg base N qual (defScope st) f cdv A outer s H E).env (cxOf (L2N.CX P w) P w K mg base N qual (defScope st) f cdv A outer s H E).xe →
      AB (cxOf (L2N.CX P w) P w K mg base N qual (defScope st) f cdv A outer s H E) (fun cls d _ H' => E cls d H') (pinsOf 0 fl) (defBody st) body) :
    FnOk P w K mg base (L2N.CX P w) (k + 1) f fd ps (spOf K mg fl.length (mFn fl N.length body)) := by
  rw [hfl]
  exact fn_ok F S fl hfl hN body fun cdv A outer s H E hr => hb cdv A outer s H E hr (L2N.takes_of rfl rfl rfl rfl) (passes_of (X := cxOf (L2N.CX P w) P w K mg base N qual (defScope st) f cdv A outer s H E) rfl)
end
theorem rmH {k : Nat} {A : Around} {h : Option Value} (r : Room k A) : L2H.RoomH k (A.mark h) := ⟨r.dp, r.un⟩
end Lf
set_option Elab.async false
set_option linter.all false
set_option maxRecDepth 100000
set_option maxHeartbeats 4000000
/-! The lifting layer: the head's Hook, the end. -/
namespace Lf
open PySem PySem.Spec PyProof.Rows L2
/-- what the names of the module reach in n steps, and the library's statics -/
def asY (g : Addr → Option Obj) : Nat → List Addr
  | 0 => [mainGlobals, PySem.cStatics]
  | n + 1 => He.growD g (asY g n)
abbrev AlY : Type := He.AlD × Bool
def obsY (n : Nat) (fa : List He.Fa) (fn : List He.DefD) (ex : Frag → Bool) (g : Addr → Option Obj) : AlY := (He.obsD fa fn (He.frG g (asY g n)), ex (He.frG g (asY g n)))
def hookY (n : Nat) (fa : List He.Fa) (fn : List He.DefD) (ex : Frag → Bool) : PySem.W.Hook where
  α := AlY
  obs := fun s => obsY n fa fn ex s.heap.get?
  val := fun _ => (He.valD fn, true)
  says := fun _ h => ∃ K : Frag, K.In h ∧ He.SaysD fa fn K ∧ ex K = true
  of := fun _ _ e => ⟨_, He.frG_in, congrArg (fun z : AlY => z.1) e, congrArg (fun z : AlY => z.2) e⟩
  keeps := fun _ _ _ ⟨K, hK, c⟩ k => ⟨K, PySem.W.Frag.In.keeps hK k, c⟩
theorem obsY_eq {n : Nat} {fa : List He.Fa} {fn : List He.DefD} {ex : Frag → Bool} {g : Addr → Option Obj} {s : Shared} (h : ∀ a, g a = s.heap.get? a) : obsY n fa fn ex g = (hookY n fa fn ex).obs s := by
  have e : g = s.heap.get? := funext h
  rw [e] <;> rfl
/-- the script, as the law's def gets it -/
def scrD (ns : List Int) : D := .dict [(.none, .list (ns.map .int))]
theorem law_sp {K : Frag} {mg : Str → Option Value} {run : List O → Rs O} {H : Hp} {a : Addr} {ns : List Int} {es : En} (hO : Only H) (hS : SqL K H a (ns.map V.int)) (h : run [.dt (scrD ns)] = .ok (.dt (.bool true)) es) :
    spOf K mg 1 run [.ref a] H (fun v _ => v = .bl true) fun _ _ _ => False := by
  refine ⟨⟨H, H, []⟩, [.dt (scrD ns)], rfl, rfl, ⟨fun _ _ h => h, ?_, List.nodup_nil⟩, ?_⟩
  · exact EO.cons (fp := []) (FP := []) (.ow (.dt (.scr hS (dps_ints ns)))) .nil
  · rw [h]
    intro w' v fp _ _ b
    cases b.rel with
    | dt hd => exact dp_bool hd
/-- the end of a law: its def's reading says True at every script -/
theorem law_end {l : PySem.W.OpenLaw} {q : Program} {loose : List Str} {XP : (Str → Option Value) → Heap → Prop} {d : PySem.DefRec} {k : Nat} {fa : List He.Fa} {fn : List He.DefD} {ex : Frag → Bool} {run : List O → Rs O}
    (hn : l.most = some 63) (hdf : d.params.defaults = []) (hr : Room k callerA)
    (F : ∀ (w : World) (K : Frag) (mg : Str → Option Value) (h : Heap) (f : Addr), K.In h → h.Ns mainGlobals mg → He.SaysD fa fn K → ex K = true → mg d.name = some (.ref f) →
      ∃ fd : FuncData, (∀ (s : Shared) (v : Value), BindsTo s fd ⟨[v], []⟩ [("script", v)]) ∧ ∀ base : Heap, K.In base → base.Ns mainGlobals mg → FnOk l.prog w K mg base (L2N.CX l.prog w) k f fd ["script"] (spOf K mg 1 run))
    (R : ∀ ns : List Int, ns.length ≤ 63 → ∃ es, run [.dt (scrD ns)] = .ok (.dt (.bool true)) es) :
    PySem.W.WalkO q loose XP (fun _ h => ∃ K : Frag, K.In h ∧ He.SaysD fa fn K ∧ ex K = true) l.row.toRowW d [] (fun f vs => PySem.call f vs) := by
  refine Att.attach_call hn hdf ?_
  intro w s0 s1 mg mb fa' o pm cd doc a vs ns G Y ho hd hcd hmg hobj hints hlen hg
  obtain ⟨K, KX, c, e⟩ := Y
  obtain ⟨fd, hb, hF⟩ := F w K mg _ fa' KX G.T.g c e hmg
  have fit : ns.length ≤ sizeLine := Nat.le_trans hlen (by decide)
  refine law_call KX G.T.g G.T.b G.T.builtins G.T.nolimit hg hobj hints fit hr hF hb ?_ ?_
  · intro H hO hS
    obtain ⟨es, he⟩ := R ns hlen
    exact law_sp hO hS he
  · intro H e' s' z
    obtain ⟨_, _, _, _, _, _, _, _, _, _, _, _, z⟩ := z
    exact z
end Lf
set_option Elab.async false
set_option linter.all false
set_option maxRecDepth 100000
set_option maxHeartbeats 4000000
/-! The lifting layer: slices as lists of one's own, xs[a:b] = ys, del xs[a:b], items of items handed on. -/
namespace Lf
open PySem PySem.Spec PyProof.Rows L2

/-! ### xs[a:b], a list of one's own -/
def slL : D → Option Int → Option Int → Option (List D)
  | .list xs, lo, hi => some (cutL xs lo hi)
  | _, _, _ => none
def mSlO (m : M D) (ml mh : M (Option Int)) : M O := fun E => (m E).bind fun x E1 => (ml E1).bind fun lo E2 => (mh E2).bind fun hi E3 => lift ((slL x lo hi).map lstO) E3
section
variable {X : Cx} {W : WX} {pz : List Nat} {e o i c a b : Expr} {lo hi : Option Expr} {pos p2 : Pos} {ma : M D} {ml mh : M (Option Int)}
theorem ao_slO (he : AD X W e ma) (hl : AP X W lo ml) (hh : AP X W hi mh) : AO X W (.Subscript e (.Slice lo hi none p2) pos) (mSlO ma ml mh) := by
  obtain ⟨te, p, s⟩ := he
  obtain ⟨tl, pl, sl⟩ := hl
  obtain ⟨th, ph, sh⟩ := hh
  refine ⟨_, pe_slice sl_list p pl ph, fun w σ E Q k po => s.runw k po fun d E1 w1 k1 s1 po1 v h1 => sl.run k1 (po1.from back_O s1) back_O fun l E2 w2 k2 s2 po2 => sh.run k2 po2 back_O fun u E3 w3 k3 s3 po3 => ?_⟩
  obtain ⟨z, hz, q⟩ := po3.lift
  have hv := dp_mono (s2.trans s3).ii _ _ h1
  cases d with
  | list xs =>
    obtain ⟨a, vs, rfl, g1, g2⟩ := dp_list hv
    cases hz
    refine ⟨a, vs, rfl, SqL.of (k3.sub _ _ g1), fun pp hp => ?_⟩
    have hd : DqAll X.K w3.I (cutV vs l u) (cutL xs l u) := by
      unfold cutV cutL
      rw [dps_length g2]
      exact dps_take _ (dps_drop _ g2)
    obtain ⟨k4, s4, bb⟩ := bes_new k3 (Stp.refl w3) hp hd
    exact q _ k4 s4 _ _ bb
  | _ => cases hz
theorem ao_if {m : M Bool} {mo mo2 : M O} (hc : AT X W c m) (ha : AO X W a mo) (hb : AO X W b mo2) : AO X W (.IfExp c a b pos) (mIfO m mo mo2) := by
  obtain ⟨tt, p, s⟩ := hc
  obtain ⟨ta, pa, sa⟩ := ha
  obtain ⟨tb, pb, sb⟩ := hb
  refine ⟨_, pe_ifExp p pa pb, fun w σ E Q k po => s.run k po back_O fun c E1 w1 k1 s1 po1 => ?_⟩
  cases c with
  | true => exact sa w1 σ E1 Q k1 po1
  | false => exact sb w1 σ E1 Q k1 po1
end

/-! ### parts of lists of cells -/
section
variable {K : Frag} {mg : Str → Option Value}
theorem ors_sel {I H : Hp} : ∀ {vs : List V} {os : List O} {fp : List Addr} (i j : Nat), i ≤ j → ORs K mg I H vs os fp → ∃ f1 f2, (f1 ++ f2).Sublist fp ∧ ORs K mg I H (vs.take i) (os.take i) f1 ∧ ORs K mg I H (vs.drop j) (os.drop j) f2
  | _, _, _, i, j, _, .nil => ⟨[], [], List.nil_sublist _, by simpa using ORs.nil, by simpa using ORs.nil⟩
  | _, _, _, 0, 0, _, .cons h hs => ⟨[], _, by simpa using List.Sublist.refl _, .nil, .cons h hs⟩
  | _, _, _, 0, j + 1, _, .cons h hs => by
    obtain ⟨f1, f2, a, b, c⟩ := ors_sel 0 j (Nat.zero_le _) hs
    exact ⟨[], f2, ((List.sublist_append_right f1 f2).trans a).trans (List.sublist_append_right _ _), .nil, c⟩
  | _, _, _, i + 1, 0, hij, .cons h hs => absurd hij (by omega)
  | _, _, _, i + 1, j + 1, hij, .cons h hs => by
    obtain ⟨f1, f2, a, b, c⟩ := ors_sel i j (by omega) hs
    refine ⟨_ ++ f1, f2, ?_, .cons h b, c⟩
    rw [List.append_assoc]
    exact List.Sublist.append_left a _
theorem ors_cat {I H : Hp} : ∀ {vs us : List V} {os ps : List O} {fp fq : List Addr}, ORs K mg I H vs os fp → ORs K mg I H us ps fq → ORs K mg I H (vs ++ us) (os ++ ps) (fp ++ fq)
  | _, _, _, _, _, _, .nil, k => k
  | _, _, _, _, _, _, .cons h hs, k => by
    have r := ORs.cons h (ors_cat hs k)
    rw [← List.append_assoc] at r
    exact r
theorem ors_dts {I H : Hp} : ∀ {vs : List V} {ds : List D}, DqAll K I vs ds → ORs K mg I H vs (ds.map .dt) []
  | _, _, .nil => .nil
  | _, _, .cons h hs => .cons (fp := []) (fq := []) (.dt h) (ors_dts hs)
end

/-! ### the model's del of a slice -/
theorem zip_del {α : Type} {p : Nat → Bool} {a c : Nat} (hp : ∀ k, p k = decide (a ≤ k ∧ k < c)) (hac : a ≤ c) : ∀ (l : List α) (i : Nat), ((l.zipIdx i).filterMap fun q => if p q.2 then none else some q.1) = l.take (a - i) ++ l.drop (c - i)
  | [], i => by simp
  | x :: l, i => by
    rw [List.zipIdx_cons, List.filterMap_cons]
    have ih := zip_del hp hac l (i + 1)
    by_cases h1 : i < a
    · have e : p i = false := by rw [hp]; exact decide_eq_false (by omega)
      simp only [e, Bool.false_eq_true, if_false]
      rw [ih, show a - i = (a - (i + 1)) + 1 by omega, show c - i = (c - (i + 1)) + 1 by omega]
      rfl
    · by_cases h2 : i < c
      · have e : p i = true := by rw [hp]; exact decide_eq_true (by omega)
        simp only [e, if_true]
        rw [ih, show a - i = 0 by omega, show a - (i + 1) = 0 by omega, show c - i = (c - (i + 1)) + 1 by omega]
        rfl
      · have e : p i = false := by rw [hp]; exact decide_eq_false (by omega)
        simp only [e, Bool.false_eq_true, if_false]
        rw [ih, show a - i = 0 by omega, show a - (i + 1) = 0 by omega, show c - i = 0 by omega, show c - (i + 1) = 0 by omega]
        rfl
section
variable {prog : Program} {w : World} {A : Around} {E : Value → Shared → Prop} {s : Shared}
theorem delItem_slice {l sl : Addr} {items : List Value} {n : Nat} {vl vu : Value} {a c : Nat} {Q : Unit → Shared → Prop}
    (e : s.heap.get? l = some { cls := .type "list", data := .seq items.toArray n })
    (hs : s.heap.IsSliceOf sl vl vu .none) (pl : IsPart vl (some (a : Int))) (pu : IsPart vu (some (c : Int))) (hac : a ≤ c) (hc : c ≤ items.length)
    (hsz : items.length ≤ sizeLine) (h : ∀ f, f items.toArray = (items.take a ++ items.drop c).toArray → Q () { s with heap := s.heap.update l (Obj.mapSeq f) }) :
    wpAny (model prog w) A (delItem (.ref l) (.ref sl)) Q E s := by
  have hl : s.heap.IsList l items.toArray := PySem.IsL.isList e
  obtain ⟨os, hos, hcs, hds⟩ := id hs
  have hTs : s.TypeIs (.ref sl) "slice" := ⟨os, hos, hcs⟩
  have hstep : ¬ ((rawPart none == rawInt 0) = true) := Bool.false_ne_true
  refine wpAny_delItem_slot hl.typeIs (by decide) PySem.F.slot_list_delitem ?_
  refine wpAny_call_entry PySem.F.slot_list_delitem hl.typeIs PySem.F.entry_list_delitem ?_ (PySem.F.args_list_delitem_2 _ _)
  show wpAny _ _ (Builtin.List.listSubscript? (.ref sl) >>= _) _ _ s
  refine wpAny_bind ?_
  unfold Builtin.List.listSubscript?
  refine wpAny_bind (wpAny_specialOf hTs slice_no_index ?_)
  simp only [Option.isNone_none, if_true]
  refine wpAny_pure ?_
  show wpAny _ _ (typeOf (.ref sl) >>= _) _ _ s
  refine wpAny_bind (wpAny_typeOf hTs ?_)
  first
    | rw [if_neg (by decide)]
    | refine PySem.W.KFB.if_not (by decide) ?_
  rw [listSliceParts_eq]
  refine wpAny_bind (wpAny_bind (wpAny_field hos hds (x := .none) rfl (wpAny_bind (wpAny_listPart .none ?_))))
  rw [if_neg hstep]
  refine wpAny_bind (wpAny_field hos hds (x := vl) rfl (wpAny_bind (wpAny_listPart pl ?_)))
  refine wpAny_bind (wpAny_field hos hds (x := vu) rfl (wpAny_bind (wpAny_listPart pu (wpAny_pure ?_))))
  unfold Builtin.List.listItems
  refine wpAny_bind (wpAny_bind (wpAny_seqItems e rfl (wpAny_pure ?_)))
  refine wpAny_bind (wpAny_of_eq ((sliceIndices_raw (some (a : Int)) (some (c : Int)) none items.toArray.size (by simp)).trans (congrArg (pure : Int × Int × Int → Sem (Int × Int × Int)) (bounds_run hac (by rw [List.size_toArray]; exact hc)))) ?_)
  refine wpAny_bind (wpAny_rule ?_)
  have hf : ∀ (p : Nat → Bool), (∀ k, p k = decide (a ≤ k ∧ k < c)) → ((items.toArray.toList.zipIdx.filterMap fun x => if p x.2 = true then none else some x.1).toArray) = (items.take a ++ items.drop c).toArray := fun p hp => by
    have := zip_del hp hac items 0
    simpa using this
  have hsel : ∀ k : Nat, ((if (1 : Int) > 0 then decide ((a : Int) ≤ (k : Int)) && decide ((k : Int) < (c : Int)) && (((k : Int) - (a : Int)) % 1 == 0) else decide ((c : Int) < (k : Int)) && decide ((k : Int) ≤ (a : Int)) && (((a : Int) - (k : Int)) % (-1) == 0)) : Bool) = decide (a ≤ k ∧ k < c) := fun k => by
    rw [if_pos (by decide)]
    simp [Int.emod_one]
  have hlen : (items.take a ++ items.drop c).length ≤ items.length := by simp; omega
  refine wpAny_bind (m := updateSeq l _) (wpAny_updateSeq (hz := by rw [List.size_toArray]; exact hsz) (_hz' := ?hz) e rfl ?main)
  case hz =>
    refine Nat.le_trans (Nat.le_of_eq (congrArg Array.size (hf _ (fun k => hsel k)))) ?_
    rw [List.size_toArray]
    omega
  case main =>
    refine wpAny_bind (wpAny_letGo ?_)
    exact wpAny_pure ⟨.none, rfl, h _ (hf _ (fun k => hsel k))⟩
end
section
variable {X : Cx} {lo hi o e : Expr} {pos tpos p2 : Pos} {to tl th te : TE}
def tDelSl (to tl th : TE) : TS := fun D σ H => to σ H fun x H1 => tl σ H1 fun y H2 => th σ H2 fun z H3 => ∃ (l : Addr) (xs : List V) (i j : Int), x = .ref l ∧ y = .int i ∧ z = .int j ∧ H3 l = some (.lst xs) ∧ 0 ≤ i ∧ i ≤ j ∧ j ≤ xs.length ∧ D.nx σ (upd H3 l (.lst (xs.take i.toNat ++ xs.drop j.toNat)))
theorem ps_delSl (ho : PE X o to) (hl : PE X lo tl) (hh : PE X hi th) : PS X (.Delete [.Subscript o (.Slice (some lo) (some hi) none p2) tpos] pos) (tDelSl to tl th) := by
  refine ⟨fun pins s σ H D I h => ?_⟩
  refine wpAny_Delete (wpAny_deleteEach_cons (wpAny_delete_Subscript (thn (ho.run pins s σ H _ I h) fun u s1 ⟨x, H1, I1, rx, q1⟩ => ?_)))
  refine wpAny_Slice ?_
  rw [evalPart_some]
  refine thn (hl.run pins s1 σ H1 _ I1 q1) fun vl s2 ⟨y, H2, I2, ry, q2⟩ => ?_
  rw [evalPart_some]
  refine thn (hh.run pins s2 σ H2 _ I2 q2) fun vu s3 ⟨z, H3, I3, rz, q3⟩ => ?_
  rw [evalPart_none]
  refine wpAny_pure ?_
  obtain ⟨l, xs, i, j, rfl, rfl, rfl, hH, h0, hij, hj, q⟩ := q3
  cases rx
  obtain ⟨ti, rfl⟩ := ry
  obtain ⟨tj, rfl⟩ := rz
  have I4 : Inv X pins σ H3 { s3 with heap := s3.heap.push { cls := .type "slice", data := .fields #[.int i ti, .int j tj, .none] } } := I3.kept (t' := s3.toks) fun b ob q => Heap.get?_push_of_some _ q
  obtain ⟨z, its, n, r, hl', e⟩ := I4.lstM hH
  obtain ⟨a', rfl⟩ := Int.eq_ofNat_of_zero_le h0
  obtain ⟨c', rfl⟩ := Int.eq_ofNat_of_zero_le (Int.le_trans h0 hij)
  simp only [Int.toNat_natCast] at q
  refine delItem_slice (a := a') (c := c') e (Heap.IsSliceOf.new ..) (.int _ _) (.int _ _) (by omega) (by omega) (by omega) fun f hf => ?_
  refine wpAny_deleteEach_nil ⟨σ, _, ?_, q⟩
  refine I4.lset (its' := its.take a' ++ its.drop c') (t' := s3.toks) hH e hf (Vals.append (r.take _) (r.drop _)) ?_
  rw [List.length_append, List.length_take, List.length_drop]
  omega
/-- o[a:b] = .. -/
def gSubSl (to tl th : TE) : TG := fun v σ H Q => to σ H fun x H1 => tl σ H1 fun y H2 => th σ H2 fun z H3 => ∃ (l b : Addr) (xs ys : List V) (i j : Int), x = .ref l ∧ v = .ref b ∧ y = .int i ∧ z = .int j ∧ H3 l = some (.lst xs) ∧ H3 b = some (.lst ys) ∧ l ≠ b ∧ 0 ≤ i ∧ i ≤ j ∧ j ≤ xs.length ∧ xs.length + ys.length ≤ sizeLine ∧
  Q σ (upd H3 l (.lst (xs.take i.toNat ++ ys ++ xs.drop j.toNat)))
theorem pg_subSl (ho : PE X o to) (hl : PE X lo tl) (hh : PE X hi th)
    (ha : ∀ v, assign (.Subscript o (.Slice (some lo) (some hi) none p2) tpos) X.env v = (do
      let ov ← holding [v] (eval o X.env)
      let iv ← holding [v, ov] (eval (.Slice (some lo) (some hi) none p2) X.env)
      standAt tpos
      holding [v, ov, iv] (setItem ov iv v)
      release [iv, v, ov] []) := by intro _; rfl) : PG X (.Subscript o (.Slice (some lo) (some hi) none p2) tpos) (gSubSl to tl th) := by
  refine ⟨fun pins s σ H v u Q I r h => ?_⟩
  rw [ha]
  refine wpAny_bind (wpAny_holding (thn (ho.run pins s σ H _ I h) fun ov s1 ⟨x, H1, I1, rx, q1⟩ => ?_))
  refine wpAny_bind (wpAny_holding (wpAny_Slice ?_))
  rw [evalPart_some]
  refine thn (hl.run pins s1 σ H1 _ I1 q1) fun vl s2 ⟨y, H2, I2, ry, q2⟩ => ?_
  rw [evalPart_some]
  refine thn (hh.run pins s2 σ H2 _ I2 q2) fun vu s3 ⟨z, H3, I3, rz, q3⟩ => ?_
  rw [evalPart_none]
  refine wpAny_pure ?_
  obtain ⟨l, b, xs, ys, i, j, rfl, rfl, rfl, rfl, hH, hB, hne, h0, hij, hj, hz, q⟩ := q3
  cases rx
  cases r
  have I4 : Inv X pins σ H3 { s3 with heap := s3.heap.push { cls := .type "slice", data := .fields #[vl, vu, .none] } } := I3.kept (t' := s3.toks) fun b ob q => Heap.get?_push_of_some _ q
  refine wpAny_bind (wpAny_standAt (wpAny_bind (wpAny_holding ?_)))
  refine set_slice I4 hH hB hne (Heap.IsSliceOf.new ..) ry rz h0 hij hj hz fun s' I' => ?_
  exact wpAny_release ⟨σ, _, I', q⟩
end

/-! ### the readings -/
def mDelSl (mp : En → Option (Nat × List PSt)) (f g : En → Option D) : M Out := fun E => match mp E, f E, g E with
  | some (k, π), some (.int i), some (.int j) => (match nodeE E k π with
    | some (.lst os) => if 0 ≤ i ∧ i ≤ j ∧ j ≤ os.length then .ok .nx (putE E k π (.lst (os.take i.toNat ++ os.drop j.toNat))) else .no
    | _ => .no)
  | _, _, _ => .no
def mSetSl (mp : En → Option (Nat × List PSt)) (f g : En → Option D) (ma : M D) : M Out := fun E => (ma E).bind fun d E1 => match d, mp E1, f E1, g E1 with
  | .list ds, some (k, π), some (.int i), some (.int j) => (match nodeE E1 k π with
    | some (.lst os) => if 0 ≤ i ∧ i ≤ j ∧ j ≤ os.length ∧ os.length + ds.length ≤ 16777216 then .ok .nx (putE E1 k π (.lst (os.take i.toNat ++ ds.map .dt ++ os.drop j.toNat))) else .no
    | _ => .no)
  | _, _, _, _ => .no
section
variable {X : Cx} {W : WX} {pz : List Nat} {lo hi o e : Expr} {pos tpos p2 : Pos} {mp : En → Option (Nat × List PSt)} {f g : En → Option D} {ma : M D}
theorem as_delSl (ho : APl X o mp) (hl : APu X lo f) (hh : APu X hi g) : AS X W pz (.Delete [.Subscript o (.Slice (some lo) (some hi) none p2) tpos] pos) (mDelSl mp f g) := by
  obtain ⟨to, po_, so⟩ := ho
  obtain ⟨tl, pl, sl⟩ := hl
  obtain ⟨th, ph, sh⟩ := hh
  refine ⟨_, ps_delSl po_ pl ph, fun w σ E D ok po => ?_⟩
  unfold mDelSl at po
  split at po
  · next k π i j em ef eg =>
    split at po
    · next os en =>
      split at po
      · next hc =>
        refine so w σ E _ ok k π em fun w2 u ok2 p2 hu => ?_
        refine sl w2 σ E _ ok2 (.int i) ef fun w3 vi ok3 p3 hvi => ?_
        refine sh w3 σ E _ ok3 (.int j) eg fun w4 vj ok4 p4 hvj => ?_
        obtain ⟨v, hv, hat⟩ := hu
        obtain ⟨oo, eo, eg'⟩ := nodeE_some en
        obtain ⟨v', a, vs, fp, c1, c2, c3, c4, c5, c6, c7, c8, c9, c10⟩ := ok4.cell eo eg'
        rw [hv] at c1
        cases c1
        have hat4 := VAt.mono (p3.trans p4).hh hat
        have eu := hat4.inj c2
        subst eu
        obtain ⟨f1, f2, n1, n2, n3⟩ := ors_sel i.toNat j.toNat (by omega) c5
        obtain ⟨w', e1, e2, k', s'⟩ := c10 w4 [] _ _ (f1 ++ f2) (Stp.refl w4) (by simpa using ok4.nd) (fun _ m => absurd m (by simp)) (ors_cat n2 n3) (n1.nodup c7) fun b m => .inl (n1.subset m)
        refine ⟨a, vs, i, j, rfl, dp_int hvi, dp_int hvj, c3, hc.1, hc.2.1, by rw [ors_len c5]; exact hc.2.2, ?_⟩
        rw [← e1]
        refine po w' σ ?_ (((p2.trans p3).trans p4).stp.trans s') (Ag.refl _ _)
        unfold putE
        rw [eo]
        exact k'
      · exact po.elim
    · exact po.elim
  · exact po.elim
theorem as_setSl (ho : APl X o mp) (hl : APu X lo f) (hh : APu X hi g) (he : AD X W e ma)
    (hp : ∀ {to tl th te : TE}, PE X o to → PE X lo tl → PE X hi th → PE X e te → PS X (.Assign [.Subscript o (.Slice (some lo) (some hi) none p2) tpos] e pos) (tAsg te (gSubSl to tl th))) : AS X W pz (.Assign [.Subscript o (.Slice (some lo) (some hi) none p2) tpos] e pos) (mSetSl mp f g ma) := by
  obtain ⟨to, po_, so⟩ := ho
  obtain ⟨tl, pl, sl⟩ := hl
  obtain ⟨th, ph, sh⟩ := hh
  obtain ⟨te, pe, se⟩ := he
  refine ⟨_, hp po_ pl ph pe, fun w σ E D ok po => se.runS ok po fun d E1 w1 k1 s1 po1 y hy => ?_⟩
  split at po1
  · next ds k π i j em ef eg =>
    split at po1
    · next os en =>
      split at po1
      · next hc =>
        refine so w1 σ E1 _ k1 k π em fun w2 u ok2 p2 hu => ?_
        refine sl w2 σ E1 _ ok2 (.int i) ef fun w3 vi ok3 p3 hvi => ?_
        refine sh w3 σ E1 _ ok3 (.int j) eg fun w4 vj ok4 p4 hvj => ?_
        obtain ⟨v, hv, hat⟩ := hu
        obtain ⟨oo, eo, eg'⟩ := nodeE_some en
        obtain ⟨v', a, vs, fp, c1, c2, c3, c4, c5, c6, c7, c8, c9, c10⟩ := ok4.cell eo eg'
        rw [hv] at c1
        cases c1
        have pp := (p2.trans p3).trans p4
        have hat4 := VAt.mono (p3.trans p4).hh hat
        have eu := hat4.inj c2
        subst eu
        obtain ⟨b, ys, rfl, g1, g2⟩ := dp_list (dp_mono pp.ii _ _ hy)
        have hne : a ≠ b := fun q => by rw [← q, c4] at g1; cases g1
        obtain ⟨f1, f2, n1, n2, n3⟩ := ors_sel i.toNat j.toNat (by omega) c5
        have hr := ors_cat (ors_cat n2 (ors_dts g2)) n3
        rw [List.append_nil] at hr
        obtain ⟨w', e1, e2, k', s'⟩ := c10 w4 [] _ _ (f1 ++ f2) (Stp.refl w4) (by simpa using ok4.nd) (fun _ m => absurd m (by simp)) hr (n1.nodup c7) fun b m => .inl (n1.subset m)
        refine ⟨a, b, vs, ys, i, j, rfl, rfl, dp_int hvi, dp_int hvj, c3, ok4.sub _ _ g1, hne, hc.1, hc.2.1, by rw [ors_len c5]; exact hc.2.2.1, by rw [ors_len c5, dps_length g2]; exact hc.2.2.2, ?_⟩
        rw [← e1]
        refine po1 w' σ ?_ (s1.trans (pp.stp.trans s')) (Ag.refl _ _)
        unfold putE
        rw [eo]
        exact k'
      · exact po1.elim
    · exact po1.elim
  · exact po1.elim
theorem gDelSl (ho : APl X o mp) (hl : APu X lo f) (hh : APu X hi g) : AS X W pz (.Delete [.Subscript o (.Slice (some lo) (some hi) none p2) tpos] pos) (mDelSl mp f g) := as_delSl ho hl hh
theorem gSetSl (ho : APl X o mp) (hl : APu X lo f) (hh : APu X hi g) (he : AD X W e ma)
    (ha : ∀ v, assign (.Subscript o (.Slice (some lo) (some hi) none p2) tpos) X.env v = (do
      let ov ← holding [v] (eval o X.env)
      let iv ← holding [v, ov] (eval (.Slice (some lo) (some hi) none p2) X.env)
      standAt tpos
      holding [v, ov, iv] (setItem ov iv v)
      release [iv, v, ov] []) := by intro _; rfl) (hs : swapsWithSole [.Subscript o (.Slice (some lo) (some hi) none p2) tpos] e pos.line X.env = pure false := by rfl) (hw : swappedStores [.Subscript o (.Slice (some lo) (some hi) none p2) tpos] e X.env = pure none := by rfl)
    (h1 : (assignEach [.Subscript o (.Slice (some lo) (some hi) none p2) tpos] X.env).map (·.2) = [assign (.Subscript o (.Slice (some lo) (some hi) none p2) tpos) X.env] := by rfl) :
    AS X W pz (.Assign [.Subscript o (.Slice (some lo) (some hi) none p2) tpos] e pos) (mSetSl mp f g ma) := as_setSl ho hl hh he fun p q r t => ps_asg t (pg_subSl p q r ha) hs hw h1
end

/-! ### an item of an item is handed on, the slot forgotten -/
def mMvIx2 (i j l : Nat) : M O := fun E => match E[i]? with
  | some (some (.tup os)) => (match os[j]? with
    | some (.tup ps) => (match ps[l]? with
      | some o => .ok o (E.set i none)
      | none => .no)
    | _ => .no)
  | _ => .no
section
variable {X : Cx} {W : WX} {pos p1 p2 p3 : Pos}
theorem ao_mvIx2 (i j l : Nat) {x : Str} {xp : Pos} {jt lt} {jp lp : Pos} (hx : PE X (.Name x xp) (tVar i)) (hb : ∀ {ta tb tc : TE}, PE X (.Name x xp) ta → PE X (.Constant (.int (j : Int)) jt jp) tb → PE X (.Constant (.int (l : Int)) lt lp) tc → PE X (.Subscript (.Subscript (.Name x xp) (.Constant (.int (j : Int)) jt jp) p1) (.Constant (.int (l : Int)) lt lp) pos) (tOp (rIx X.K) (tOp (rIx X.K) ta tb) tc)) :
    AO X W (.Subscript (.Subscript (.Name x xp) (.Constant (.int (j : Int)) jt jp) p1) (.Constant (.int (l : Int)) lt lp) pos) (mMvIx2 i j l) := by
  refine ⟨_, hb hx pe_int pe_int, fun w σ E Q k po => ?_⟩
  unfold mMvIx2 at po
  split at po
  · next os e =>
    split at po
    · next ps ej =>
      split at po
      · next o el =>
        obtain ⟨w', v, fp, e1, e2, e3, k', s', b⟩ := k.mv e
        have rel := b.rel
        cases rel with
        | @tup a vs _ fp' h1 h2 h3 =>
          obtain ⟨u, fpj, FR, u1, u2, u3, _⟩ := ors_at h3 ej
          cases u2 with
          | @tup a2 vs2 _ fp2 g1 g2 g3 =>
            obtain ⟨u', fpl, FR2, y1, y2, y3, _⟩ := ors_at g3 el
            have at1 : atI vs (j : Int) = some (.ref a2) := atI_nat u1
            have at2 : atI vs2 (l : Int) = some u' := atI_nat y1
            have bnd := List.nodup_append.mp b.nd
            have nd1 := List.nodup_cons.mp bnd.1
            have nd2 := List.nodup_cons.mp (List.nodup_append.mp (u3.nodup_iff.mp nd1.2)).1
            have sub : ∀ x ∈ fpl, x ∈ a :: fp' := fun x m => List.mem_cons_of_mem _ (u3.mem_iff.mpr (List.mem_append_left _ (List.mem_cons_of_mem _ (y3.mem_iff.mpr (List.mem_append_left _ m)))))
            have fin : Q u' w.H := by
              rw [← e1]
              refine po w' k' s' u' fpl ⟨y2, List.nodup_append.mpr ⟨(List.nodup_append.mp (y3.nodup_iff.mp nd2.2)).1, k'.nd, fun x m y m' => bnd.2.2 x (sub x m) y m'⟩, fun x m => b.new x (sub x m)⟩
            rw [e1] at h1 g1
            exact ⟨.ref a, e3, .inr (.inl ⟨a, vs, _, .ref a2, rfl, rfl, SqT.of h1, at1, .inr (.inl ⟨a2, vs2, _, u', rfl, rfl, SqT.of g1, at2, fin⟩)⟩)⟩
      · exact po.elim
    · exact po.elim
  · exact po.elim
theorem gMvIx2 (i j l : Nat) {x : Str} {jt lt} {p4 : Pos} (h : PE X (.Name x p1) (tVar i) := by exact pv _) : AO X W (.Subscript (.Subscript (.Name x p1) (.Constant (.int (j : Int)) jt p2) p3) (.Constant (.int (l : Int)) lt p4) pos) (mMvIx2 i j l) := ao_mvIx2 i j l h fun p q r => pe_ix ix_seq (pe_ix ix_seq p q fun _ _ => rfl) r fun _ _ => rfl
end

/-! ### an int in a tuple of ints -/
def pInT : D → D → Option D
  | .int i, .tuple ds => (intsD ds).map fun ns => .bool (decide (i ∈ ns))
  | _, _ => none
def pNotInT : D → D → Option D
  | .int i, .tuple ds => (intsD ds).map fun ns => .bool (!decide (i ∈ ns))
  | _, _ => none
theorem inV_ints (i : Int) : ∀ ns : List Int, inV (.int i) (ns.map V.int) = decide (i ∈ ns)
  | [] => by simp [inV]
  | n :: ns => by
    have ih := inV_ints i ns
    unfold inV at ih ⊢
    rw [List.map_cons, List.any_cons, ih]
    by_cases h : i = n
    · subst h; simp [eqV]
    · have h2 : (n == i) = false := by simpa using fun q => h q.symm
      by_cases h3 : i ∈ ns <;> simp [eqV, h, h2, h3]
theorem flat_ints : ∀ ns : List Int, (ns.map V.int).all flatV = true
  | [] => rfl
  | n :: ns => by rw [List.map_cons, List.all_cons, flat_ints ns]; rfl
theorem od_inT {K : Frag} : OpD K (rIn K false) pInT := by
  intro w x y dx dy d Q s hx hy e q
  unfold pInT at e
  split at e
  · next i ds =>
    cases ei : intsD ds with
    | none => rw [ei] at e; cases e
    | some ns =>
      rw [ei] at e
      cases e
      obtain ⟨a, vs, rfl, h1, h2⟩ := dp_tup hy
      obtain ⟨hv, _⟩ := dps_of_ints h2 ei
      subst hv
      refine ⟨a, _, rfl, .inr (sqT_mono s h1), by rw [dp_int hx]; rfl, flat_ints ns, ?_⟩
      rw [dp_int hx]
      show Q (.bl (inV (.int i) (ns.map V.int))) w.H
      rw [inV_ints]
      exact q _ _ _ (Gr.refl s) (.bl _)
  · cases e
theorem od_notInT {K : Frag} : OpD K (rIn K true) pNotInT := by
  intro w x y dx dy d Q s hx hy e q
  unfold pNotInT at e
  split at e
  · next i ds =>
    cases ei : intsD ds with
    | none => rw [ei] at e; cases e
    | some ns =>
      rw [ei] at e
      cases e
      obtain ⟨a, vs, rfl, h1, h2⟩ := dp_tup hy
      obtain ⟨hv, _⟩ := dps_of_ints h2 ei
      subst hv
      refine ⟨a, _, rfl, .inr (sqT_mono s h1), by rw [dp_int hx]; rfl, flat_ints ns, ?_⟩
      rw [dp_int hx]
      show Q (.bl (!inV (.int i) (ns.map V.int))) w.H
      rw [inV_ints]
      exact q _ _ _ (Gr.refl s) (.bl _)
  · cases e
section
variable {X : Cx} {W : WX} {a b : Expr} {ma mb : M D} {pos : Pos}
theorem gInT (ha : AD X W a ma) (hb : AD X W b mb) (hm : behindInMarks .In b = false := by rfl) : AD X W (.Compare a [.In] [b] pos) (m2 pInT ma mb) := ad_cmp op_in_seq hm od_inT ha hb
theorem gNotInT (ha : AD X W a ma) (hb : AD X W b mb) (hm : behindInMarks .NotIn b = false := by rfl) : AD X W (.Compare a [.NotIn] [b] pos) (m2 pNotInT ma mb) := ad_cmp op_notIn_seq hm od_notInT ha hb
theorem tInT (ha : AD X W a ma) (hb : AD X W b mb) (hm : behindInMarks .In b = false := by rfl) : AT X W (.Compare a [.In] [b] pos) (mB (m2 pInT ma mb)) := at_cmp op_in_seq hm od_inT ha hb
theorem tNotInT (ha : AD X W a ma) (hb : AD X W b mb) (hm : behindInMarks .NotIn b = false := by rfl) : AT X W (.Compare a [.NotIn] [b] pos) (mB (m2 pNotInT ma mb)) := at_cmp op_notIn_seq hm od_notInT ha hb
end

/-! ### name = [.. for .. if ..] -/
section
variable {X : Cx} {W : WX} {pz : List Nat} {elt tg iter cnd : Expr} {scope : Scope} {pos yp spos : Pos} {y : Str} {me : M O} {mi : M (List D)} {bd : D → En → Option En} {mt : M Bool} {is : List Nat}
theorem gSetLcIf (j : Nat) (own : List (Str × Nat)) (nd : X.N.Nodup) (hi : AI X W tg iter mi) (ok : blkC X.N X.env.scope scope own = true) (hg : ∀ (s : Shared) (H : Hp) (C : Addr) (cl : List (Str × Addr)) (fp : List Addr), AG (X.blk s H scope (compEnvC scope cl C X.env) fp) is tg bd)
    (ht : ∀ (s : Shared) (H : Hp) (C : Addr) (cl : List (Str × Addr)) (fp : List Addr), AT (X.blk s H scope (compEnvC scope cl C X.env) fp) W0 cnd mt)
    (he : ∀ (s : Shared) (H : Hp) (C : Addr) (cl : List (Str × Addr)) (fp : List Addr), AO (X.blk s H scope (compEnvC scope cl C X.env) fp) W0 elt me) (his : ∀ i ∈ is, i ∈ own.map (·.2) := by decide) (hpz : j ∉ pz := by decide) (hc : X.calm = true := by rfl) (hy : X.N[j]? = some y := by rfl) (hyl : X.env.scope.names.lookup y = some .local := by rfl)
    (hsw : swapsWith (.ListComp elt [⟨tg, iter, [cnd], 0⟩] scope pos) (some (.Name y yp)) spos.line X.env = pure true := by exact sw_true rfl rfl rfl (by decide +kernel)) (hs : ∀ x, foldedSetIterable iter X.env x = pure x := by intro _; rfl) :
    AS X W pz (.Assign [.Name y yp] (.ListComp elt [⟨tg, iter, [cnd], 0⟩] scope pos) spos) (mSetO j (mLc (own.map (·.2)) mi bd mt me)) := by
  obtain ⟨wi, pi, si⟩ := hi
  obtain ⟨te, pe, se⟩ := ao_unif (ι := Ix5) (X := fun i => X.blk i.s i.H scope (compEnvC scope i.cl i.C X.env) i.fp) (K := X.K) (mg := X.mg) fun i => he i.s i.H i.C i.cl i.fp
  obtain ⟨tt, pt, st⟩ := at_unif (ι := Ix5) (X := fun i => X.blk i.s i.H scope (compEnvC scope i.cl i.C X.env) i.fp) (K := X.K) (mg := X.mg) fun i => ht i.s i.H i.C i.cl i.fp
  obtain ⟨g, pg, sg⟩ := ag_unif (ι := Ix5) (X := fun i => X.blk i.s i.H scope (compEnvC scope i.cl i.C X.env) i.fp) (K := X.K) (mg := X.mg) fun i => hg i.s i.H i.C i.cl i.fp
  have sn := lc_sn (W := W) (K := X.K) (mg := X.mg) (own.map (·.2)) si sg st se his
  refine ⟨_, ps_setLc hc nd hy hyl hsw pi (blkOk_by ok) (fun s H C cl fp => pg ⟨s, H, C, cl, fp⟩) (fun s H C cl fp => pts_one (pt ⟨s, H, C, cl, fp⟩)) (fun s H C cl fp => pe ⟨s, H, C, cl, fp⟩) hs, fun w σ E D k po => ?_⟩
  refine sn.runS (pz := pz) (D := D) k po fun o E1 w1 k1 s1 po1 v fp b => ?_
  split at po1
  · next hl =>
    obtain ⟨w2, e2, k2, s2⟩ := k1.put b hl s1
    have r := po1 w2 _ k2 s2 (Ag.set hpz)
    show D.nx _ _
    rw [← e2]; exact r
  · exact po1.elim
theorem gSetLcIfD (j : Nat) (own : List (Str × Nat)) (nd : X.N.Nodup) (hi : AI X W tg iter mi) (ok : blkC X.N X.env.scope scope own = true) (hg : ∀ (s : Shared) (H : Hp) (C : Addr) (cl : List (Str × Addr)) (fp : List Addr), AG (X.blk s H scope (compEnvC scope cl C X.env) fp) is tg bd)
    (ht : ∀ (s : Shared) (H : Hp) (C : Addr) (cl : List (Str × Addr)) (fp : List Addr), AT (X.blk s H scope (compEnvC scope cl C X.env) fp) W0 cnd mt)
    (he : ∀ (s : Shared) (H : Hp) (C : Addr) (cl : List (Str × Addr)) (fp : List Addr), AO (X.blk s H scope (compEnvC scope cl C X.env) fp) W0 elt me) (his : ∀ i ∈ is, i ∈ own.map (·.2) := by decide) (hpz : j ∉ pz := by decide) (hc : X.calm = true := by rfl) (hy : X.N[j]? = some y := by rfl) (hyl : X.env.scope.names.lookup y = some .local := by rfl)
    (hsw : swapsWith (.ListComp elt [⟨tg, iter, [cnd], 0⟩] scope pos) (some (.Name y yp)) spos.line X.env = pure true := by exact sw_true rfl rfl rfl (by decide +kernel)) (hs : ∀ x, foldedSetIterable iter X.env x = pure x := by intro _; rfl) :
    AS X W pz (.Assign [.Name y yp] (.ListComp elt [⟨tg, iter, [cnd], 0⟩] scope pos) spos) (mSet j (mFz (mLc (own.map (·.2)) mi bd mt me))) := by
  obtain ⟨wi, pi, si⟩ := hi
  obtain ⟨te, pe, se⟩ := ao_unif (ι := Ix5) (X := fun i => X.blk i.s i.H scope (compEnvC scope i.cl i.C X.env) i.fp) (K := X.K) (mg := X.mg) fun i => he i.s i.H i.C i.cl i.fp
  obtain ⟨tt, pt, st⟩ := at_unif (ι := Ix5) (X := fun i => X.blk i.s i.H scope (compEnvC scope i.cl i.C X.env) i.fp) (K := X.K) (mg := X.mg) fun i => ht i.s i.H i.C i.cl i.fp
  obtain ⟨g, pg, sg⟩ := ag_unif (ι := Ix5) (X := fun i => X.blk i.s i.H scope (compEnvC scope i.cl i.C X.env) i.fp) (K := X.K) (mg := X.mg) fun i => hg i.s i.H i.C i.cl i.fp
  have sn := sn_fz (lc_sn (W := W) (K := X.K) (mg := X.mg) (own.map (·.2)) si sg st se his)
  refine ⟨_, ps_setLc hc nd hy hyl hsw pi (blkOk_by ok) (fun s H C cl fp => pg ⟨s, H, C, cl, fp⟩) (fun s H C cl fp => pts_one (pt ⟨s, H, C, cl, fp⟩)) (fun s H C cl fp => pe ⟨s, H, C, cl, fp⟩) hs, fun w σ E D k po => ?_⟩
  refine sn.runS (pz := pz) (D := D) k po fun d E1 w1 k1 s1 po1 v h1 => ?_
  split at po1
  · next hl =>
    obtain ⟨w2, e2, k2, s2⟩ := k1.put (bes_dt (w := w) k1 h1) hl s1
    have r := po1 w2 _ k2 s2 (Ag.set hpz)
    show D.nx _ _
    rw [← e2]; exact r
  · exact po1.elim
end
end Lf
set_option Elab.async false
set_option linter.all false
set_option maxRecDepth 100000
set_option maxHeartbeats 4000000
/-! Plain laws: the readings of Lf36. -/
namespace Lf
open PySem L2
section
variable {Q : Out → En → Prop} {X : Str → List (Str × D) → En → Prop} {E : En} {ma : M D} {mp : En → Option (Nat × List PSt)} {f g : En → Option D}
def asLDx : D → Option (List D)
  | .list ds => some ds
  | _ => none
theorem w_delSl (h : WPl mp E fun k π => WO (f E) fun x => WO (asI x) fun i => WO (g E) fun y => WO (asI y) fun j => WO (nodeE E k π) fun n => WO (asL n) fun os => (0 ≤ i ∧ i ≤ j ∧ j ≤ os.length) ∧ WE (putE E k π (.lst (os.take i.toNat ++ os.drop j.toNat))) fun E2 => Q .nx E2) : Wp (mDelSl mp f g E) Q X := by
  unfold WPl at h
  unfold mDelSl
  cases em : mp E with
  | none => rw [em] at h; exact h.elim
  | some kp =>
    rw [em] at h
    obtain ⟨k, π⟩ := kp
    replace h : WO (f E) _ := h
    cases ef : f E with
    | none => rw [ef] at h; exact h.elim
    | some x =>
      rw [ef] at h
      cases x with
      | int i =>
        replace h : WO (g E) _ := h
        cases eg : g E with
        | none => rw [eg] at h; exact h.elim
        | some y =>
          rw [eg] at h
          cases y with
          | int j =>
            replace h : WO (nodeE E k π) _ := h
            simp only
            cases en : nodeE E k π with
            | none => rw [en] at h; exact h.elim
            | some n =>
              rw [en] at h
              cases n with
              | lst os =>
                obtain ⟨h1, h2⟩ := h
                simp only
                rw [if_pos h1]
                exact h2
              | _ => exact h.elim
          | _ => exact h.elim
      | _ => exact h.elim
theorem w_setSl (h : Wp (ma E) (fun d E => WO (asLDx d) fun ds => WPl mp E fun k π => WO (f E) fun x => WO (asI x) fun i => WO (g E) fun y => WO (asI y) fun j => WO (nodeE E k π) fun n => WO (asL n) fun os => (0 ≤ i ∧ i ≤ j ∧ j ≤ os.length ∧ os.length + ds.length ≤ 16777216) ∧ WE (putE E k π (.lst (os.take i.toNat ++ ds.map .dt ++ os.drop j.toNat))) fun E2 => Q .nx E2) X) : Wp (mSetSl mp f g ma E) Q X := by
  unfold mSetSl
  rw [wp_bind]
  refine Wp.mono h (fun d E h => ?_) fun _ _ _ h => h
  cases d with
  | list ds =>
    unfold asLDx at h
    simp only [wo_some] at h
    unfold WPl at h
    cases em : mp E with
    | none => rw [em] at h; exact h.elim
    | some kp =>
      rw [em] at h
      obtain ⟨k, π⟩ := kp
      replace h : WO (f E) _ := h
      cases ef : f E with
      | none => rw [ef] at h; exact h.elim
      | some x =>
        rw [ef] at h
        cases x with
        | int i =>
          replace h : WO (g E) _ := h
          cases eg : g E with
          | none => rw [eg] at h; exact h.elim
          | some y =>
            rw [eg] at h
            cases y with
            | int j =>
              replace h : WO (nodeE E k π) _ := h
              simp only
              cases en : nodeE E k π with
              | none => rw [en] at h; exact h.elim
              | some n =>
                rw [en] at h
                cases n with
                | lst os =>
                  obtain ⟨h1, h2⟩ := h
                  simp only
                  rw [if_pos h1]
                  exact h2
                | _ => exact h.elim
            | _ => exact h.elim
        | _ => exact h.elim
  | _ => exact h.elim
end
section
variable {Q : O → En → Prop} {X : Str → List (Str × D) → En → Prop} {E : En} {ma : M D} {ml mh : M (Option Int)}
theorem w_slO (h : Wp (ma E) (fun x E1 => Wp (ml E1) (fun lo E2 => Wp (mh E2) (fun hi E3 => WO (slL x lo hi) fun z => Q (.lst (z.map .dt)) E3) X) X) X) : Wp (mSlO ma ml mh E) Q X := by
  unfold mSlO; simp only [wp_bind, wp_lift, wo_map]; exact h
theorem wo_slLL {P : List D → Prop} {xs : List D} {lo hi : Option Int} : WO (slL (.list xs) lo hi) P ↔ P (cutL xs lo hi) := Iff.rfl
theorem w_asLDx {P : List D → Prop} {ds : List D} (h : P ds) : WO (asLDx (.list ds)) P := h
theorem w_mvIx2 {i j l : Nat} {os ps : List O} {o : O} (h : E[i]? = some (some (.tup os))) (h2 : os[j]? = some (.tup ps)) (h3 : ps[l]? = some o) (hq : WE (E.set i none) fun E1 => Q o E1) : Wp (mMvIx2 i j l E) Q X := by
  unfold mMvIx2
  rw [h]
  simp only [h2, h3]
  exact hq
theorem wo_notInT {P : D → Prop} {i a b : Int} : WO (pNotInT (.int i) (.tuple [.int a, .int b])) P ↔ P (.bool (!decide (i ∈ [a, b]))) := Iff.rfl
theorem wo_truL {P : Bool → Prop} {xs : List D} : WO (truD (.list xs)) P ↔ P (!xs.isEmpty) := Iff.rfl
theorem wo_truT {P : Bool → Prop} {xs : List D} : WO (truD (.tuple xs)) P ↔ P (!xs.isEmpty) := Iff.rfl
end
/-! ### data that may be compared -/
theorem shp_list {ds : List D} {k : Nat} (h : ∀ e ∈ ds, e.canLay0 = true ∧ e.depth ≤ k ∧ plainD e = true) : PyData.canLayAll0 ds = true ∧ PyData.depthAll ds ≤ k ∧ plainDs ds = true := by
  induction ds with
  | nil => exact ⟨by simp [PyData.canLayAll0], by simp [PyData.depthAll], by simp [plainDs]⟩
  | cons d ds ih =>
    obtain ⟨h1, h2, h3⟩ := ih fun e he => h e (List.mem_cons_of_mem _ he)
    obtain ⟨g1, g2, g3⟩ := h d List.mem_cons_self
    exact ⟨by simp [PyData.canLayAll0, g1, h1], by simp [PyData.depthAll]; omega, by simp [plainDs, g3, h3]⟩
/-- the item is the text z -/
def isS (d : D) (z : Str) : Bool := match d with
  | .str y => decide (y = z)
  | _ => false
theorem eqv_isS (d : D) (z : Str) : PyData.eqv d (.str z) = isS d z := by
  cases d with
  | str y => exact eqv_S
  | _ => unfold PyData.eqv; rfl
theorem w_eqS {P : D → Prop} {d : D} {z : Str} (hd : okD d = true) (hz : okD (.str z) = true) (h : P (.bool (isS d z))) : WO (pEq d (.str z)) P := by
  rw [wo_eqD, eqv_isS]; exact ⟨⟨hd, hz⟩, h⟩
/-! ### lists of ints, as own lists -/
theorem w_cutI {P : En → Prop} {E : En} {k : Nat} {π : List PSt} {w : List Int} {i j : Nat} (h : WE (putE E k π (.lst (((w.take i ++ w.drop j).map PyData.int).map .dt))) P) : WE (putE E k π (.lst (((w.map PyData.int).map O.dt).take i ++ ((w.map PyData.int).map O.dt).drop j))) P := by
  have e : ((w.map PyData.int).map O.dt).take i ++ ((w.map PyData.int).map O.dt).drop j = ((w.take i ++ w.drop j).map PyData.int).map .dt := by
    simp only [List.map_take, List.map_drop, List.map_append]
  rw [e]; exact h
theorem w_spl2 {P : En → Prop} {E : En} {k : Nat} {π : List PSt} {w : List Int} {i j : Nat} {a b : Int} (h : WE (putE E k π (.lst (((w.take i ++ [a, b] ++ w.drop j).map PyData.int).map .dt))) P) : WE (putE E k π (.lst (((w.map PyData.int).map O.dt).take i ++ [PyData.int a, PyData.int b].map O.dt ++ ((w.map PyData.int).map O.dt).drop j))) P := by
  have e : ((w.map PyData.int).map O.dt).take i ++ [PyData.int a, PyData.int b].map O.dt ++ ((w.map PyData.int).map O.dt).drop j = ((w.take i ++ [a, b] ++ w.drop j).map PyData.int).map .dt := by
    simp only [List.map_take, List.map_drop, List.map_append, List.map_cons, List.map_nil]
  rw [e]; exact h
end Lf
set_option Elab.async false
set_option linter.all false
set_option maxRecDepth 100000
set_option maxHeartbeats 4000000
namespace Lf
open PySem PySem.Spec PyProof.Rows L2
def top (i : Nat) : Stmt := PySem.Challenge.pw_braidyard_k85_whole_rows_of_steps_are_ju.main.body.getD i (.Pass ⟨0, 0, 0, 0⟩)
def inner (x : Str) : List Stmt → Stmt
  | [] => .Pass ⟨0, 0, 0, 0⟩
  | st :: r => match st with
    | (.FunctionDef n ..) => if n = x then st else inner x r
    | _ => inner x r
def meth (c : Stmt) (x : Str) : Stmt := match c with
  | .ClassDef _ _ _ b .. => inner x b
  | _ => c
def exL0 : List Str := ["BadStrands", "BadWord"]
def exL1 : List (Str × Str) := [("TooLong", "number"), ("BadLetter", "place")]
def exY : List Str := ["BadStrands", "BadWord", "TooLong", "BadLetter", "BadPlaces", "BadMove", "BadTurning", "BadForm", "TooMany", "BadHandle", "BadList", "BadNumbers", "BadNumber", "BadRange", "BadDeed", "BadPaper", "InUse", "NotPositive", "NoCurve", "NothingToUndo", "NothingToRedo", "UnknownName", "BadEntry", "BadText"]
def exB : Str := "BraidError"
def exF : Str := "/claim/cut.py"
abbrev exC : List Str := exL0 ++ exL1.map (·.1)
def exN : List (Str × Str) := [("strands", "BadStrands"), ("word", "BadWord"), ("long", "TooLong"), ("letter", "BadLetter"), ("places", "BadPlaces"), ("move", "BadMove"), ("turning", "BadTurning"), ("form", "BadForm"), ("many", "TooMany"), ("handle", "BadHandle"), ("list", "BadList"), ("numbers", "BadNumbers"), ("number", "BadNumber"), ("range", "BadRange"), ("deed", "BadDeed"), ("paper", "BadPaper"), ("use", "InUse"), ("positive", "NotPositive"), ("curve", "NoCurve"), ("undo", "NothingToUndo"), ("redo", "NothingToRedo"), ("name", "UnknownName"), ("entry", "BadEntry"), ("text", "BadText")]
abbrev s_is_number : Stmt := (top 29)
theorem sc_is_number : FnScope ["value"] ["value"] (defScope s_is_number) := ⟨rfl, rfl, rfl, by decide +kernel, rfl, by decide +kernel, by decide +kernel⟩
def b_is_number : M Out :=
  (mRetD (mAndV (mIsi "int" (mVar 0)) (mNotV (mIsi "bool" (mVar 0)))))
def r_is_number : List O → Rs O := mFn [false] 1 b_is_number
theorem u_is_number {x0 : O} {Q : O → En → Prop} {X : Str → List (Str × D) → En → Prop} (h : Wp (b_is_number [some x0]) (finQ [false] Q) (fun c fs E => WE (keepE [false] E) fun F => X c fs F)) : Wp (r_is_number [x0]) Q X := w_fn rfl rfl h
abbrev s_check_strands : Stmt := (top 30)
theorem sc_check_strands : FnScope ["n"] ["n"] (defScope s_check_strands) := ⟨rfl, rfl, rfl, by decide +kernel, rfl, by decide +kernel, by decide +kernel⟩
def b_check_strands : M Out :=
  (mIfS (mOr (mNot (mB (mFz (mCall r_is_number (mArgD (mVar 0) mNilA))))) (mNot (mB (mChain pLe pLe (mC (.int 1)) (mVar 0) (mC (.int 8)))))) (fun E => .exc "BadStrands" [] E) mNx)
def r_check_strands : List O → Rs O := mFn [false] 1 b_check_strands
theorem u_check_strands {x0 : O} {Q : O → En → Prop} {X : Str → List (Str × D) → En → Prop} (h : Wp (b_check_strands [some x0]) (finQ [false] Q) (fun c fs E => WE (keepE [false] E) fun F => X c fs F)) : Wp (r_check_strands [x0]) Q X := w_fn rfl rfl h
abbrev s_check_letters : Stmt := (top 31)
theorem sc_check_letters : FnScope ["n", "word", "most", "place", "letter"] ["n", "word", "most"] (defScope s_check_letters) := ⟨rfl, rfl, rfl, by decide +kernel, rfl, by decide +kernel, by decide +kernel⟩
def b_check_letters : M Out :=
  (mSeq (mDrop (mFz (mCall r_check_strands (mArgD (mVar 0) mNilA))))
  (mSeq (mIfS (mNot (mB (mIsi "list" (mVar 1)))) (fun E => .exc "BadWord" [] E) mNx)
  (mSeq (mIfS (mB (m2 pGt (mCallD cLen (mArgD (mVar 1) mNilA)) (mVar 2))) (fun E => ((mCallD cLen (mArgD (mVar 1) mNilA)) E).bind fun d E1 => .exc "TooLong" [("number", d)] E1) mNx)
  (mFor [3, 4] (mRng enumD (mArgD (mVar 1) mNilA)) (bTup [3, 4]) (mIfS (mOr (mNot (mB (mFz (mCall r_is_number (mArgD (mVar 4) mNilA))))) (mNot (mB (mChain pLe pLt (mC (.int 1)) (mCallD cAbs (mArgD (mVar 4) mNilA)) (mVar 0))))) (fun E => ((mVar 3) E).bind fun d E1 => .exc "BadLetter" [("place", d)] E1) mNx)))))
def r_check_letters : List O → Rs O := mFn [false, false, false] 5 b_check_letters
theorem u_check_letters {x0 x1 x2 : O} {Q : O → En → Prop} {X : Str → List (Str × D) → En → Prop} (h : Wp (b_check_letters [some x0, some x1, some x2, none, none]) (finQ [false, false, false] Q) (fun c fs E => WE (keepE [false, false, false] E) fun F => X c fs F)) : Wp (r_check_letters [x0, x1, x2]) Q X := w_fn rfl rfl h
abbrev s_check_word : Stmt := (top 32)
theorem sc_check_word : FnScope ["n", "word"] ["n", "word"] (defScope s_check_word) := ⟨rfl, rfl, rfl, by decide +kernel, rfl, by decide +kernel, by decide +kernel⟩
def b_check_word : M Out :=
  (mDrop (mFz (mCall r_check_letters (mArgD (mVar 0) (mArgD (mVar 1) (mArgD (mC (.int 400)) mNilA))))))
def r_check_word : List O → Rs O := mFn [false, false] 2 b_check_word
theorem u_check_word {x0 x1 : O} {Q : O → En → Prop} {X : Str → List (Str × D) → En → Prop} (h : Wp (b_check_word [some x0, some x1]) (finQ [false, false] Q) (fun c fs E => WE (keepE [false, false] E) fun F => X c fs F)) : Wp (r_check_word [x0, x1]) Q X := w_fn rfl rfl h
abbrev s_is_letter : Stmt := (top 34)
theorem sc_is_letter : FnScope ["n", "value"] ["n", "value"] (defScope s_is_letter) := ⟨rfl, rfl, rfl, by decide +kernel, rfl, by decide +kernel, by decide +kernel⟩
def b_is_letter : M Out :=
  (mRetD (mAndV (mFz (mCall r_is_number (mArgD (mVar 1) mNilA))) (mChain pLe pLt (mC (.int 1)) (mCallD cAbs (mArgD (mVar 1) mNilA)) (mVar 0))))
def r_is_letter : List O → Rs O := mFn [false, false] 2 b_is_letter
theorem u_is_letter {x0 x1 : O} {Q : O → En → Prop} {X : Str → List (Str × D) → En → Prop} (h : Wp (b_is_letter [some x0, some x1]) (finQ [false, false] Q) (fun c fs E => WE (keepE [false, false] E) fun F => X c fs F)) : Wp (r_is_letter [x0, x1]) Q X := w_fn rfl rfl h
abbrev s_put_in : Stmt := (top 35)
theorem sc_put_in : FnScope ["n", "word", "place", "letter"] ["n", "word", "place", "letter"] (defScope s_put_in) := ⟨rfl, rfl, rfl, by decide +kernel, rfl, by decide +kernel, by decide +kernel⟩
def b_put_in : M Out :=
  (mSeq (mIfS (mOr (mB (m2 pGt (mVar 2) (mEye (mCallD cLen (mArgD (mVar 1) mNilA))))) (mNot (mB (mFz (mCall r_is_letter (mArgD (mVar 0) (mArgD (mVar 3) mNilA))))))) (mRetD (mC (.bool false))) mNx)
  (mSeq (mSetSl (plV 1) (uHide (mVar 2)) (uHide (mVar 2)) (mDisp .list (mArgD (mVar 3) (mArgD (m1 pNeg (mVar 3)) mNilA))))
  (mRetD (mC (.bool true)))))
def r_put_in : List O → Rs O := mFn [false, true, false, false] 4 b_put_in
theorem u_put_in {x0 x1 x2 x3 : O} {Q : O → En → Prop} {X : Str → List (Str × D) → En → Prop} (h : Wp (b_put_in [some x0, some x1, some x2, some x3]) (finQ [false, true, false, false] Q) (fun c fs E => WE (keepE [false, true, false, false] E) fun F => X c fs F)) : Wp (r_put_in [x0, x1, x2, x3]) Q X := w_fn rfl rfl h
abbrev s_take_away : Stmt := (top 36)
theorem sc_take_away : FnScope ["word", "place"] ["word", "place"] (defScope s_take_away) := ⟨rfl, rfl, rfl, by decide +kernel, rfl, by decide +kernel, by decide +kernel⟩
def b_take_away : M Out :=
  (mSeq (mIfS (mOr (mB (m2 pGt (m2 pAdd (mVar 1) (mC (.int 2))) (mEye (mCallD cLen (mArgD (mVar 0) mNilA))))) (mB (m2 pNe (m2 pAdd (mPu (uLoad (plIx (plV 0) (uHide (mVar 1))))) (mPu (uLoad (plIx (plV 0) (uHide (m2 pAdd (mVar 1) (mC (.int 1)))))))) (mC (.int 0))))) (mRetD (mC (.bool false))) mNx)
  (mSeq (mDelSl (plV 0) (uHide (mVar 1)) (uHide (m2 pAdd (mVar 1) (mC (.int 2)))))
  (mRetD (mC (.bool true)))))
def r_take_away : List O → Rs O := mFn [true, false] 2 b_take_away
theorem u_take_away {x0 x1 : O} {Q : O → En → Prop} {X : Str → List (Str × D) → En → Prop} (h : Wp (b_take_away [some x0, some x1]) (finQ [true, false] Q) (fun c fs E => WE (keepE [true, false] E) fun F => X c fs F)) : Wp (r_take_away [x0, x1]) Q X := w_fn rfl rfl h
abbrev s_exchange_far : Stmt := (top 37)
theorem sc_exchange_far : FnScope ["word", "place"] ["word", "place"] (defScope s_exchange_far) := ⟨rfl, rfl, rfl, by decide +kernel, rfl, by decide +kernel, by decide +kernel⟩
def b_exchange_far : M Out :=
  (mSeq (mIfS (mOr (mB (m2 pGt (m2 pAdd (mVar 1) (mC (.int 2))) (mEye (mCallD cLen (mArgD (mVar 0) mNilA))))) (mB (m2 pLt (mCallD cAbs (mArgD (m2 pSub (mCallD cAbs (mArgD (mPu (uLoad (plIx (plV 0) (uHide (mVar 1))))) mNilA)) (mCallD cAbs (mArgD (mPu (uLoad (plIx (plV 0) (uHide (m2 pAdd (mVar 1) (mC (.int 1))))))) mNilA))) mNilA)) (mC (.int 2))))) (mRetD (mC (.bool false))) mNx)
  (mSeq (mPar [(bSetIx (plV 0) (uHide (mVar 1))), (bSetIx (plV 0) (uHide (m2 pAdd (mVar 1) (mC (.int 1)))))] (mConsO (mDt (mPu (uLoad (plIx (plV 0) (uHide (m2 pAdd (mVar 1) (mC (.int 1)))))))) (mConsO (mDt (mPu (uLoad (plIx (plV 0) (uHide (mVar 1)))))) mNilO)))
  (mRetD (mC (.bool true)))))
def r_exchange_far : List O → Rs O := mFn [true, false] 2 b_exchange_far
theorem u_exchange_far {x0 x1 : O} {Q : O → En → Prop} {X : Str → List (Str × D) → En → Prop} (h : Wp (b_exchange_far [some x0, some x1]) (finQ [true, false] Q) (fun c fs E => WE (keepE [true, false] E) fun F => X c fs F)) : Wp (r_exchange_far [x0, x1]) Q X := w_fn rfl rfl h
abbrev s_turn_near : Stmt := (top 38)
theorem sc_turn_near : FnScope ["word", "place"] ["word", "place"] (defScope s_turn_near) := ⟨rfl, rfl, rfl, by decide +kernel, rfl, by decide +kernel, by decide +kernel⟩
def b_turn_near : M Out :=
  (mSeq (mIfS (mOr (mB (m2 pGt (m2 pAdd (mVar 1) (mC (.int 3))) (mEye (mCallD cLen (mArgD (mVar 0) mNilA))))) (mOr (mB (m2 pNe (mPu (uLoad (plIx (plV 0) (uHide (mVar 1))))) (mPu (uLoad (plIx (plV 0) (uHide (m2 pAdd (mVar 1) (mC (.int 2))))))))) (mB (m2 pNe (mCallD cAbs (mArgD (m2 pSub (mPu (uLoad (plIx (plV 0) (uHide (mVar 1))))) (mPu (uLoad (plIx (plV 0) (uHide (m2 pAdd (mVar 1) (mC (.int 1)))))))) mNilA)) (mC (.int 1)))))) (mRetD (mC (.bool false))) mNx)
  (mSeq (mPar [(bSetIx (plV 0) (uHide (mVar 1))), (bSetIx (plV 0) (uHide (m2 pAdd (mVar 1) (mC (.int 1))))), (bSetIx (plV 0) (uHide (m2 pAdd (mVar 1) (mC (.int 2)))))] (mConsO (mDt (mPu (uLoad (plIx (plV 0) (uHide (m2 pAdd (mVar 1) (mC (.int 1)))))))) (mConsO (mDt (mPu (uLoad (plIx (plV 0) (uHide (mVar 1)))))) (mConsO (mDt (mPu (uLoad (plIx (plV 0) (uHide (m2 pAdd (mVar 1) (mC (.int 1)))))))) mNilO))))
  (mRetD (mC (.bool true)))))
def r_turn_near : List O → Rs O := mFn [true, false] 2 b_turn_near
theorem u_turn_near {x0 x1 : O} {Q : O → En → Prop} {X : Str → List (Str × D) → En → Prop} (h : Wp (b_turn_near [some x0, some x1]) (finQ [true, false] Q) (fun c fs E => WE (keepE [true, false] E) fun F => X c fs F)) : Wp (r_turn_near [x0, x1]) Q X := w_fn rfl rfl h
abbrev s_try_move : Stmt := (top 39)
theorem sc_try_move : FnScope ["n", "word", "step"] ["n", "word", "step"] (defScope s_try_move) := ⟨rfl, rfl, rfl, by decide +kernel, rfl, by decide +kernel, by decide +kernel⟩
def b_try_move : M Out :=
  (mSeq (mIfS (mOr (mNot (mB (mIsi "tuple" (mVar 2)))) (mOr (mB (m2 pNotInT (mCallD cLen (mArgD (mVar 2) mNilA)) (mDisp .tuple (mArgD (mC (.int 2)) (mArgD (mC (.int 3)) mNilA))))) (mOr (mNot (mB (mFz (mCall r_is_number (mArgD (m2 pIx (mVar 2) (mC (.int 1))) mNilA))))) (mB (m2 pLt (m2 pIx (mVar 2) (mC (.int 1))) (mC (.int 0))))))) (mRetD (mC (.bool false))) mNx)
  (mSeq (mIfS (mB (m2 pEq (mCallD cLen (mArgD (mVar 2) mNilA)) (mC (.int 3)))) (mRetD (mAndV (m2 pEq (m2 pIx (mVar 2) (mC (.int 0))) (mC (.str "put"))) (mFz (mCall r_put_in (mArgD (mVar 0) (mArgS 1 (mArgD (m2 pIx (mVar 2) (mC (.int 1))) (mArgD (m2 pIx (mVar 2) (mC (.int 2))) mNilA)))))))) mNx)
  (mSeq (mIfS (mB (m2 pEq (m2 pIx (mVar 2) (mC (.int 0))) (mC (.str "take")))) (mRetD (mFz (mCall r_take_away (mArgS 1 (mArgD (m2 pIx (mVar 2) (mC (.int 1))) mNilA))))) mNx)
  (mSeq (mIfS (mB (m2 pEq (m2 pIx (mVar 2) (mC (.int 0))) (mC (.str "far")))) (mRetD (mFz (mCall r_exchange_far (mArgS 1 (mArgD (m2 pIx (mVar 2) (mC (.int 1))) mNilA))))) mNx)
  (mRetD (mAndV (m2 pEq (m2 pIx (mVar 2) (mC (.int 0))) (mC (.str "near"))) (mFz (mCall r_turn_near (mArgS 1 (mArgD (m2 pIx (mVar 2) (mC (.int 1))) mNilA))))))))))
def r_try_move : List O → Rs O := mFn [false, true, false] 3 b_try_move
theorem u_try_move {x0 x1 x2 : O} {Q : O → En → Prop} {X : Str → List (Str × D) → En → Prop} (h : Wp (b_try_move [some x0, some x1, some x2]) (finQ [false, true, false] Q) (fun c fs E => WE (keepE [false, true, false] E) fun F => X c fs F)) : Wp (r_try_move [x0, x1, x2]) Q X := w_fn rfl rfl h
abbrev s_can_shrink : Stmt := (top 41)
theorem sc_can_shrink : FnScope ["n", "word", "letter"] ["n", "word"] (defScope s_can_shrink) := ⟨rfl, rfl, rfl, by decide +kernel, rfl, by decide +kernel, by decide +kernel⟩
def b_can_shrink : M Out :=
  (mSeq (mIfS (mOr (mB (m2 pEq (mVar 0) (mC (.int 1)))) (mOr (mNot (mTru truD (mVar 1))) (mB (m2 pNe (mCallD cAbs (mArgD (m2 pIx (mVar 1) (m1 pNeg (mC (.int 1)))) mNilA)) (m2 pSub (mVar 0) (mC (.int 1))))))) (mRetD (mC (.bool false))) mNx)
  (mRetD (mCallD cAll (mArgD (mFz (mLc [2] (mItems (mSl (mVar 1) mNoPart (mPart (m1 pNeg (mC (.int 1)))))) (bName 2) (fun E => .ok true E) (mDt (m2 pLt (mCallD cAbs (mArgD (mVar 2) mNilA)) (m2 pSub (mVar 0) (mC (.int 1))))))) mNilA))))
def r_can_shrink : List O → Rs O := mFn [false, false] 3 b_can_shrink
theorem u_can_shrink {x0 x1 : O} {Q : O → En → Prop} {X : Str → List (Str × D) → En → Prop} (h : Wp (b_can_shrink [some x0, some x1, none]) (finQ [false, false] Q) (fun c fs E => WE (keepE [false, false] E) fun F => X c fs F)) : Wp (r_can_shrink [x0, x1]) Q X := w_fn rfl rfl h
abbrev s_step_behind : Stmt := (top 42)
theorem sc_step_behind : FnScope ["n", "word", "step", "found", "is_right"] ["n", "word", "step"] (defScope s_step_behind) := ⟨rfl, rfl, rfl, by decide +kernel, rfl, by decide +kernel, by decide +kernel⟩
def b_step_behind : M Out :=
  (mSeq (mIfS (mOr (mNot (mB (mIsi "tuple" (mVar 2)))) (mNot (mTru truD (mVar 2)))) (mRetD (mC .none)) mNx)
  (mSeq (mIfS (mB (m2 pEq (m2 pIx (mVar 2) (mC (.int 0))) (mC (.str "turn")))) (mSeq (mSet 4 (mAndV (m2 pEq (mCallD cLen (mArgD (mVar 2) mNilA)) (mC (.int 2))) (mFz (mCall r_is_letter (mArgD (mVar 0) (mArgD (m2 pIx (mVar 2) (mC (.int 1))) mNilA))))))
  (mRetD (mIf (mB (mVar 4)) (mDisp .tuple (mArgD (mVar 0) (mArgD (m2 pAdd (m2 pAdd (mDisp .list (mArgD (m1 pNeg (m2 pIx (mVar 2) (mC (.int 1)))) mNilA)) (mVar 1)) (mDisp .list (mArgD (m2 pIx (mVar 2) (mC (.int 1))) mNilA))) mNilA))) (mC .none)))) mNx)
  (mSeq (mIfS (mB (m2 pEq (m2 pIx (mVar 2) (mC (.int 0))) (mC (.str "grow")))) (mSeq (mSet 4 (mAndV (m2 pEq (mCallD cLen (mArgD (mVar 2) mNilA)) (mC (.int 2))) (mAndV (mFz (mCall r_is_number (mArgD (m2 pIx (mVar 2) (mC (.int 1))) mNilA))) (m2 pEq (mCallD cAbs (mArgD (m2 pIx (mVar 2) (mC (.int 1))) mNilA)) (mC (.int 1))))))
  (mRetD (mIf (mB (mVar 4)) (mDisp .tuple (mArgD (m2 pAdd (mVar 0) (mC (.int 1))) (mArgD (m2 pAdd (mVar 1) (mDisp .list (mArgD (m2 pMul (m2 pIx (mVar 2) (mC (.int 1))) (mVar 0)) mNilA))) mNilA))) (mC .none)))) mNx)
  (mSeq (mIfS (mB (m2 pEq (m2 pIx (mVar 2) (mC (.int 0))) (mC (.str "shrink")))) (mRetD (mIf (mAnd (mB (m2 pEq (mCallD cLen (mArgD (mVar 2) mNilA)) (mC (.int 1)))) (mB (mFz (mCall r_can_shrink (mArgD (mVar 0) (mArgD (mVar 1) mNilA)))))) (mDisp .tuple (mArgD (m2 pSub (mVar 0) (mC (.int 1))) (mArgD (mSl (mVar 1) mNoPart (mPart (m1 pNeg (mC (.int 1))))) mNilA))) (mC .none))) mNx)
  (mSeq (mSetO 3 (mCallO cList (mArgD (mVar 1) mNilA)))
  (mRetD (mIf (mB (mFz (mCall r_try_move (mArgD (mVar 0) (mArgS 3 (mArgD (mVar 2) mNilA)))))) (mDisp .tuple (mArgD (mVar 0) (mArgD (mFrzV 3) mNilA))) (mC .none))))))))
def r_step_behind : List O → Rs O := mFn [false, false, false] 5 b_step_behind
theorem u_step_behind {x0 x1 x2 : O} {Q : O → En → Prop} {X : Str → List (Str × D) → En → Prop} (h : Wp (b_step_behind [some x0, some x1, some x2, none, none]) (finQ [false, false, false] Q) (fun c fs E => WE (keepE [false, false, false] E) fun F => X c fs F)) : Wp (r_step_behind [x0, x1, x2]) Q X := w_fn rfl rfl h
abbrev s_lead_close : Stmt := (top 43)
theorem sc_lead_close : FnScope ["n", "word", "m", "other", "value", "found", "step"] ["n", "word", "m", "other", "value"] (defScope s_lead_close) := ⟨rfl, rfl, rfl, by decide +kernel, rfl, by decide +kernel, by decide +kernel⟩
def b_lead_close : M Out :=
  (mSeq (mIfS (mNot (mB (mIsi "list" (mVar 4)))) (mRetD (mC (.bool false))) mNx)
  (mSeq (mSet 5 (mDisp .tuple (mArgD (mVar 0) (mArgD (mFz (mCallO cList (mArgD (mVar 1) mNilA))) mNilA))))
  (mSeq (mFor [6] (mItems (mVar 4)) (bName 6) (mSeq (mSet 5 (mFz (mCall r_step_behind (mArgD (m2 pIx (mVar 5) (mC (.int 0))) (mArgD (m2 pIx (mVar 5) (mC (.int 1))) (mArgD (mVar 6) mNilA))))))
  (mIfS (mOr (mB (m2 pIs (mVar 5) (mC .none))) (mOr (mB (m2 pGt (m2 pIx (mVar 5) (mC (.int 0))) (mC (.int 8)))) (mB (m2 pGt (mCallD cLen (mArgD (m2 pIx (mVar 5) (mC (.int 1))) mNilA)) (mC (.int 400)))))) (mRetD (mC (.bool false))) mNx)))
  (mRetD (m2 pEq (mVar 5) (mDisp .tuple (mArgD (mVar 2) (mArgD (mFz (mCallO cList (mArgD (mVar 3) mNilA))) mNilA))))))))
def r_lead_close : List O → Rs O := mFn [false, false, false, false, false] 7 b_lead_close
theorem u_lead_close {x0 x1 x2 x3 x4 : O} {Q : O → En → Prop} {X : Str → List (Str × D) → En → Prop} (h : Wp (b_lead_close [some x0, some x1, some x2, some x3, some x4, none, none]) (finQ [false, false, false, false, false] Q) (fun c fs E => WE (keepE [false, false, false, false, false] E) fun F => X c fs F)) : Wp (r_lead_close [x0, x1, x2, x3, x4]) Q X := w_fn rfl rfl h
abbrev s_are_close_steps : Stmt := (top 44)
theorem sc_are_close_steps : FnScope ["n", "word", "m", "other", "value"] ["n", "word", "m", "other", "value"] (defScope s_are_close_steps) := ⟨rfl, rfl, rfl, by decide +kernel, rfl, by decide +kernel, by decide +kernel⟩
def b_are_close_steps : M Out :=
  (mSeq (mDrop (mFz (mCall r_check_word (mArgD (mVar 0) (mArgD (mVar 1) mNilA)))))
  (mSeq (mDrop (mFz (mCall r_check_word (mArgD (mVar 2) (mArgD (mVar 3) mNilA)))))
  (mRetD (mFz (mCall r_lead_close (mArgD (mVar 0) (mArgD (mVar 1) (mArgD (mVar 2) (mArgD (mVar 3) (mArgD (mVar 4) mNilA))))))))))
def r_are_close_steps : List O → Rs O := mFn [false, false, false, false, false] 5 b_are_close_steps
theorem u_are_close_steps {x0 x1 x2 x3 x4 : O} {Q : O → En → Prop} {X : Str → List (Str × D) → En → Prop} (h : Wp (b_are_close_steps [some x0, some x1, some x2, some x3, some x4]) (finQ [false, false, false, false, false] Q) (fun c fs E => WE (keepE [false, false, false, false, false] E) fun F => X c fs F)) : Wp (r_are_close_steps [x0, x1, x2, x3, x4]) Q X := w_fn rfl rfl h
abbrev s__law_pool : Stmt := (top 46)
theorem sc__law_pool : FnScope ["script", "pool", "cell", "state", "k", "rest"] ["script"] (defScope s__law_pool) := ⟨rfl, rfl, rfl, by decide +kernel, rfl, by decide +kernel, by decide +kernel⟩
def b__law_pool : M Out :=
  (mSeq (mSetO 1 (mLstO mNilA))
  (mSeq (mFor [2, 4, 5] (mItems (mVar 0)) (bName 2) (mSeq (mSet 5 (mCallD cInt (mArgD (mVar 2) mNilA)))
  (mIfS (mB (m2 pGe (mVar 5) (m2 pPow (mC (.int 10)) (mC (.int 18))))) (mFor [4] (mRng rng1 (mArgD (mC (.int 60)) mNilA)) (bName 4) (mSeq (mAppendV 1 (m2 pMod (mCallD cInt (mArgD (mVar 5) mNilA)) (mC (.int 60))))
  (mSeq (mSet 5 (mCallD cInt (mArgD (m2 pFdiv (mVar 5) (mC (.int 60))) mNilA)))
  (mIfS (mB (m2 pEq (mVar 5) (mC (.int 0)))) (fun E => .ok .br E) mNx)))) (mSetO 1 (m2O catL (mFrzV 1) (mDisp .list (mArgD (m2 pMod (mCallD cInt (mArgD (mVar 5) mNilA)) (mC (.int 60))) (mArgD (m2 pMod (mCallD cInt (mArgD (m2 pFdiv (mVar 5) (mC (.int 60))) mNilA)) (mC (.int 60))) mNilA))))))))
  (mSeq (mSet 3 (mC (.int 17)))
  (mSeq (mFor [2] (mItems (mVar 0)) (bName 2) (mSet 3 (m2 pMod (m2 pAdd (m2 pMul (mVar 3) (mC (.int 31))) (mCallD cInt (mArgD (mVar 2) mNilA))) (mC (.int 2147483647)))))
  (mSeq (mFor [4] (mRng rng1 (mArgD (mC (.int 300)) mNilA)) (bName 4) (mSeq (mSet 3 (m2 pMod (m2 pAdd (m2 pMul (mVar 3) (mC (.int 48271))) (mC (.int 11))) (mC (.int 2147483647))))
  (mAppendV 1 (m2 pMod (mCallD cInt (mArgD (m2 pFdiv (mVar 3) (mC (.int 97))) mNilA)) (mC (.int 60))))))
  (mRet (mMv 1)))))))
def r__law_pool : List O → Rs O := mFn [false] 6 b__law_pool
theorem u__law_pool {x0 : O} {Q : O → En → Prop} {X : Str → List (Str × D) → En → Prop} (h : Wp (b__law_pool [some x0, none, none, none, none, none]) (finQ [false] Q) (fun c fs E => WE (keepE [false] E) fun F => X c fs F)) : Wp (r__law_pool [x0]) Q X := w_fn rfl rfl h
abbrev s__law_stream : Stmt := (top 47)
theorem sc__law_stream : FnScope ["script"] ["script"] (defScope s__law_stream) := ⟨rfl, rfl, rfl, by decide +kernel, rfl, by decide +kernel, by decide +kernel⟩
def b__law_stream : M Out :=
  (mRet (m2O catL (mDisp .list (mArgD (mC (.int 1)) mNilA)) (mFz (mCall r__law_pool (mArgD (mVar 0) mNilA)))))
def r__law_stream : List O → Rs O := mFn [false] 1 b__law_stream
theorem u__law_stream {x0 : O} {Q : O → En → Prop} {X : Str → List (Str × D) → En → Prop} (h : Wp (b__law_stream [some x0]) (finQ [false] Q) (fun c fs E => WE (keepE [false] E) fun F => X c fs F)) : Wp (r__law_stream [x0]) Q X := w_fn rfl rfl h
abbrev s__law_pick : Stmt := (top 48)
theorem sc__law_pick : FnScope ["pool", "many", "place"] ["pool", "many"] (defScope s__law_pick) := ⟨rfl, rfl, rfl, by decide +kernel, rfl, by decide +kernel, by decide +kernel⟩
def b__law_pick : M Out :=
  (mSeq (mSet 2 (mPu (uLoad (plIx (plV 0) (uHide (mC (.int 0)))))))
  (mSeq (mSetIx (plV 0) (uHide (mC (.int 0))) (m2 pAdd (mVar 2) (mC (.int 1))))
  (mSeq (mIfS (mB (m2 pEq (mPu (uLoad (plIx (plV 0) (uHide (mC (.int 0)))))) (mEye (mCallD cLen (mArgD (mVar 0) mNilA))))) (mSetIx (plV 0) (uHide (mC (.int 0))) (mC (.int 1))) mNx)
  (mRetD (m2 pMod (mCallD cInt (mArgD (mPu (uLoad (plIx (plV 0) (uHide (mVar 2))))) mNilA)) (mVar 1))))))
def r__law_pick : List O → Rs O := mFn [true, false] 3 b__law_pick
theorem u__law_pick {x0 x1 : O} {Q : O → En → Prop} {X : Str → List (Str × D) → En → Prop} (h : Wp (b__law_pick [some x0, some x1, none]) (finQ [true, false] Q) (fun c fs E => WE (keepE [true, false] E) fun F => X c fs F)) : Wp (r__law_pick [x0, x1]) Q X := w_fn rfl rfl h
abbrev s__law_same : Stmt := (top 49)
theorem sc__law_same : FnScope ["value", "due", "k"] ["value", "due"] (defScope s__law_same) := ⟨rfl, rfl, rfl, by decide +kernel, rfl, by decide +kernel, by decide +kernel⟩
def b__law_same (self : List O → Rs O) : M Out :=
  (mSeq (mIfS (mB (m2 pIs (mVar 1) (mC .none))) (mRetD (m2 pIs (mVar 0) (mC .none))) mNx)
  (mSeq (mIfS (mB (mIsi "bool" (mVar 1))) (mRetD (mAndV (mIsi "bool" (mVar 0)) (m2 pEq (mVar 0) (mVar 1)))) mNx)
  (mSeq (mIfS (mB (mIsi "int" (mVar 1))) (mRetD (mAndV (mIsi "int" (mVar 0)) (mAndV (mNotV (mIsi "bool" (mVar 0))) (m2 pEq (mVar 0) (mVar 1))))) mNx)
  (mSeq (mIfS (mB (mIsi "str" (mVar 1))) (mRetD (mAndV (mIsi "str" (mVar 0)) (m2 pEq (mVar 0) (mVar 1)))) mNx)
  (mSeq (mIfS (mOr (mAnd (mB (mIsi "list" (mVar 1))) (mNot (mB (mIsi "list" (mVar 0))))) (mAnd (mB (mIsi "tuple" (mVar 1))) (mNot (mB (mIsi "tuple" (mVar 0)))))) (mRetD (mC (.bool false))) mNx)
  (mRetD (mAndV (m2 pEq (mCallD cLen (mArgD (mVar 0) mNilA)) (mCallD cLen (mArgD (mVar 1) mNilA))) (mCallD cAll (mArgD (mFz (mLc [2] (mRng rng1 (mArgD (mCallD cLen (mArgD (mVar 1) mNilA)) mNilA)) (bName 2) (fun E => .ok true E) (mDt (mFz (mCall self (mArgD (m2 pIx (mVar 0) (mVar 2)) (mArgD (m2 pIx (mVar 1) (mVar 2)) mNilA))))))) mNilA)))))))))
def r__law_same : Nat → List O → Rs O
  | 0 => mFn [false, false] 3 (fun _ => .no)
  | k + 1 => mFn [false, false] 3 (b__law_same (r__law_same k))
theorem u__law_same {x0 x1 : O} {k : Nat} {Q : O → En → Prop} {X : Str → List (Str × D) → En → Prop} (h : Wp (b__law_same (r__law_same k) [some x0, some x1, none]) (finQ [false, false] Q) (fun c fs E => WE (keepE [false, false] E) fun F => X c fs F)) : Wp (r__law_same (k + 1) [x0, x1]) Q X := w_fn rfl rfl h
abbrev s__law_copy : Stmt := (top 50)
theorem sc__law_copy : FnScope ["value", "one"] ["value"] (defScope s__law_copy) := ⟨rfl, rfl, rfl, by decide +kernel, rfl, by decide +kernel, by decide +kernel⟩
def b__law_copy (self : List O → Rs O) : M Out :=
  (mSeq (mIfS (mB (mIsi "list" (mVar 0))) (mRetD (mFz (mLc [1] (mItems (mVar 0)) (bName 1) (fun E => .ok true E) (mDt (mFz (mCall self (mArgD (mVar 1) mNilA))))))) mNx)
  (mSeq (mIfS (mB (mIsi "tuple" (mVar 0))) (mRetD (mCallD cTuple (mArgD (mFz (mLc [1] (mItemsT (mVar 0)) (bName 1) (fun E => .ok true E) (mDt (mFz (mCall self (mArgD (mVar 1) mNilA)))))) mNilA))) mNx)
  (mRetD (mVar 0))))
def r__law_copy : Nat → List O → Rs O
  | 0 => mFn [false] 2 (fun _ => .no)
  | k + 1 => mFn [false] 2 (b__law_copy (r__law_copy k))
theorem u__law_copy {x0 : O} {k : Nat} {Q : O → En → Prop} {X : Str → List (Str × D) → En → Prop} (h : Wp (b__law_copy (r__law_copy k) [some x0, none]) (finQ [false] Q) (fun c fs E => WE (keepE [false] E) fun F => X c fs F)) : Wp (r__law_copy (k + 1) [x0]) Q X := w_fn rfl rfl h
abbrev s__law_classes : Stmt := (top 51)
theorem sc__law_classes : FnScope ["e", "held", "name", "is_so"] ["e"] (defScope s__law_classes) := ⟨rfl, rfl, rfl, by decide +kernel, rfl, by decide +kernel, by decide +kernel⟩
def b__law_classes (K : Frag) (p : Addr × Obj) : M Out :=
  (mSeq (mSet 1 (mDisp .list (mArgD (mDisp .tuple (mArgD (mC (.str "strands")) (mArgD (mIsX K p (He.ga K "BadStrands") (mVar 0)) mNilA))) (mArgD (mDisp .tuple (mArgD (mC (.str "word")) (mArgD (mIsX K p (He.ga K "BadWord") (mVar 0)) mNilA))) (mArgD (mDisp .tuple (mArgD (mC (.str "long")) (mArgD (mIsX K p (He.ga K "TooLong") (mVar 0)) mNilA))) mNilA)))))
  (mSeq (mSet 1 (m2 pAdd (mVar 1) (mDisp .list (mArgD (mDisp .tuple (mArgD (mC (.str "letter")) (mArgD (mIsX K p (He.ga K "BadLetter") (mVar 0)) mNilA))) (mArgD (mDisp .tuple (mArgD (mC (.str "places")) (mArgD (mIsX K p (He.ga K "BadPlaces") (mVar 0)) mNilA))) (mArgD (mDisp .tuple (mArgD (mC (.str "move")) (mArgD (mIsX K p (He.ga K "BadMove") (mVar 0)) mNilA))) mNilA))))))
  (mSeq (mSet 1 (m2 pAdd (mVar 1) (mDisp .list (mArgD (mDisp .tuple (mArgD (mC (.str "turning")) (mArgD (mIsX K p (He.ga K "BadTurning") (mVar 0)) mNilA))) (mArgD (mDisp .tuple (mArgD (mC (.str "form")) (mArgD (mIsX K p (He.ga K "BadForm") (mVar 0)) mNilA))) (mArgD (mDisp .tuple (mArgD (mC (.str "many")) (mArgD (mIsX K p (He.ga K "TooMany") (mVar 0)) mNilA))) mNilA))))))
  (mSeq (mSet 1 (m2 pAdd (mVar 1) (mDisp .list (mArgD (mDisp .tuple (mArgD (mC (.str "handle")) (mArgD (mIsX K p (He.ga K "BadHandle") (mVar 0)) mNilA))) (mArgD (mDisp .tuple (mArgD (mC (.str "list")) (mArgD (mIsX K p (He.ga K "BadList") (mVar 0)) mNilA))) (mArgD (mDisp .tuple (mArgD (mC (.str "numbers")) (mArgD (mIsX K p (He.ga K "BadNumbers") (mVar 0)) mNilA))) mNilA))))))
  (mSeq (mSet 1 (m2 pAdd (mVar 1) (mDisp .list (mArgD (mDisp .tuple (mArgD (mC (.str "number")) (mArgD (mIsX K p (He.ga K "BadNumber") (mVar 0)) mNilA))) (mArgD (mDisp .tuple (mArgD (mC (.str "range")) (mArgD (mIsX K p (He.ga K "BadRange") (mVar 0)) mNilA))) (mArgD (mDisp .tuple (mArgD (mC (.str "deed")) (mArgD (mIsX K p (He.ga K "BadDeed") (mVar 0)) mNilA))) mNilA))))))
  (mSeq (mSet 1 (m2 pAdd (mVar 1) (mDisp .list (mArgD (mDisp .tuple (mArgD (mC (.str "paper")) (mArgD (mIsX K p (He.ga K "BadPaper") (mVar 0)) mNilA))) (mArgD (mDisp .tuple (mArgD (mC (.str "use")) (mArgD (mIsX K p (He.ga K "InUse") (mVar 0)) mNilA))) (mArgD (mDisp .tuple (mArgD (mC (.str "positive")) (mArgD (mIsX K p (He.ga K "NotPositive") (mVar 0)) mNilA))) mNilA))))))
  (mSeq (mSet 1 (m2 pAdd (mVar 1) (mDisp .list (mArgD (mDisp .tuple (mArgD (mC (.str "curve")) (mArgD (mIsX K p (He.ga K "NoCurve") (mVar 0)) mNilA))) (mArgD (mDisp .tuple (mArgD (mC (.str "undo")) (mArgD (mIsX K p (He.ga K "NothingToUndo") (mVar 0)) mNilA))) (mArgD (mDisp .tuple (mArgD (mC (.str "redo")) (mArgD (mIsX K p (He.ga K "NothingToRedo") (mVar 0)) mNilA))) mNilA))))))
  (mSeq (mSet 1 (m2 pAdd (mVar 1) (mDisp .list (mArgD (mDisp .tuple (mArgD (mC (.str "name")) (mArgD (mIsX K p (He.ga K "UnknownName") (mVar 0)) mNilA))) (mArgD (mDisp .tuple (mArgD (mC (.str "entry")) (mArgD (mIsX K p (He.ga K "BadEntry") (mVar 0)) mNilA))) (mArgD (mDisp .tuple (mArgD (mC (.str "text")) (mArgD (mIsX K p (He.ga K "BadText") (mVar 0)) mNilA))) mNilA))))))
  (mRetD (mFz (mLc [2, 3] (mItems (mVar 1)) (bTup [2, 3]) (mB (mVar 3)) (mDt (mVar 2)))))))))))))
def r__law_classes (K : Frag) (p : Addr × Obj) : List O → Rs O := mFn [false] 4 (b__law_classes K p)
theorem u__law_classes {K : Frag} {p : Addr × Obj} {x0 : O} {Q : O → En → Prop} {X : Str → List (Str × D) → En → Prop} (h : Wp (b__law_classes K p [some x0, none, none, none]) (finQ [false] Q) (fun c fs E => WE (keepE [false] E) fun F => X c fs F)) : Wp (r__law_classes K p [x0]) Q X := w_fn rfl rfl h
abbrev s__law_kept : Stmt := (top 52)
theorem sc__law_kept : FnScope ["e"] ["e"] (defScope s__law_kept) := ⟨rfl, rfl, rfl, by decide +kernel, rfl, by decide +kernel, by decide +kernel⟩
def b__law_kept (K : Frag) (p : Addr × Obj) : M Out :=
  (mSeq (mIfS (mOr (mB (mIsX K p (He.ga K "BadLetter") (mVar 0))) (mB (mIsX K p (He.ga K "BadEntry") (mVar 0)))) (mRetD (mFldX K p "place" (mVar 0))) mNx)
  (mSeq (mIfS (mB (mIsX K p (He.ga K "TooLong") (mVar 0))) (mRetD (mFldX K p "number" (mVar 0))) mNx)
  (mSeq (mIfS (mB (mIsX K p (He.ga K "TooMany") (mVar 0))) (mRetD (mFldX K p "bound" (mVar 0))) mNx)
  (mSeq (mIfS (mB (mIsX K p (He.ga K "UnknownName") (mVar 0))) (mRetD (mFldX K p "name" (mVar 0))) mNx)
  (mSeq (mIfS (mB (mIsX K p (He.ga K "BadText") (mVar 0))) (mRetD (mFldX K p "column" (mVar 0))) mNx)
  (mRetD (mC .none)))))))
def r__law_kept (K : Frag) (p : Addr × Obj) : List O → Rs O := mFn [false] 1 (b__law_kept K p)
theorem u__law_kept {K : Frag} {p : Addr × Obj} {x0 : O} {Q : O → En → Prop} {X : Str → List (Str × D) → En → Prop} (h : Wp (b__law_kept K p [some x0]) (finQ [false] Q) (fun c fs E => WE (keepE [false] E) fun F => X c fs F)) : Wp (r__law_kept K p [x0]) Q X := w_fn rfl rfl h
abbrev s__law_first_error : Stmt := (top 53)
theorem sc__law_first_error : FnScope ["n", "word", "most", "place", "letter"] ["n", "word", "most"] (defScope s__law_first_error) := ⟨rfl, rfl, rfl, by decide +kernel, rfl, by decide +kernel, by decide +kernel⟩
def b__law_first_error : M Out :=
  (mSeq (mIfS (mOr (mNot (mB (mIsi "int" (mVar 0)))) (mOr (mB (mIsi "bool" (mVar 0))) (mOr (mB (m2 pLt (mVar 0) (mC (.int 1)))) (mB (m2 pGt (mVar 0) (mC (.int 8))))))) (mRetD (mDisp .tuple (mArgD (mC (.str "strands")) (mArgD (mC .none) mNilA)))) mNx)
  (mSeq (mIfS (mNot (mB (mIsi "list" (mVar 1)))) (mRetD (mDisp .tuple (mArgD (mC (.str "word")) (mArgD (mC .none) mNilA)))) mNx)
  (mSeq (mIfS (mB (m2 pGt (mCallD cLen (mArgD (mVar 1) mNilA)) (mVar 2))) (mRetD (mDisp .tuple (mArgD (mC (.str "long")) (mArgD (mCallD cLen (mArgD (mVar 1) mNilA)) mNilA)))) mNx)
  (mSeq (mFor [3, 4] (mRng rng1 (mArgD (mCallD cLen (mArgD (mVar 1) mNilA)) mNilA)) (bName 3) (mSeq (mSet 4 (m2 pIx (mVar 1) (mVar 3)))
  (mIfS (mOr (mNot (mB (mIsi "int" (mVar 4)))) (mOr (mB (mIsi "bool" (mVar 4))) (mOr (mB (m2 pEq (mVar 4) (mC (.int 0)))) (mB (m2 pGe (mCallD cAbs (mArgD (mVar 4) mNilA)) (mVar 0)))))) (mRetD (mDisp .tuple (mArgD (mC (.str "letter")) (mArgD (mVar 3) mNilA)))) mNx)))
  (mRetD (mC .none))))))
def r__law_first_error : List O → Rs O := mFn [false, false, false] 5 b__law_first_error
theorem u__law_first_error {x0 x1 x2 : O} {Q : O → En → Prop} {X : Str → List (Str × D) → En → Prop} (h : Wp (b__law_first_error [some x0, some x1, some x2, none, none]) (finQ [false, false, false] Q) (fun c fs E => WE (keepE [false, false, false] E) fun F => X c fs F)) : Wp (r__law_first_error [x0, x1, x2]) Q X := w_fn rfl rfl h
abbrev s__law_within : Stmt := (top 54)
theorem sc__law_within : FnScope ["value", "low", "high"] ["value", "low", "high"] (defScope s__law_within) := ⟨rfl, rfl, rfl, by decide +kernel, rfl, by decide +kernel, by decide +kernel⟩
def b__law_within : M Out :=
  (mRetD (mAndV (mIsi "int" (mVar 0)) (mAndV (mNotV (mIsi "bool" (mVar 0))) (mChain pLe pLe (mVar 1) (mVar 0) (mVar 2)))))
def r__law_within : List O → Rs O := mFn [false, false, false] 3 b__law_within
theorem u__law_within {x0 x1 x2 : O} {Q : O → En → Prop} {X : Str → List (Str × D) → En → Prop} (h : Wp (b__law_within [some x0, some x1, some x2]) (finQ [false, false, false] Q) (fun c fs E => WE (keepE [false, false, false] E) fun F => X c fs F)) : Wp (r__law_within [x0, x1, x2]) Q X := w_fn rfl rfl h
abbrev s__law_behind : Stmt := (top 55)
theorem sc__law_behind : FnScope ["n", "word", "step", "head", "rest", "one", "two"] ["n", "word", "step"] (defScope s__law_behind) := ⟨rfl, rfl, rfl, by decide +kernel, rfl, by decide +kernel, by decide +kernel⟩
def b__law_behind : M Out :=
  (mSeq (mIfS (mOr (mNot (mB (mIsi "tuple" (mVar 2)))) (mOr (mB (m2 pLt (mCallD cLen (mArgD (mVar 2) mNilA)) (mC (.int 2)))) (mOr (mNot (mB (mIsi "str" (m2 pIx (mVar 2) (mC (.int 0)))))) (mNot (mB (mFz (mCall r__law_within (mArgD (m2 pIx (mVar 2) (mC (.int 1))) (mArgD (mC (.int 0)) (mArgD (mCallD cLen (mArgD (mVar 1) mNilA)) mNilA)))))))))) (mRetD (mC .none)) mNx)
  (mSeq (mPar ([3, 4].map bNameO) (mConsO (mDt (mSl (mVar 1) mNoPart (mPart (m2 pIx (mVar 2) (mC (.int 1)))))) (mConsO (mDt (mSl (mVar 1) (mPart (m2 pIx (mVar 2) (mC (.int 1)))) mNoPart)) mNilO)))
  (mSeq (mIfS (mAnd (mB (m2 pEq (mCallD cLen (mArgD (mVar 2) mNilA)) (mC (.int 3)))) (mAnd (mB (m2 pEq (m2 pIx (mVar 2) (mC (.int 0))) (mC (.str "put")))) (mAnd (mB (mFz (mCall r__law_within (mArgD (m2 pIx (mVar 2) (mC (.int 2))) (mArgD (m2 pSub (mC (.int 1)) (mVar 0)) (mArgD (m2 pSub (mVar 0) (mC (.int 1))) mNilA)))))) (mB (m2 pNe (m2 pIx (mVar 2) (mC (.int 2))) (mC (.int 0))))))) (mRetD (m2 pAdd (m2 pAdd (mVar 3) (mDisp .list (mArgD (m2 pIx (mVar 2) (mC (.int 2))) (mArgD (m2 pSub (mC (.int 0)) (m2 pIx (mVar 2) (mC (.int 2)))) mNilA)))) (mVar 4))) mNx)
  (mSeq (mIfS (mOr (mB (m2 pNe (mCallD cLen (mArgD (mVar 2) mNilA)) (mC (.int 2)))) (mB (m2 pLt (mCallD cLen (mArgD (mVar 4) mNilA)) (mC (.int 2))))) (mRetD (mC .none)) mNx)
  (mSeq (mPar ([5, 6].map bNameO) (mConsO (mDt (m2 pIx (mVar 4) (mC (.int 0)))) (mConsO (mDt (m2 pIx (mVar 4) (mC (.int 1)))) mNilO)))
  (mSeq (mIfS (mAnd (mB (m2 pEq (m2 pIx (mVar 2) (mC (.int 0))) (mC (.str "take")))) (mB (m2 pEq (mVar 5) (m2 pSub (mC (.int 0)) (mVar 6))))) (mRetD (m2 pAdd (mVar 3) (mSl (mVar 4) (mPart (mC (.int 2))) mNoPart))) mNx)
  (mSeq (mIfS (mAnd (mB (m2 pEq (m2 pIx (mVar 2) (mC (.int 0))) (mC (.str "far")))) (mB (m2 pGt (mCallD cAbs (mArgD (m2 pSub (mCallD cAbs (mArgD (mVar 5) mNilA)) (mCallD cAbs (mArgD (mVar 6) mNilA))) mNilA)) (mC (.int 1))))) (mRetD (m2 pAdd (m2 pAdd (mVar 3) (mDisp .list (mArgD (mVar 6) (mArgD (mVar 5) mNilA)))) (mSl (mVar 4) (mPart (mC (.int 2))) mNoPart))) mNx)
  (mSeq (mIfS (mAnd (mB (m2 pEq (m2 pIx (mVar 2) (mC (.int 0))) (mC (.str "near")))) (mAnd (mB (m2 pGt (mCallD cLen (mArgD (mVar 4) mNilA)) (mC (.int 2)))) (mAnd (mB (m2 pEq (m2 pIx (mVar 4) (mC (.int 2))) (mVar 5))) (mAnd (mB (m2 pEq (m2 pGt (mVar 5) (mC (.int 0))) (m2 pGt (mVar 6) (mC (.int 0))))) (mB (m2 pEq (mCallD cAbs (mArgD (m2 pSub (mCallD cAbs (mArgD (mVar 5) mNilA)) (mCallD cAbs (mArgD (mVar 6) mNilA))) mNilA)) (mC (.int 1)))))))) (mRetD (m2 pAdd (m2 pAdd (mVar 3) (mDisp .list (mArgD (mVar 6) (mArgD (mVar 5) (mArgD (mVar 6) mNilA))))) (mSl (mVar 4) (mPart (mC (.int 3))) mNoPart))) mNx)
  (mRetD (mC .none))))))))))
def r__law_behind : List O → Rs O := mFn [false, false, false] 7 b__law_behind
theorem u__law_behind {x0 x1 x2 : O} {Q : O → En → Prop} {X : Str → List (Str × D) → En → Prop} (h : Wp (b__law_behind [some x0, some x1, some x2, none, none, none, none]) (finQ [false, false, false] Q) (fun c fs E => WE (keepE [false, false, false] E) fun F => X c fs F)) : Wp (r__law_behind [x0, x1, x2]) Q X := w_fn rfl rfl h
abbrev s__law_stepped : Stmt := (top 56)
theorem sc__law_stepped : FnScope ["n", "word", "step", "fresh", "is_right", "held", "k"] ["n", "word", "step"] (defScope s__law_stepped) := ⟨rfl, rfl, rfl, by decide +kernel, rfl, by decide +kernel, by decide +kernel⟩
def b__law_stepped : M Out :=
  (mSeq (mIfS (mOr (mNot (mB (mIsi "tuple" (mVar 2)))) (mOr (mB (m2 pEq (mCallD cLen (mArgD (mVar 2) mNilA)) (mC (.int 0)))) (mNot (mB (mIsi "str" (m2 pIx (mVar 2) (mC (.int 0)))))))) (mRetD (mC .none)) mNx)
  (mSeq (mIfS (mB (m2 pEq (m2 pIx (mVar 2) (mC (.int 0))) (mC (.str "turn")))) (mSeq (mSet 4 (mAndV (m2 pEq (mCallD cLen (mArgD (mVar 2) mNilA)) (mC (.int 2))) (mAndV (mFz (mCall r__law_within (mArgD (m2 pIx (mVar 2) (mC (.int 1))) (mArgD (m2 pSub (mC (.int 1)) (mVar 0)) (mArgD (m2 pSub (mVar 0) (mC (.int 1))) mNilA))))) (m2 pNe (m2 pIx (mVar 2) (mC (.int 1))) (mC (.int 0))))))
  (mRetD (mIf (mB (mVar 4)) (mDisp .tuple (mArgD (mVar 0) (mArgD (m2 pAdd (m2 pAdd (mDisp .list (mArgD (m2 pSub (mC (.int 0)) (m2 pIx (mVar 2) (mC (.int 1)))) mNilA)) (mVar 1)) (mDisp .list (mArgD (m2 pIx (mVar 2) (mC (.int 1))) mNilA))) mNilA))) (mC .none)))) mNx)
  (mSeq (mIfS (mB (m2 pEq (m2 pIx (mVar 2) (mC (.int 0))) (mC (.str "grow")))) (mSeq (mSet 4 (mAndV (m2 pEq (mCallD cLen (mArgD (mVar 2) mNilA)) (mC (.int 2))) (mAndV (mFz (mCall r__law_within (mArgD (m2 pIx (mVar 2) (mC (.int 1))) (mArgD (m1 pNeg (mC (.int 1))) (mArgD (mC (.int 1)) mNilA))))) (m2 pNe (m2 pIx (mVar 2) (mC (.int 1))) (mC (.int 0))))))
  (mRetD (mIf (mB (mVar 4)) (mDisp .tuple (mArgD (m2 pAdd (mVar 0) (mC (.int 1))) (mArgD (m2 pAdd (mVar 1) (mDisp .list (mArgD (m2 pMul (mVar 0) (m2 pIx (mVar 2) (mC (.int 1)))) mNilA))) mNilA))) (mC .none)))) mNx)
  (mSeq (mIfS (mB (m2 pEq (m2 pIx (mVar 2) (mC (.int 0))) (mC (.str "shrink")))) (mSeq (mSet 5 (mFz (mLc [6] (mRng rng1 (mArgD (mCallD cLen (mArgD (mVar 1) mNilA)) mNilA)) (bName 6) (mB (m2 pEq (mCallD cAbs (mArgD (m2 pIx (mVar 1) (mVar 6)) mNilA)) (m2 pSub (mVar 0) (mC (.int 1))))) (mDt (mVar 6)))))
  (mRetD (mIf (mAnd (mB (m2 pEq (mCallD cLen (mArgD (mVar 2) mNilA)) (mC (.int 1)))) (mAnd (mB (m2 pGt (mVar 0) (mC (.int 1)))) (mB (m2 pEq (mVar 5) (mDisp .list (mArgD (m2 pSub (mCallD cLen (mArgD (mVar 1) mNilA)) (mC (.int 1))) mNilA)))))) (mDisp .tuple (mArgD (m2 pSub (mVar 0) (mC (.int 1))) (mArgD (mSl (mVar 1) mNoPart (mPart (m1 pNeg (mC (.int 1))))) mNilA))) (mC .none)))) mNx)
  (mSeq (mSet 3 (mFz (mCall r__law_behind (mArgD (mVar 0) (mArgD (mVar 1) (mArgD (mVar 2) mNilA))))))
  (mRetD (mIf (mB (m2 pIs (mVar 3) (mC .none))) (mC .none) (mDisp .tuple (mArgD (mVar 0) (mArgD (mVar 3) mNilA))))))))))
def r__law_stepped : List O → Rs O := mFn [false, false, false] 7 b__law_stepped
theorem u__law_stepped {x0 x1 x2 : O} {Q : O → En → Prop} {X : Str → List (Str × D) → En → Prop} (h : Wp (b__law_stepped [some x0, some x1, some x2, none, none, none, none]) (finQ [false, false, false] Q) (fun c fs E => WE (keepE [false, false, false] E) fun F => X c fs F)) : Wp (r__law_stepped [x0, x1, x2]) Q X := w_fn rfl rfl h
abbrev s__law_some_step : Stmt := (top 57)
theorem sc__law_some_step : FnScope ["pool", "n", "word", "name", "held", "kind", "sign", "i", "at", "place"] ["pool", "n", "word"] (defScope s__law_some_step) := ⟨rfl, rfl, rfl, by decide +kernel, rfl, by decide +kernel, by decide +kernel⟩
def b__law_some_step : M Out :=
  (mSeq (mPar ([5, 6].map bNameO) (mConsO (mDt (mFz (mCall r__law_pick (mArgS 0 (mArgD (mC (.int 12)) mNilA))))) (mConsO (mDt (m2 pIx (mDisp .list (mArgD (mC (.int 1)) (mArgD (m1 pNeg (mC (.int 1))) mNilA))) (mFz (mCall r__law_pick (mArgS 0 (mArgD (mC (.int 2)) mNilA)))))) mNilO)))
  (mSeq (mPar ([7, 8].map bNameO) (mConsO (mDt (m2 pMul (m2 pAdd (mC (.int 1)) (m2 pMod (mCallD cInt (mArgD (mFz (mCall r__law_pick (mArgS 0 (mArgD (mC (.int 60)) mNilA)))) mNilA)) (mCallD cMax2 (mArgD (mC (.int 1)) (mArgD (m2 pSub (mVar 1) (mC (.int 1))) mNilA))))) (mVar 6))) (mConsO (mDt (m2 pMod (mCallD cInt (mArgD (m2 pAdd (m2 pMul (mFz (mCall r__law_pick (mArgS 0 (mArgD (mC (.int 60)) mNilA)))) (mC (.int 60))) (mFz (mCall r__law_pick (mArgS 0 (mArgD (mC (.int 60)) mNilA))))) mNilA)) (m2 pAdd (mCallD cLen (mArgD (mVar 2) mNilA)) (mC (.int 1))))) mNilO)))
  (mSeq (mIfS (mB (m2 pLt (mVar 5) (mC (.int 2)))) (mRetD (mDisp .tuple (mArgD (mC (.str "turn")) (mArgD (mVar 7) mNilA)))) mNx)
  (mSeq (mIfS (mB (m2 pLt (mVar 5) (mC (.int 4)))) (mRetD (mDisp .tuple (mArgD (mC (.str "grow")) (mArgD (mVar 6) mNilA)))) mNx)
  (mSeq (mIfS (mB (m2 pLt (mVar 5) (mC (.int 6)))) (mRetD (mDisp .tuple (mArgD (mC (.str "shrink")) mNilA))) mNx)
  (mSeq (mIfS (mB (m2 pLt (mVar 5) (mC (.int 8)))) (mRetD (mDisp .tuple (mArgD (mC (.str "put")) (mArgD (mVar 8) (mArgD (mVar 7) mNilA))))) mNx)
  (mSeq (mSet 3 (m2 pIx (mDisp .list (mArgD (mC (.str "take")) (mArgD (mC (.str "far")) (mArgD (mC (.str "near")) (mArgD (mC (.str "near")) mNilA))))) (m2 pSub (mVar 5) (mC (.int 8)))))
  (mSeq (mSet 4 (mFz (mLc [9] (mRng rng1 (mArgD (mCallD cLen (mArgD (mVar 2) mNilA)) mNilA)) (bName 9) (mB (m2 pIsNot (mFz (mCall r__law_behind (mArgD (mVar 1) (mArgD (mVar 2) (mArgD (mDisp .tuple (mArgD (mVar 3) (mArgD (mVar 9) mNilA))) mNilA))))) (mC .none))) (mDt (mVar 9)))))
  (mRetD (mDisp .tuple (mArgD (mVar 3) (mArgD (m2 pIx (m2 pAdd (mVar 4) (mDisp .list (mArgD (mC (.int 0)) mNilA))) (m2 pMod (mCallD cInt (mArgD (mVar 8) mNilA)) (mCallD cMax2 (mArgD (mC (.int 1)) (mArgD (mCallD cLen (mArgD (mVar 4) mNilA)) mNilA))))) mNilA))))))))))))
def r__law_some_step : List O → Rs O := mFn [true, false, false] 10 b__law_some_step
theorem u__law_some_step {x0 x1 x2 : O} {Q : O → En → Prop} {X : Str → List (Str × D) → En → Prop} (h : Wp (b__law_some_step [some x0, some x1, some x2, none, none, none, none, none, none, none]) (finQ [true, false, false] Q) (fun c fs E => WE (keepE [true, false, false] E) fun F => X c fs F)) : Wp (r__law_some_step [x0, x1, x2]) Q X := w_fn rfl rfl h
abbrev s__law_close_row : Stmt := (top 58)
theorem sc__law_close_row : FnScope ["pool", "n", "word", "many", "steps", "turn", "step", "fresh"] ["pool", "n", "word", "many"] (defScope s__law_close_row) := ⟨rfl, rfl, rfl, by decide +kernel, rfl, by decide +kernel, by decide +kernel⟩
def b__law_close_row : M Out :=
  (mSeq (mSetO 4 (mLstO mNilA))
  (mSeq (mFor [5, 6, 7] (mRng rng1 (mArgD (mVar 3) mNilA)) (bName 5) (mSeq (mSet 6 (mFz (mCall r__law_some_step (mArgS 0 (mArgD (mVar 1) (mArgD (mVar 2) mNilA))))))
  (mSeq (mSet 7 (mFz (mCall r__law_stepped (mArgD (mVar 1) (mArgD (mVar 2) (mArgD (mVar 6) mNilA))))))
  (mIfS (mAnd (mB (m2 pIsNot (mVar 7) (mC .none))) (mAnd (mB (m2 pLt (m2 pIx (mVar 7) (mC (.int 0))) (mC (.int 9)))) (mB (m2 pLt (mCallD cLen (mArgD (m2 pIx (mVar 7) (mC (.int 1))) mNilA)) (mC (.int 401)))))) (mSeq (mAppendV 4 (mVar 6))
  (mAsgD (bTup [1, 2]) (mVar 7))) mNx))))
  (mRetD (mDisp .tuple (mArgD (mFrzV 4) (mArgD (mVar 1) (mArgD (mVar 2) mNilA)))))))
def r__law_close_row : List O → Rs O := mFn [true, false, false, false] 8 b__law_close_row
theorem u__law_close_row {x0 x1 x2 x3 : O} {Q : O → En → Prop} {X : Str → List (Str × D) → En → Prop} (h : Wp (b__law_close_row [some x0, some x1, some x2, some x3, none, none, none, none]) (finQ [true, false, false, false] Q) (fun c fs E => WE (keepE [true, false, false, false] E) fun F => X c fs F)) : Wp (r__law_close_row [x0, x1, x2, x3]) Q X := w_fn rfl rfl h
abbrev s__law_rich : Stmt := (top 59)
theorem sc__law_rich : FnScope ["pool", "n", "many", "word", "k", "h", "blocks", "kind", "e", "i", "j"] ["pool", "n", "many"] (defScope s__law_rich) := ⟨rfl, rfl, rfl, by decide +kernel, rfl, by decide +kernel, by decide +kernel⟩
def b__law_rich : M Out :=
  (mSeq (mSet 3 (mDisp .list mNilA))
  (mSeq (mFor [4, 5, 6, 7, 8, 9, 10] (mRng rng1 (mArgD (m2 pMul (mVar 2) (mCallD cInt (mArgD (m2 pGt (mVar 1) (mC (.int 1))) mNilA))) mNilA)) (bName 4) (mSeq (mPar ([7, 8].map bNameO) (mConsO (mDt (mFz (mCall r__law_pick (mArgS 0 (mArgD (mC (.int 8)) mNilA))))) (mConsO (mDt (m2 pIx (mDisp .list (mArgD (mC (.int 1)) (mArgD (m1 pNeg (mC (.int 1))) mNilA))) (mFz (mCall r__law_pick (mArgS 0 (mArgD (mC (.int 2)) mNilA)))))) mNilO)))
  (mSeq (mPar ([9, 10].map bNameO) (mConsO (mDt (m2 pAdd (mC (.int 1)) (m2 pMod (mCallD cInt (mArgD (mFz (mCall r__law_pick (mArgS 0 (mArgD (mC (.int 60)) mNilA)))) mNilA)) (m2 pSub (mVar 1) (mC (.int 1)))))) (mConsO (mDt (m2 pAdd (mC (.int 1)) (m2 pMod (mCallD cInt (mArgD (mFz (mCall r__law_pick (mArgS 0 (mArgD (mC (.int 60)) mNilA)))) mNilA)) (m2 pSub (mVar 1) (mC (.int 1)))))) mNilO)))
  (mSeq (mSet 5 (mCallD cMax2 (mArgD (mC (.int 1)) (mArgD (m2 pSub (m2 pAdd (mVar 9) (mC (.int 1))) (m2 pMul (mC (.int 2)) (mCallD cInt (mArgD (m2 pEq (mVar 9) (m2 pSub (mVar 1) (mC (.int 1)))) mNilA)))) mNilA))))
  (mSeq (mSet 6 (mDisp .list (mArgD (mDisp .list (mArgD (m2 pMul (mVar 8) (mVar 9)) mNilA)) (mArgD (mDisp .list (mArgD (m2 pMul (mVar 8) (mVar 9)) (mArgD (m2 pSub (mC (.int 0)) (m2 pMul (mVar 8) (mVar 9))) mNilA))) (mArgD (mDisp .list (mArgD (m2 pMul (mVar 8) (mVar 9)) (mArgD (m2 pMul (mVar 8) (mVar 10)) mNilA))) (mArgD (mDisp .list (mArgD (m2 pMul (mVar 8) (mVar 9)) (mArgD (m2 pMul (mVar 8) (mVar 5)) (mArgD (m2 pMul (mVar 8) (mVar 9)) mNilA)))) (mArgD (mDisp .list (mArgD (m2 pMul (mVar 8) (mVar 9)) (mArgD (m2 pSub (mC (.int 0)) (m2 pMul (mVar 8) (mVar 5))) (mArgD (m2 pMul (mVar 8) (mVar 9)) mNilA)))) mNilA)))))))
  (mSeq (mSet 6 (m2 pAdd (mVar 6) (mDisp .list (mArgD (mDisp .list (mArgD (m2 pMul (mVar 8) (mVar 9)) (mArgD (m2 pMul (mVar 8) (mVar 5)) (mArgD (m2 pSub (mC (.int 0)) (m2 pMul (mVar 8) (mVar 9))) mNilA)))) (mArgD (mDisp .list (mArgD (m2 pMul (mVar 8) (mVar 9)) (mArgD (m2 pMul (mVar 8) (mVar 10)) (mArgD (m2 pMul (mVar 8) (mVar 9)) mNilA)))) (mArgD (mDisp .list (mArgD (m2 pMul (mVar 8) (mVar 9)) (mArgD (m2 pSub (mC (.int 0)) (m2 pMul (mVar 8) (mVar 10))) mNilA))) mNilA))))))
  (mSet 3 (m2 pAdd (mVar 3) (m2 pIx (mVar 6) (mVar 7))))))))))
  (mRetD (mVar 3))))
def r__law_rich : List O → Rs O := mFn [true, false, false] 11 b__law_rich
theorem u__law_rich {x0 x1 x2 : O} {Q : O → En → Prop} {X : Str → List (Str × D) → En → Prop} (h : Wp (b__law_rich [some x0, some x1, some x2, none, none, none, none, none, none, none, none]) (finQ [true, false, false] Q) (fun c fs E => WE (keepE [true, false, false] E) fun F => X c fs F)) : Wp (r__law_rich [x0, x1, x2]) Q X := w_fn rfl rfl h
abbrev s__law_bad_word : Stmt := (top 60)
theorem sc__law_bad_word : FnScope ["pool", "n", "word", "at", "values", "bad"] ["pool", "n", "word"] (defScope s__law_bad_word) := ⟨rfl, rfl, rfl, by decide +kernel, rfl, by decide +kernel, by decide +kernel⟩
def b__law_bad_word : M Out :=
  (mSeq (mSet 3 (m2 pMod (mCallD cInt (mArgD (mFz (mCall r__law_pick (mArgS 0 (mArgD (mC (.int 60)) mNilA)))) mNilA)) (m2 pAdd (mCallD cLen (mArgD (mVar 2) mNilA)) (mC (.int 1)))))
  (mSeq (mSet 4 (mDisp .list (mArgD (mC (.int 0)) (mArgD (mVar 1) (mArgD (m2 pSub (mC (.int 0)) (mVar 1)) (mArgD (m2 pAdd (mVar 1) (mC (.int 3))) (mArgD (mC (.bool true)) (mArgD (mC .none) (mArgD (mC (.str "1")) (mArgD (mDisp .list (mArgD (mC (.int 1)) mNilA)) mNilA))))))))))
  (mSeq (mSet 5 (m2 pAdd (m2 pAdd (mSl (mVar 2) mNoPart (mPart (mVar 3))) (mDisp .list (mArgD (m2 pIx (mVar 4) (mFz (mCall r__law_pick (mArgS 0 (mArgD (mC (.int 8)) mNilA))))) mNilA))) (mSl (mVar 2) (mPart (mVar 3)) mNoPart)))
  (mRetD (m2 pIx (mDisp .list (mArgD (mVar 5) (mArgD (mVar 5) (mArgD (mCallD cTuple (mArgD (mVar 2) mNilA)) (mArgD (mC .none) (mArgD (mC (.str "1")) (mArgD (mC (.int 7)) (mArgD (m2 pMul (mDisp .list (mArgD (m2 pSub (mC (.int 0)) (mVar 1)) mNilA)) (mC (.int 401))) (mArgD (m2 pMul (mDisp .list (mArgD (mC (.int 1)) mNilA)) (mC (.int 402))) mNilA))))))))) (mFz (mCall r__law_pick (mArgS 0 (mArgD (mC (.int 8)) mNilA)))))))))
def r__law_bad_word : List O → Rs O := mFn [true, false, false] 6 b__law_bad_word
theorem u__law_bad_word {x0 x1 x2 : O} {Q : O → En → Prop} {X : Str → List (Str × D) → En → Prop} (h : Wp (b__law_bad_word [some x0, some x1, some x2, none, none, none]) (finQ [true, false, false] Q) (fun c fs E => WE (keepE [true, false, false] E) fun F => X c fs F)) : Wp (r__law_bad_word [x0, x1, x2]) Q X := w_fn rfl rfl h
abbrev s__law_told : Stmt := (top 61)
theorem sc__law_told : FnScope ["n", "word", "m", "other", "value", "e"] ["n", "word", "m", "other", "value"] (defScope s__law_told) := ⟨rfl, rfl, rfl, by decide +kernel, rfl, by decide +kernel, by decide +kernel⟩
def b__law_told : M Out :=
  (mTry 5 (catB exC) (mRetD (mDisp .tuple (mArgD (mC (.str "told")) (mArgD (mFz (mCall r_are_close_steps (mArgD (mVar 0) (mArgD (mVar 1) (mArgD (mVar 2) (mArgD (mVar 3) (mArgD (mVar 4) mNilA))))))) mNilA)))) (fun c fs E => if 5 < E.length then (refR "refused" exN exL1) c fs E else .no))
def r__law_told : List O → Rs O := mFn [false, false, false, false, false] 6 b__law_told
theorem u__law_told {x0 x1 x2 x3 x4 : O} {Q : O → En → Prop} {X : Str → List (Str × D) → En → Prop} (h : Wp (b__law_told [some x0, some x1, some x2, some x3, some x4, none]) (finQ [false, false, false, false, false] Q) (fun c fs E => WE (keepE [false, false, false, false, false] E) fun F => X c fs F)) : Wp (r__law_told [x0, x1, x2, x3, x4]) Q X := w_fn rfl rfl h
abbrev s__law_leads : Stmt := (top 62)
theorem sc__law_leads : FnScope ["n", "word", "m", "other", "value", "step", "fresh"] ["n", "word", "m", "other", "value"] (defScope s__law_leads) := ⟨rfl, rfl, rfl, by decide +kernel, rfl, by decide +kernel, by decide +kernel⟩
def b__law_leads : M Out :=
  (mSeq (mIfS (mNot (mB (mIsi "list" (mVar 4)))) (mRetD (mC (.bool false))) mNx)
  (mSeq (mFor [5, 6] (mItems (mVar 4)) (bName 5) (mSeq (mSet 6 (mFz (mCall r__law_stepped (mArgD (mVar 0) (mArgD (mVar 1) (mArgD (mVar 5) mNilA))))))
  (mSeq (mIfS (mOr (mB (m2 pIs (mVar 6) (mC .none))) (mOr (mB (m2 pGt (m2 pIx (mVar 6) (mC (.int 0))) (mC (.int 8)))) (mB (m2 pGt (mCallD cLen (mArgD (m2 pIx (mVar 6) (mC (.int 1))) mNilA)) (mC (.int 400)))))) (mRetD (mC (.bool false))) mNx)
  (mAsgD (bTup [0, 1]) (mVar 6)))))
  (mRetD (mAndV (m2 pEq (mVar 0) (mVar 2)) (m2 pEq (mVar 1) (mVar 3))))))
def r__law_leads : List O → Rs O := mFn [false, false, false, false, false] 7 b__law_leads
theorem u__law_leads {x0 x1 x2 x3 x4 : O} {Q : O → En → Prop} {X : Str → List (Str × D) → En → Prop} (h : Wp (b__law_leads [some x0, some x1, some x2, some x3, some x4, none, none]) (finQ [false, false, false, false, false] Q) (fun c fs E => WE (keepE [false, false, false, false, false] E) fun F => X c fs F)) : Wp (r__law_leads [x0, x1, x2, x3, x4]) Q X := w_fn rfl rfl h
abbrev s__law_is_right : Stmt := (top 63)
theorem sc__law_is_right : FnScope ["n", "word", "m", "other", "value", "due", "handed", "told"] ["n", "word", "m", "other", "value"] (defScope s__law_is_right) := ⟨rfl, rfl, rfl, by decide +kernel, rfl, by decide +kernel, by decide +kernel⟩
def b__law_is_right : M Out :=
  (mSeq (mSet 5 (mFz (mCall r__law_first_error (mArgD (mVar 0) (mArgD (mVar 1) (mArgD (mC (.int 400)) mNilA))))))
  (mSeq (mIfS (mB (m2 pIs (mVar 5) (mC .none))) (mSet 5 (mFz (mCall r__law_first_error (mArgD (mVar 2) (mArgD (mVar 3) (mArgD (mC (.int 400)) mNilA)))))) mNx)
  (mSeq (mIfS (mB (m2 pIsNot (mVar 5) (mC .none))) (mSet 5 (mDisp .tuple (mArgD (mC (.str "refused")) (mArgD (mDisp .list (mArgD (m2 pIx (mVar 5) (mC (.int 0))) mNilA)) (mArgD (m2 pIx (mVar 5) (mC (.int 1))) mNilA))))) (mSet 5 (mDisp .tuple (mArgD (mC (.str "told")) (mArgD (mFz (mCall r__law_leads (mArgD (mVar 0) (mArgD (mVar 1) (mArgD (mVar 2) (mArgD (mVar 3) (mArgD (mVar 4) mNilA))))))) mNilA)))))
  (mSeq (mSet 6 (mDisp .list (mArgD (mFz (mCall (r__law_copy 8) (mArgD (mVar 1) mNilA))) (mArgD (mFz (mCall (r__law_copy 8) (mArgD (mVar 3) mNilA))) (mArgD (mFz (mCall (r__law_copy 8) (mArgD (mVar 4) mNilA))) mNilA)))))
  (mSeq (mSet 7 (mFz (mCall r__law_told (mArgD (mVar 0) (mArgD (m2 pIx (mVar 6) (mC (.int 0))) (mArgD (mVar 2) (mArgD (m2 pIx (mVar 6) (mC (.int 1))) (mArgD (m2 pIx (mVar 6) (mC (.int 2))) mNilA))))))))
  (mRetD (mAndV (mFz (mCall (r__law_same 9) (mArgD (mVar 7) (mArgD (mVar 5) mNilA)))) (mFz (mCall (r__law_same 9) (mArgD (mVar 6) (mArgD (mDisp .list (mArgD (mVar 1) (mArgD (mVar 3) (mArgD (mVar 4) mNilA)))) mNilA)))))))))))
def r__law_is_right : List O → Rs O := mFn [false, false, false, false, false] 8 b__law_is_right
theorem u__law_is_right {x0 x1 x2 x3 x4 : O} {Q : O → En → Prop} {X : Str → List (Str × D) → En → Prop} (h : Wp (b__law_is_right [some x0, some x1, some x2, some x3, some x4, none, none, none]) (finQ [false, false, false, false, false] Q) (fun c fs E => WE (keepE [false, false, false, false, false] E) fun F => X c fs F)) : Wp (r__law_is_right [x0, x1, x2, x3, x4]) Q X := w_fn rfl rfl h
abbrev s__law_changed : Stmt := (top 64)
theorem sc__law_changed : FnScope ["pool", "n", "step", "kind"] ["pool", "n", "step"] (defScope s__law_changed) := ⟨rfl, rfl, rfl, by decide +kernel, rfl, by decide +kernel, by decide +kernel⟩
def b__law_changed : M Out :=
  (mSeq (mSet 3 (mFz (mCall r__law_pick (mArgS 0 (mArgD (mC (.int 9)) mNilA)))))
  (mSeq (mIfS (mAnd (mB (m2 pLt (mVar 3) (mC (.int 3)))) (mB (m2 pGt (mCallD cLen (mArgD (mVar 2) mNilA)) (mC (.int 1))))) (mRetD (m2 pAdd (mDisp .tuple (mArgD (m2 pIx (mVar 2) (mC (.int 0))) (mArgD (m2 pAdd (m2 pIx (mVar 2) (mC (.int 1))) (m2 pIx (mDisp .list (mArgD (mC (.int 1)) (mArgD (m1 pNeg (mC (.int 1))) (mArgD (mC (.int 2)) mNilA)))) (mVar 3))) mNilA))) (mSl (mVar 2) (mPart (mC (.int 2))) mNoPart))) mNx)
  (mSeq (mIfS (mAnd (mB (m2 pLt (mVar 3) (mC (.int 5)))) (mB (m2 pGt (mCallD cLen (mArgD (mVar 2) mNilA)) (mC (.int 1))))) (mRetD (m2 pAdd (mSl (mVar 2) mNoPart (mPart (m1 pNeg (mC (.int 1))))) (mDisp .tuple (mArgD (m2 pSub (mC (.int 0)) (m2 pIx (mVar 2) (m1 pNeg (mC (.int 1))))) mNilA)))) mNx)
  (mSeq (mIfS (mB (m2 pEq (mVar 3) (mC (.int 5)))) (mRetD (m2 pAdd (mDisp .tuple (mArgD (m2 pIx (mDisp .list (mArgD (mC (.str "turn")) (mArgD (mC (.str "grow")) (mArgD (mC (.str "take")) (mArgD (mC (.str "far")) (mArgD (mC (.str "near")) (mArgD (mC (.str "put")) mNilA))))))) (mFz (mCall r__law_pick (mArgS 0 (mArgD (mC (.int 6)) mNilA))))) mNilA)) (mSl (mVar 2) (mPart (mC (.int 1))) mNoPart))) mNx)
  (mSeq (mIfS (mB (m2 pEq (mVar 3) (mC (.int 6)))) (mRetD (mDisp .tuple (mArgD (mC (.str "shrink")) mNilA))) mNx)
  (mRetD (m2 pIx (mDisp .list (mArgD (mFz (mCallO cList (mArgD (mVar 2) mNilA))) (mArgD (m2 pAdd (mVar 2) (mDisp .tuple (mArgD (mC (.int 1)) mNilA))) (mArgD (mSl (mVar 2) mNoPart (mPart (m1 pNeg (mC (.int 1))))) (mArgD (mC .none) (mArgD (mDisp .tuple (mArgD (mVar 2) mNilA)) (mArgD (mDisp .tuple (mArgD (mC (.str "grow")) (mArgD (mC (.int 1)) mNilA))) mNilA))))))) (mFz (mCall r__law_pick (mArgS 0 (mArgD (mC (.int 6)) mNilA)))))))))))
def r__law_changed : List O → Rs O := mFn [true, false, false] 4 b__law_changed
theorem u__law_changed {x0 x1 x2 : O} {Q : O → En → Prop} {X : Str → List (Str × D) → En → Prop} (h : Wp (b__law_changed [some x0, some x1, some x2, none]) (finQ [true, false, false] Q) (fun c fs E => WE (keepE [true, false, false] E) fun F => X c fs F)) : Wp (r__law_changed [x0, x1, x2]) Q X := w_fn rfl rfl h
abbrev s__law_other_row : Stmt := (top 65)
theorem sc__law_other_row : FnScope ["pool", "n", "word", "steps", "kind", "at", "sign"] ["pool", "n", "word", "steps", "kind"] (defScope s__law_other_row) := ⟨rfl, rfl, rfl, by decide +kernel, rfl, by decide +kernel, by decide +kernel⟩
def b__law_other_row : M Out :=
  (mSeq (mSet 5 (m2 pMod (mCallD cInt (mArgD (mFz (mCall r__law_pick (mArgS 0 (mArgD (mC (.int 60)) mNilA)))) mNilA)) (m2 pAdd (mCallD cLen (mArgD (mVar 3) mNilA)) (mC (.int 1)))))
  (mSeq (mSet 6 (m2 pIx (mDisp .list (mArgD (mC (.int 1)) (mArgD (m1 pNeg (mC (.int 1))) mNilA))) (mFz (mCall r__law_pick (mArgS 0 (mArgD (mC (.int 2)) mNilA))))))
  (mSeq (mIfS (mB (m2 pEq (mVar 4) (mC (.int 0)))) (mRetD (m2 pAdd (mSl (mVar 3) mNoPart (mPart (mVar 5))) (mSl (mVar 3) (mPart (m2 pAdd (mVar 5) (mC (.int 1)))) mNoPart))) mNx)
  (mSeq (mIfS (mB (m2 pEq (mVar 4) (mC (.int 1)))) (mRetD (m2 pAdd (mSl (mVar 3) mNoPart (mPart (m2 pAdd (mVar 5) (mC (.int 1))))) (mSl (mVar 3) (mPart (mVar 5)) mNoPart))) mNx)
  (mSeq (mIfS (mB (m2 pEq (mVar 4) (mC (.int 2)))) (mRetD (m2 pAdd (m2 pAdd (m2 pAdd (mSl (mVar 3) mNoPart (mPart (mVar 5))) (mSl (mVar 3) (mPart (m2 pAdd (mVar 5) (mC (.int 1)))) (mPart (m2 pAdd (mVar 5) (mC (.int 2)))))) (mSl (mVar 3) (mPart (mVar 5)) (mPart (m2 pAdd (mVar 5) (mC (.int 1)))))) (mSl (mVar 3) (mPart (m2 pAdd (mVar 5) (mC (.int 2)))) mNoPart))) mNx)
  (mSeq (mIfS (mAnd (mB (m2 pLt (mVar 4) (mC (.int 5)))) (mB (m2 pLt (mVar 5) (mCallD cLen (mArgD (mVar 3) mNilA))))) (mRetD (m2 pAdd (m2 pAdd (mSl (mVar 3) mNoPart (mPart (mVar 5))) (mDisp .list (mArgD (mFz (mCall r__law_changed (mArgS 0 (mArgD (mVar 1) (mArgD (m2 pIx (mVar 3) (mVar 5)) mNilA))))) mNilA))) (mSl (mVar 3) (mPart (m2 pAdd (mVar 5) (mC (.int 1)))) mNoPart))) mNx)
  (mSeq (mIfS (mB (m2 pEq (mVar 4) (mC (.int 5)))) (mRetD (m2 pAdd (m2 pAdd (mSl (mVar 3) mNoPart (mPart (mVar 5))) (mDisp .list (mArgD (mDisp .tuple (mArgD (mC (.str "grow")) (mArgD (mVar 6) mNilA))) (mArgD (mDisp .tuple (mArgD (mC (.str "shrink")) mNilA)) mNilA)))) (mSl (mVar 3) (mPart (mVar 5)) mNoPart))) mNx)
  (mSeq (mIfS (mB (m2 pEq (mVar 4) (mC (.int 6)))) (mRetD (m2 pAdd (m2 pAdd (mSl (mVar 3) mNoPart (mPart (mVar 5))) (mDisp .list (mArgD (mDisp .tuple (mArgD (mC (.str "put")) (mArgD (mC (.int 0)) (mArgD (mVar 6) mNilA)))) (mArgD (mDisp .tuple (mArgD (mC (.str "take")) (mArgD (mC (.int 0)) mNilA))) mNilA)))) (mSl (mVar 3) (mPart (mVar 5)) mNoPart))) mNx)
  (mSeq (mIfS (mB (m2 pEq (mVar 4) (mC (.int 7)))) (mRetD (m2 pAdd (mDisp .list (mArgD (mDisp .tuple (mArgD (mC (.str "turn")) (mArgD (mVar 6) mNilA))) (mArgD (mDisp .tuple (mArgD (mC (.str "turn")) (mArgD (m2 pSub (mC (.int 0)) (mVar 6)) mNilA))) (mArgD (mDisp .tuple (mArgD (mC (.str "take")) (mArgD (mC (.int 0)) mNilA))) (mArgD (mDisp .tuple (mArgD (mC (.str "take")) (mArgD (mCallD cLen (mArgD (mVar 2) mNilA)) mNilA))) mNilA))))) (mVar 3))) mNx)
  (mSeq (mIfS (mB (m2 pEq (mVar 4) (mC (.int 8)))) (mRetD (m2 pAdd (mVar 3) (mDisp .list (mArgD (mDisp .tuple (mArgD (mC (.str "grow")) (mArgD (mVar 6) mNilA))) (mArgD (mDisp .tuple (mArgD (mC (.str "grow")) (mArgD (mVar 6) mNilA))) (mArgD (mDisp .tuple (mArgD (mC (.str "shrink")) mNilA)) (mArgD (mDisp .tuple (mArgD (mC (.str "shrink")) mNilA)) mNilA))))))) mNx)
  (mRetD (m2 pIx (mDisp .list (mArgD (m1 pRev (mVar 3)) (mArgD (mSl (mVar 3) mNoPart (mPart (mVar 5))) (mArgD (mCallD cTuple (mArgD (mVar 3) mNilA)) (mArgD (mDisp .list (mArgD (mVar 3) mNilA)) (mArgD (mC .none) (mArgD (mC (.bool true)) (mArgD (mC (.str "shrink")) (mArgD (mVar 5) (mArgD (mDisp .list (mArgD (mC .none) mNilA)) (mArgD (mDisp .list (mArgD (mDisp .list mNilA) mNilA)) (mArgD (mDisp .list (mArgD (mDisp .tuple mNilA) mNilA)) (mArgD (mDisp .tuple mNilA) mNilA))))))))))))) (mFz (mCall r__law_pick (mArgS 0 (mArgD (mC (.int 12)) mNilA))))))))))))))))
def r__law_other_row : List O → Rs O := mFn [true, false, false, false, false] 7 b__law_other_row
theorem u__law_other_row {x0 x1 x2 x3 x4 : O} {Q : O → En → Prop} {X : Str → List (Str × D) → En → Prop} (h : Wp (b__law_other_row [some x0, some x1, some x2, some x3, some x4, none, none]) (finQ [true, false, false, false, false] Q) (fun c fs E => WE (keepE [true, false, false, false, false] E) fun F => X c fs F)) : Wp (r__law_other_row [x0, x1, x2, x3, x4]) Q X := w_fn rfl rfl h
abbrev s__law_other_word : Stmt := (top 66)
theorem sc__law_other_word : FnScope ["pool", "n", "word", "kind", "at", "letter"] ["pool", "n", "word"] (defScope s__law_other_word) := ⟨rfl, rfl, rfl, by decide +kernel, rfl, by decide +kernel, by decide +kernel⟩
def b__law_other_word : M Out :=
  (mSeq (mPar ([4, 5].map bNameO) (mConsO (mDt (m2 pMod (mCallD cInt (mArgD (mFz (mCall r__law_pick (mArgS 0 (mArgD (mC (.int 60)) mNilA)))) mNilA)) (m2 pAdd (mCallD cLen (mArgD (mVar 2) mNilA)) (mC (.int 1))))) (mConsO (mDt (mCallD cMax2 (mArgD (mC (.int 1)) (mArgD (m2 pMod (mCallD cInt (mArgD (mFz (mCall r__law_pick (mArgS 0 (mArgD (mC (.int 60)) mNilA)))) mNilA)) (mVar 1)) mNilA)))) mNilO)))
  (mSeq (mSet 3 (mFz (mCall r__law_pick (mArgS 0 (mArgD (mC (.int 5)) mNilA)))))
  (mSeq (mIfS (mAnd (mB (m2 pEq (mVar 3) (mC (.int 0)))) (mB (m2 pLt (mVar 4) (mCallD cLen (mArgD (mVar 2) mNilA))))) (mRetD (m2 pAdd (m2 pAdd (mSl (mVar 2) mNoPart (mPart (mVar 4))) (mDisp .list (mArgD (m2 pSub (mC (.int 0)) (m2 pIx (mVar 2) (mVar 4))) mNilA))) (mSl (mVar 2) (mPart (m2 pAdd (mVar 4) (mC (.int 1)))) mNoPart))) mNx)
  (mSeq (mIfS (mB (m2 pEq (mVar 3) (mC (.int 1)))) (mRetD (m2 pAdd (mSl (mVar 2) mNoPart (mPart (mVar 4))) (mSl (mVar 2) (mPart (m2 pAdd (mVar 4) (mC (.int 1)))) mNoPart))) mNx)
  (mSeq (mIfS (mAnd (mB (m2 pEq (mVar 3) (mC (.int 2)))) (mAnd (mB (m2 pGt (mVar 1) (mC (.int 1)))) (mB (m2 pLt (mCallD cLen (mArgD (mVar 2) mNilA)) (mC (.int 400)))))) (mRetD (m2 pAdd (mVar 2) (mDisp .list (mArgD (mVar 5) mNilA)))) mNx)
  (mRetD (m2 pAdd (mSl (mVar 2) (mPart (mC (.int 1))) mNoPart) (mSl (mVar 2) mNoPart (mPart (mC (.int 1)))))))))))
def r__law_other_word : List O → Rs O := mFn [true, false, false] 6 b__law_other_word
theorem u__law_other_word {x0 x1 x2 : O} {Q : O → En → Prop} {X : Str → List (Str × D) → En → Prop} (h : Wp (b__law_other_word [some x0, some x1, some x2, none, none, none]) (finQ [true, false, false] Q) (fun c fs E => WE (keepE [true, false, false] E) fun F => X c fs F)) : Wp (r__law_other_word [x0, x1, x2]) Q X := w_fn rfl rfl h
abbrev s_law : Stmt := (top 67)
theorem sc_law : FnScope ["script", "pool", "n", "word", "kind", "turn", "k", "value", "strands", "steps", "m", "last"] ["script"] (defScope s_law) := ⟨rfl, rfl, rfl, by decide +kernel, rfl, by decide +kernel, by decide +kernel⟩
def b_law : M Out :=
  (mSeq (mSetO 1 (mCall r__law_stream (mArgD (mVar 0) mNilA)))
  (mSeq (mSet 2 (m2 pIx (mDisp .list (mArgD (mC (.int 1)) (mArgD (mC (.int 2)) (mArgD (mC (.int 8)) (mArgD (mC (.int 7)) (mArgD (mC (.int 3)) (mArgD (mC (.int 4)) (mArgD (mC (.int 5)) (mArgD (mC (.int 6)) mNilA))))))))) (mFz (mCall r__law_pick (mArgS 1 (mArgD (mC (.int 8)) mNilA))))))
  (mSeq (mSet 3 (mFz (mCall r__law_rich (mArgS 1 (mArgD (mVar 2) (mArgD (mFz (mCall r__law_pick (mArgS 1 (mArgD (mC (.int 9)) mNilA)))) mNilA))))))
  (mSeq (mIfS (mAnd (mB (m2 pEq (mFz (mCall r__law_pick (mArgS 1 (mArgD (mC (.int 5)) mNilA)))) (mC (.int 0)))) (mB (m2 pGt (mVar 2) (mC (.int 1))))) (mSet 3 (m2 pAdd (m2 pMul (mDisp .list (mArgD (mCallD cMax2 (mArgD (mC (.int 1)) (mArgD (m2 pSub (mVar 2) (mC (.int 2))) mNilA))) mNilA)) (m2 pSub (m2 pAdd (mC (.int 396)) (mFz (mCall r__law_pick (mArgS 1 (mArgD (mC (.int 5)) mNilA))))) (mCallD cLen (mArgD (mVar 3) mNilA)))) (mVar 3))) mNx)
  (mSeq (mAsgD (bTup [9, 10, 11]) (mFz (mCall r__law_close_row (mArgS 1 (mArgD (mVar 2) (mArgD (mVar 3) (mArgD (mFz (mCall r__law_pick (mArgS 1 (mArgD (mC (.int 31)) mNilA)))) mNilA)))))))
  (mSeq (mIfS (mOr (mNot (mB (mFz (mCall r__law_leads (mArgD (mVar 2) (mArgD (mVar 3) (mArgD (mVar 10) (mArgD (mVar 11) (mArgD (mVar 9) mNilA))))))))) (mNot (mB (mFz (mCall r__law_is_right (mArgD (mVar 2) (mArgD (mVar 3) (mArgD (mVar 10) (mArgD (mVar 11) (mArgD (mVar 9) mNilA)))))))))) (mRetD (mC (.bool false))) mNx)
  (mSeq (mFor [4] (mRng rng1 (mArgD (mC (.int 12)) mNilA)) (bName 4) (mIfS (mNot (mB (mFz (mCall r__law_is_right (mArgD (mVar 2) (mArgD (mVar 3) (mArgD (mVar 10) (mArgD (mVar 11) (mArgD (mFz (mCall r__law_other_row (mArgS 1 (mArgD (mVar 2) (mArgD (mVar 3) (mArgD (mVar 9) (mArgD (mVar 4) mNilA))))))) mNilA))))))))) (mRetD (mC (.bool false))) mNx))
  (mSeq (mFor [5] (mRng rng1 (mArgD (mC (.int 3)) mNilA)) (bName 5) (mIfS (mNot (mB (mFz (mCall r__law_is_right (mArgD (mVar 2) (mArgD (mVar 3) (mArgD (mVar 10) (mArgD (mFz (mCall r__law_other_word (mArgS 1 (mArgD (mVar 10) (mArgD (mVar 11) mNilA))))) (mArgD (mVar 9) mNilA))))))))) (mRetD (mC (.bool false))) mNx))
  (mSeq (mFor [6] (mRng rng2 (mArgD (mC (.int 1)) (mArgD (mC (.int 9)) mNilA))) (bName 6) (mIfS (mOr (mNot (mB (mFz (mCall r__law_is_right (mArgD (mVar 2) (mArgD (mVar 3) (mArgD (mVar 6) (mArgD (mVar 11) (mArgD (mVar 9) mNilA))))))))) (mNot (mB (mFz (mCall r__law_is_right (mArgD (mVar 2) (mArgD (mVar 3) (mArgD (mVar 6) (mArgD (mVar 3) (mArgD (mDisp .list mNilA) mNilA)))))))))) (mRetD (mC (.bool false))) mNx))
  (mSeq (mSet 7 (m2 pIx (mDisp .list (mArgD (mVar 9) (mArgD (mC .none) (mArgD (mDisp .list mNilA) (mArgD (mDisp .list (mArgD (mC .none) mNilA)) mNilA))))) (mFz (mCall r__law_pick (mArgS 1 (mArgD (mC (.int 4)) mNilA))))))
  (mSeq (mIfS (mNot (mB (mFz (mCall r__law_is_right (mArgD (mVar 2) (mArgD (mFz (mCall r__law_bad_word (mArgS 1 (mArgD (mVar 2) (mArgD (mVar 3) mNilA))))) (mArgD (mVar 10) (mArgD (mFz (mCall r__law_bad_word (mArgS 1 (mArgD (mVar 10) (mArgD (mVar 11) mNilA))))) (mArgD (mVar 7) mNilA))))))))) (mRetD (mC (.bool false))) mNx)
  (mSeq (mIfS (mOr (mNot (mB (mFz (mCall r__law_is_right (mArgD (mVar 2) (mArgD (mVar 3) (mArgD (mVar 10) (mArgD (mFz (mCall r__law_bad_word (mArgS 1 (mArgD (mVar 10) (mArgD (mVar 11) mNilA))))) (mArgD (mVar 7) mNilA))))))))) (mNot (mB (mFz (mCall r__law_is_right (mArgD (mVar 2) (mArgD (mFz (mCall r__law_bad_word (mArgS 1 (mArgD (mVar 2) (mArgD (mVar 3) mNilA))))) (mArgD (mVar 10) (mArgD (mVar 11) (mArgD (mVar 7) mNilA)))))))))) (mRetD (mC (.bool false))) mNx)
  (mSeq (mSet 8 (m2 pIx (mDisp .list (mArgD (mC (.int 0)) (mArgD (mC (.int 9)) (mArgD (mC (.bool true)) (mArgD (mC .none) (mArgD (mC (.str "2")) (mArgD (mDisp .list (mArgD (mC (.int 2)) mNilA)) mNilA))))))) (mFz (mCall r__law_pick (mArgS 1 (mArgD (mC (.int 6)) mNilA))))))
  (mSeq (mIfS (mOr (mNot (mB (mFz (mCall r__law_is_right (mArgD (mVar 8) (mArgD (mVar 3) (mArgD (mVar 10) (mArgD (mVar 11) (mArgD (mVar 7) mNilA))))))))) (mNot (mB (mFz (mCall r__law_is_right (mArgD (mVar 2) (mArgD (mVar 3) (mArgD (mVar 8) (mArgD (mVar 11) (mArgD (mVar 7) mNilA)))))))))) (mRetD (mC (.bool false))) mNx)
  (mRetD (mFz (mCall r__law_is_right (mArgD (mVar 2) (mArgD (mVar 3) (mArgD (mVar 10) (mArgD (mVar 11) (mArgD (mVar 9) mNilA))))))))))))))))))))))
def r_law : List O → Rs O := mFn [false] 12 b_law
theorem u_law {x0 : O} {Q : O → En → Prop} {X : Str → List (Str × D) → En → Prop} (h : Wp (b_law [some x0, none, none, none, none, none, none, none, none, none, none, none]) (finQ [false] Q) (fun c fs E => WE (keepE [false] E) fun F => X c fs F)) : Wp (r_law [x0]) Q X := w_fn rfl rfl h
def dd_is_number : He.DefD := ⟨("is_number", none), "is_number", "is_number", defArgs s_is_number, defBody s_is_number, defScope s_is_number, [], []⟩
def dd_check_strands : He.DefD := ⟨("check_strands", none), "check_strands", "check_strands", defArgs s_check_strands, defBody s_check_strands, defScope s_check_strands, [], []⟩
def dd_check_letters : He.DefD := ⟨("check_letters", none), "check_letters", "check_letters", defArgs s_check_letters, defBody s_check_letters, defScope s_check_letters, [], []⟩
def dd_check_word : He.DefD := ⟨("check_word", none), "check_word", "check_word", defArgs s_check_word, defBody s_check_word, defScope s_check_word, [], []⟩
def dd_is_letter : He.DefD := ⟨("is_letter", none), "is_letter", "is_letter", defArgs s_is_letter, defBody s_is_letter, defScope s_is_letter, [], []⟩
def dd_put_in : He.DefD := ⟨("put_in", none), "put_in", "put_in", defArgs s_put_in, defBody s_put_in, defScope s_put_in, [], []⟩
def dd_take_away : He.DefD := ⟨("take_away", none), "take_away", "take_away", defArgs s_take_away, defBody s_take_away, defScope s_take_away, [], []⟩
def dd_exchange_far : He.DefD := ⟨("exchange_far", none), "exchange_far", "exchange_far", defArgs s_exchange_far, defBody s_exchange_far, defScope s_exchange_far, [], []⟩
def dd_turn_near : He.DefD := ⟨("turn_near", none), "turn_near", "turn_near", defArgs s_turn_near, defBody s_turn_near, defScope s_turn_near, [], []⟩
def dd_try_move : He.DefD := ⟨("try_move", none), "try_move", "try_move", defArgs s_try_move, defBody s_try_move, defScope s_try_move, [], []⟩
def dd_can_shrink : He.DefD := ⟨("can_shrink", none), "can_shrink", "can_shrink", defArgs s_can_shrink, defBody s_can_shrink, defScope s_can_shrink, [], []⟩
def dd_step_behind : He.DefD := ⟨("step_behind", none), "step_behind", "step_behind", defArgs s_step_behind, defBody s_step_behind, defScope s_step_behind, [], []⟩
def dd_lead_close : He.DefD := ⟨("lead_close", none), "lead_close", "lead_close", defArgs s_lead_close, defBody s_lead_close, defScope s_lead_close, [], []⟩
def dd_are_close_steps : He.DefD := ⟨("are_close_steps", none), "are_close_steps", "are_close_steps", defArgs s_are_close_steps, defBody s_are_close_steps, defScope s_are_close_steps, [], []⟩
def dd__law_pool : He.DefD := ⟨("_law_pool", none), "_law_pool", "_law_pool", defArgs s__law_pool, defBody s__law_pool, defScope s__law_pool, [], []⟩
def dd__law_stream : He.DefD := ⟨("_law_stream", none), "_law_stream", "_law_stream", defArgs s__law_stream, defBody s__law_stream, defScope s__law_stream, [], []⟩
def dd__law_pick : He.DefD := ⟨("_law_pick", none), "_law_pick", "_law_pick", defArgs s__law_pick, defBody s__law_pick, defScope s__law_pick, [], []⟩
def dd__law_same : He.DefD := ⟨("_law_same", none), "_law_same", "_law_same", defArgs s__law_same, defBody s__law_same, defScope s__law_same, [], []⟩
def dd__law_copy : He.DefD := ⟨("_law_copy", none), "_law_copy", "_law_copy", defArgs s__law_copy, defBody s__law_copy, defScope s__law_copy, [], []⟩
def dd__law_classes : He.DefD := ⟨("_law_classes", none), "_law_classes", "_law_classes", defArgs s__law_classes, defBody s__law_classes, defScope s__law_classes, [], []⟩
def dd__law_kept : He.DefD := ⟨("_law_kept", none), "_law_kept", "_law_kept", defArgs s__law_kept, defBody s__law_kept, defScope s__law_kept, [], []⟩
def dd__law_first_error : He.DefD := ⟨("_law_first_error", none), "_law_first_error", "_law_first_error", defArgs s__law_first_error, defBody s__law_first_error, defScope s__law_first_error, [], []⟩
def dd__law_within : He.DefD := ⟨("_law_within", none), "_law_within", "_law_within", defArgs s__law_within, defBody s__law_within, defScope s__law_within, [], []⟩
def dd__law_behind : He.DefD := ⟨("_law_behind", none), "_law_behind", "_law_behind", defArgs s__law_behind, defBody s__law_behind, defScope s__law_behind, [], []⟩
def dd__law_stepped : He.DefD := ⟨("_law_stepped", none), "_law_stepped", "_law_stepped", defArgs s__law_stepped, defBody s__law_stepped, defScope s__law_stepped, [], []⟩
def dd__law_some_step : He.DefD := ⟨("_law_some_step", none), "_law_some_step", "_law_some_step", defArgs s__law_some_step, defBody s__law_some_step, defScope s__law_some_step, [], []⟩
def dd__law_close_row : He.DefD := ⟨("_law_close_row", none), "_law_close_row", "_law_close_row", defArgs s__law_close_row, defBody s__law_close_row, defScope s__law_close_row, [], []⟩
def dd__law_rich : He.DefD := ⟨("_law_rich", none), "_law_rich", "_law_rich", defArgs s__law_rich, defBody s__law_rich, defScope s__law_rich, [], []⟩
def dd__law_bad_word : He.DefD := ⟨("_law_bad_word", none), "_law_bad_word", "_law_bad_word", defArgs s__law_bad_word, defBody s__law_bad_word, defScope s__law_bad_word, [], []⟩
def dd__law_told : He.DefD := ⟨("_law_told", none), "_law_told", "_law_told", defArgs s__law_told, defBody s__law_told, defScope s__law_told, [], []⟩
def dd__law_leads : He.DefD := ⟨("_law_leads", none), "_law_leads", "_law_leads", defArgs s__law_leads, defBody s__law_leads, defScope s__law_leads, [], []⟩
def dd__law_is_right : He.DefD := ⟨("_law_is_right", none), "_law_is_right", "_law_is_right", defArgs s__law_is_right, defBody s__law_is_right, defScope s__law_is_right, [], []⟩
def dd__law_changed : He.DefD := ⟨("_law_changed", none), "_law_changed", "_law_changed", defArgs s__law_changed, defBody s__law_changed, defScope s__law_changed, [], []⟩
def dd__law_other_row : He.DefD := ⟨("_law_other_row", none), "_law_other_row", "_law_other_row", defArgs s__law_other_row, defBody s__law_other_row, defScope s__law_other_row, [], []⟩
def dd__law_other_word : He.DefD := ⟨("_law_other_word", none), "_law_other_word", "_law_other_word", defArgs s__law_other_word, defBody s__law_other_word, defScope s__law_other_word, [], []⟩
def dd_law : He.DefD := ⟨("law", none), "law", "law", defArgs s_law, defBody s_law, defScope s_law, [], []⟩
def fn : List He.DefD := [dd_is_number, dd_check_strands, dd_check_letters, dd_check_word, dd_is_letter, dd_put_in, dd_take_away, dd_exchange_far, dd_turn_near, dd_try_move, dd_can_shrink, dd_step_behind, dd_lead_close, dd_are_close_steps, dd__law_pool, dd__law_stream, dd__law_pick, dd__law_same, dd__law_copy, dd__law_classes, dd__law_kept, dd__law_first_error, dd__law_within, dd__law_behind, dd__law_stepped, dd__law_some_step, dd__law_close_row, dd__law_rich, dd__law_bad_word, dd__law_told, dd__law_leads, dd__law_is_right, dd__law_changed, dd__law_other_row, dd__law_other_word, dd_law]
def fa : List He.Fa := [.glo "is_number", .free "isinstance", .free "int", .free "bool", .glo "check_strands", .int "MOST_STRANDS" 8, .glo "BadStrands", .glo "check_letters", .free "list", .glo "BadWord", .free "len", .glo "TooLong", .free "super", .free "enumerate", .free "abs", .glo "BadLetter", .glo "check_word", .int "MOST_LETTERS" 400, .glo "is_letter", .glo "put_in", .glo "take_away", .glo "exchange_far", .glo "turn_near", .glo "try_move", .free "tuple", .glo "can_shrink", .free "all", .glo "step_behind", .glo "lead_close", .glo "are_close_steps", .glo "_law_pool", .free "range", .glo "_law_stream", .glo "_law_pick", .glo "_law_same", .free "str", .glo "_law_copy", .glo "_law_classes", .glo "BadPlaces", .glo "BadMove", .glo "BadTurning", .glo "BadForm", .glo "TooMany", .glo "BadHandle", .glo "BadList", .glo "BadNumbers", .glo "BadNumber", .glo "BadRange", .glo "BadDeed", .glo "BadPaper", .glo "InUse", .glo "NotPositive", .glo "NoCurve", .glo "NothingToUndo", .glo "NothingToRedo", .glo "UnknownName", .glo "BadEntry", .glo "BadText", .glo "_law_kept", .glo "_law_first_error", .glo "_law_within", .glo "_law_behind", .glo "_law_stepped", .glo "_law_some_step", .free "max", .glo "_law_close_row", .glo "_law_rich", .glo "_law_bad_word", .glo "_law_told", .glo "BraidError", .glo "_law_leads", .glo "_law_is_right", .glo "_law_changed", .glo "_law_other_row", .glo "_law_other_word", .glo "law"]
section
variable {P : Program} {w : World} {K : Frag} {mg : Str → Option Value} {base : Heap}
theorem T_glo (T : Ty P w K mg base exF exL0 exL1 exY exB fa fn) : ∀ c ∈ exC, mg c = some (.ref (He.ga K c)) := by
  intro c hc
  simp only [exC, exL0, exL1, List.map_cons, List.map_nil, List.cons_append, List.nil_append, List.mem_cons, List.not_mem_nil, or_false] at hc
  rcases hc with rfl | rfl | rfl | rfl
  · exact T.glo 6 "BadStrands" rfl
  · exact T.glo 9 "BadWord" rfl
  · exact T.glo 11 "TooLong" rfl
  · exact T.glo 15 "BadLetter" rfl
local macro_rules
  | `(tactic| array_get_dec) => `(tactic| skip)
local macro_rules
  | `(tactic| array_get_dec) => `(tactic| (((with_reducible refine And.intro ?_ ?_); focus (first | exact rfl | exact Nat.le_of_ble_eq_true rfl | decide | omega | (simp only [List.length_map, List.length_cons, List.length_nil, List.length_append]; omega))); array_get_dec))
local macro_rules
  | `(tactic| array_get_dec) => `(tactic| ((with_reducible first
    | (rw [toD_lst]; refine w_some ?_) | (rw [toD_lst0]; refine w_some ?_) | (rw [toD_lists]; refine w_some ?_)); array_get_dec))
local macro_rules
  | `(tactic| array_get_dec) => `(tactic| ((with_reducible first
    | (rw [isD_tuple_str]; refine w_some ?_) | (rw [isD_tuple_list]; refine w_some ?_) | (rw [isD_tuple_tuple]; refine w_some ?_) | refine w_ifnT ?_ | refine w_ifnF ?_ | refine w_iteT ?_ | refine w_iteF ?_ | (rw [toD_dt]; refine w_some ?_)); array_get_dec))
local macro_rules
  | `(tactic| array_get_dec) => `(tactic| ((with_reducible first
    | (rw [isD_list_bool]; refine w_some ?_) | (rw [isD_list_int]; refine w_some ?_) | (rw [isD_list_str]; refine w_some ?_) | (rw [isD_list_list]; refine w_some ?_) | (rw [isD_list_tuple]; refine w_some ?_) | (rw [isD_tuple_none]; refine w_some ?_) | (rw [isD_tuple_bool]; refine w_some ?_) | (rw [isD_tuple_int]; refine w_some ?_)); array_get_dec))
local macro_rules
  | `(tactic| array_get_dec) => `(tactic| ((with_reducible first
    | (rw [isD_bool_tuple]; refine w_some ?_) | (rw [isD_str_none]; refine w_some ?_) | (rw [isD_str_bool]; refine w_some ?_) | (rw [isD_str_int]; refine w_some ?_) | (rw [isD_str_str]; refine w_some ?_) | (rw [isD_str_list]; refine w_some ?_) | (rw [isD_str_tuple]; refine w_some ?_) | (rw [isD_list_none]; refine w_some ?_)); array_get_dec))
local macro_rules
  | `(tactic| array_get_dec) => `(tactic| ((with_reducible first
    | (rw [isD_int_str]; refine w_some ?_) | (rw [isD_int_list]; refine w_some ?_) | (rw [isD_int_tuple]; refine w_some ?_) | (rw [isD_bool_none]; refine w_some ?_) | (rw [isD_bool_bool]; refine w_some ?_) | (rw [isD_bool_int]; refine w_some ?_) | (rw [isD_bool_str]; refine w_some ?_) | (rw [isD_bool_list]; refine w_some ?_)); array_get_dec))
local macro_rules
  | `(tactic| array_get_dec) => `(tactic| ((with_reducible first
    | refine wo_rng3.mpr ?_ | refine wo_enum.mpr ?_ | refine wo_zip.mpr ?_ | refine wo_rev.mpr ?_ | refine wo_slL.mpr ?_ | (rw [isD_int_none]; refine w_some ?_) | (rw [isD_int_bool]; refine w_some ?_) | (rw [isD_int_int]; refine w_some ?_)); array_get_dec))
local macro_rules
  | `(tactic| array_get_dec) => `(tactic| ((with_reducible first
    | refine wo_sumI.mpr ?_ | refine wo_allB.mpr ?_ | refine wo_anyB.mpr ?_ | refine wo_sortI.mpr ?_ | refine wo_rngO1.mpr ?_ | refine wo_rngO2.mpr ?_ | refine wo_rng1.mpr ?_ | refine wo_rng2.mpr ?_); array_get_dec))
local macro_rules
  | `(tactic| array_get_dec) => `(tactic| ((with_reducible first
    | refine wo_maxI.mpr ?_ | refine wo_minI.mpr ?_ | refine wo_intI.mpr ?_ | refine wo_intB.mpr ?_ | refine wo_tupL.mpr ?_ | refine wo_tupT.mpr ?_ | refine wo_listL.mpr ?_ | refine wo_listT.mpr ?_); array_get_dec))
local macro_rules
  | `(tactic| array_get_dec) => `(tactic| ((with_reducible first
    | refine wo_isnI.mpr ?_ | refine wo_isnS.mpr ?_ | refine wo_isnL.mpr ?_ | refine wo_isnT.mpr ?_ | refine wo_lenL.mpr ?_ | refine wo_lenT.mpr ?_ | refine wo_lenS.mpr ?_ | refine wo_absI.mpr ?_); array_get_dec))
local macro_rules
  | `(tactic| array_get_dec) => `(tactic| ((with_reducible first
    | refine wo_isN.mpr ?_ | refine wo_isB.mpr ?_ | refine wo_isI.mpr ?_ | refine wo_isS.mpr ?_ | refine wo_isL.mpr ?_ | refine wo_isT.mpr ?_ | refine wo_isnN.mpr ?_ | refine wo_isnB.mpr ?_); array_get_dec))
local macro_rules
  | `(tactic| array_get_dec) => `(tactic| ((with_reducible first
    | refine wo_powI.mpr ?_ | refine wo_ltI.mpr ?_ | refine wo_leI.mpr ?_ | refine wo_gtI.mpr ?_ | refine wo_geI.mpr ?_ | refine wo_eqI.mpr ?_ | refine wo_neI.mpr ?_ | refine wo_eqB.mpr ?_); array_get_dec))
local macro_rules
  | `(tactic| array_get_dec) => `(tactic| ((with_reducible first
    | refine wo_addL.mpr ?_ | refine wo_addS.mpr ?_ | refine wo_catL.mpr ?_ | refine wo_repL.mpr ?_ | refine wo_mulL.mpr ?_ | refine wo_mulI.mpr ?_ | refine wo_fdivI.mpr ?_ | refine wo_modI.mpr ?_); array_get_dec))
local macro_rules
  | `(tactic| array_get_dec) => `(tactic| ((with_reducible first
    | refine w_agR ?_ | refine w_finR ?_ | refine w_finN ?_ | refine wo_subI.mpr ?_ | refine wo_addI.mpr ?_ | refine wo_iaddI.mpr ?_ | refine wo_isubI.mpr ?_ | refine wo_negI.mpr ?_); array_get_dec))
local macro_rules
  | `(tactic| array_get_dec) => `(tactic| ((with_reducible first
    | refine w_bindR ?_ | refine w_nxN ?_ | refine w_nxR ?_ | refine w_nxB ?_ | refine w_nxC ?_ | refine w_agN ?_ | refine w_agC ?_ | refine w_agB ?_); array_get_dec))
local macro_rules
  | `(tactic| array_get_dec) => `(tactic| ((with_reducible first
    | refine w_m2O ?_ | refine w_callO ?_ | refine w_lc ?_ | refine w_lc2 ?_ | refine w_asgD ?_ | refine w_kill ?_ | refine w_ok ?_ | refine w_exc ?_); array_get_dec))
local macro_rules
  | `(tactic| array_get_dec) => `(tactic| ((with_reducible first
    | refine w_noPart ?_ | refine w_part ?_ | refine w_tru ?_ | refine w_truPl ?_ | refine w_eyeT ?_ | refine w_lstO ?_ | refine w_lstOO ?_ | refine w_tupOO ?_); array_get_dec))
local macro_rules
  | `(tactic| array_get_dec) => `(tactic| ((with_reducible first
    | refine w_andV ?_ | refine w_orV ?_ | refine w_notV ?_ | refine w_if ?_ | refine w_ifO ?_ | refine w_isi ?_ | refine w_chain ?_ | refine w_sl ?_); array_get_dec))
local macro_rules
  | `(tactic| array_get_dec) => `(tactic| ((with_reducible first
    | refine w_fldO ?_ | refine w_alias ?_ | refine w_pair ?_ | refine w_drop ?_ | refine w_dropO ?_ | refine w_and ?_ | refine w_or ?_ | refine w_not ?_); array_get_dec))
local macro_rules
  | `(tactic| array_get_dec) => `(tactic| ((with_reducible first
    | refine w_appendO ?_ | refine w_append ?_ | refine w_mv ?_ | refine w_frzV ?_ | refine w_frzPl ?_ | refine w_pop ?_ | refine w_meth ?_ | refine w_make ?_); array_get_dec))
local macro_rules
  | `(tactic| array_get_dec) => `(tactic| ((with_reducible first
    | refine w_nilO ?_ | refine w_rng ?_ | refine w_items ?_ | refine w_itemsT ?_ | refine w_setIx ?_ | refine w_augIx ?_ | refine w_aug ?_ | refine w_appendV ?_); array_get_dec))
local macro_rules
  | `(tactic| array_get_dec) => `(tactic| ((with_reducible first
    | refine w_dt ?_ | refine w_disp ?_ | refine w_pu ?_ | refine w_eye ?_ | refine w_for ?_ | refine w_while ?_ | refine w_par ?_ | refine w_consO ?_); array_get_dec))
local macro_rules
  | `(tactic| array_get_dec) => `(tactic| ((with_reducible first
    | refine w_B ?_ | refine w_seq ?_ | refine w_set ?_ | refine w_setO ?_ | refine w_ifS ?_ | refine w_nx ?_ | refine w_retD ?_ | refine w_ret ?_); array_get_dec))
local macro_rules
  | `(tactic| array_get_dec) => `(tactic| ((with_reducible first
    | refine w_m2 ?_ | refine w_m1 ?_ | refine w_call ?_ | refine w_fz ?_ | refine w_argD ?_ | refine w_nilA ?_ | refine w_argS ?_ | refine w_callD ?_); array_get_dec))
local macro_rules
  | `(tactic| array_get_dec) => `(tactic| ((with_reducible first
    | refine w_putApp ?_ | refine w_put0 ?_ | refine w_putIx ?_ | refine w_putFld ?_ | refine w_fPut0 ?_ | refine w_fSet0 ?_ | refine w_var ?_ | refine w_c ?_); array_get_dec))
local macro_rules
  | `(tactic| array_get_dec) => `(tactic| ((with_reducible first
    | refine w_uHide ?_ | refine w_uEye ?_ | refine w_uLoad ?_ | refine w_fGet0 ?_ | refine w_some ?_ | refine w_putI ?_ | refine w_putD ?_ | refine w_put ?_); array_get_dec))
local macro_rules
  | `(tactic| array_get_dec) => `(tactic| ((with_reducible first
    | refine w_nodeE ?_ | refine w_get0 ?_ | refine w_getApp ?_ | refine w_getIx ?_ | refine w_getFld ?_ | refine w_plV ?_ | refine w_plIx ?_ | refine w_plFld ?_); array_get_dec))
local macro_rules
  | `(tactic| array_get_dec) => `(tactic| ((with_reducible first
    | refine w_setB0 ?_ | refine w_mapB ?_ | refine w_mapB0 ?_ | refine w_bNameO ?_ | refine w_bName ?_ | refine w_bTup ?_ | refine w_bLst ?_ | refine w_bSetIx ?_); array_get_dec))
local macro_rules
  | `(tactic| array_get_dec) => `(tactic| ((with_reducible first
    | refine w_argsOd ?_ | refine w_argsOs ?_ | refine w_argsO0 ?_ | refine w_argsDd ?_ | refine w_argsD0 ?_ | refine w_setAll1 ?_ | refine w_setAll0 ?_ | refine w_setB1 ?_); array_get_dec))
local macro_rules
  | `(tactic| array_get_dec) => `(tactic| ((with_reducible first
    | refine w_asI ?_ | refine w_asTD ?_ | refine w_asLD ?_ | refine w_asSD ?_ | refine w_asSS ?_ | refine w_asL ?_ | refine w_asDt ?_ | refine w_asIns ?_); array_get_dec))
local macro_rules
  | `(tactic| array_get_dec) => `(tactic| ((with_reducible first
    | refine w_frzL ?_ | refine w_frzL0 ?_ | refine w_frzO ?_ | refine w_frz0 ?_ | refine w_backD ?_ | refine w_backS ?_ | refine w_back0 ?_ | refine w_asB ?_); array_get_dec))
local macro_rules
  | `(tactic| array_get_dec) => `(tactic| ((with_reducible first
    | refine w_hideD ?_ | refine w_hideL ?_ | refine w_hideT ?_ | refine w_hideI ?_ | refine w_hide0 ?_ | refine w_frzN ?_ | refine w_frzD ?_ | refine w_frzI ?_); array_get_dec))
local macro_rules
  | `(tactic| array_get_dec) => `(tactic| ((with_reducible first
    | refine w_setS ?_ | refine w_set0 ?_ | refine w_kill1 ?_ | refine w_kill0 ?_ | refine w_keepT ?_ | refine w_keepF ?_ | refine w_keep0 ?_ | refine w_hideN ?_); array_get_dec))
local macro_rules
  | `(tactic| array_get_dec) => `(tactic| ((with_reducible first
    | refine w_slDS ?_ | refine w_slD0 ?_ | refine w_slOS ?_ | refine w_slO0 ?_ | refine w_stES ?_ | refine w_stE0 ?_ | refine w_appI ?_ | refine w_appD ?_); array_get_dec))
local macro_rules
  | `(tactic| array_get_dec) => `(tactic| ((with_reducible first | refine w_isX ?_ | refine w_fldX ?_); array_get_dec))
theorem isX_val (T : Ty P w K mg base exF exL0 exL1 exY exB fa fn) {p : Addr × Obj} {c : Str} {fs : List (Str × D)} {d : D} (hc : c ∈ exC) (hp : p.2.cls = .ref (He.ga K c)) (he : excOf p d = some fs) : ∀ y ∈ exY, isX K p (He.ga K y) d = some (decide (c = y)) := by
  intro y hy
  obtain ⟨h1, _, h3⟩ := T.ex_ hc
  unfold isX
  rw [he, hp]
  simp only [h1, if_true]
  exact h3 y hy
theorem ev_classes (T : Ty P w K mg base exF exL0 exL1 exY exB fa fn) {p : Addr × Obj} {c : Str} {fs : List (Str × D)} {d : D} (hc : c ∈ exC) (hp : p.2.cls = .ref (He.ga K c)) (he : excOf p d = some fs) : r__law_classes K p [.dt d] = .ok (.dt (clsD exN c)) [none] := by
  have hk := isX_val T hc hp he
  refine wp_eq (u__law_classes ?_)
  unfold b__law_classes
  iterate 24 (array_get_dec; rw [hk _ (by decide +kernel)])
  array_get_dec
  refine Wp.monoF (lc_flt (L := exN.map fun q => (q.1, decide (c = q.2))) (by decide) (Nat.le_of_ble_eq_true rfl) (Nat.le_of_ble_eq_true rfl) rfl (Nat.le_of_ble_eq_true rfl) (Q := fun o F => o = .lst ((((exN.map fun q => (q.1, decide (c = q.2))).filter (·.2)).map fun q => PyData.str q.1).map .dt) ∧ F = [some (.dt d), some (.dt (.list ((exN.map fun q => (q.1, decide (c = q.2))).map fun q => .tuple [.str q.1, .bool q.2]))), none, none]) ⟨rfl, rfl⟩) ?_
  rintro o F ⟨rfl, rfl⟩
  array_get_dec
  refine ⟨?_, rfl⟩
  unfold clsD
  rw [List.filter_map, List.map_map]
  rfl
theorem fldX_val (T : Ty P w K mg base exF exL0 exL1 exY exB fa fn) {p : Addr × Obj} {c f : Str} {x : D} {d : D} (hc : c ∈ exC) (hp : p.2.cls = .ref (He.ga K c)) (he : excOf p d = some [(f, x)]) (h1 : (c, f) ∈ exL1) : fldX K p f d = some x := by
  obtain ⟨h2, _, _⟩ := T.ex_ hc
  unfold fldX
  rw [he, hp]
  simp only [h2, T.ef h1, and_self, if_true]
theorem ev_kept (T : Ty P w K mg base exF exL0 exL1 exY exB fa fn) {p : Addr × Obj} {c : Str} {fs : List (Str × D)} {d : D} (hc : c ∈ exC) (hp : p.2.cls = .ref (He.ga K c)) (he : excOf p d = some fs) : ∀ k, kepO exL1 c fs = some k → r__law_kept K p [.dt d] = .ok (.dt k) [none] := by
  have hk := isX_val T hc hp he
  intro k hq
  have hc2 := hc
  simp only [exC, exL0, exL1, List.map_cons, List.map_nil, List.cons_append, List.nil_append, List.mem_cons, List.not_mem_nil, or_false] at hc2
  have bare : exL1.lookup c = none → k = .none := fun h => by
    unfold kepO at hq
    rw [h] at hq
    exact (Option.some.inj hq).symm
  have fld : ∀ f, exL1.lookup c = some f → fs = [(f, k)] := fun f h => by
    unfold kepO at hq
    rw [h] at hq
    simp only at hq
    split at hq
    · split at hq
      · next e => cases hq; rw [e]
      · cases hq
    · cases hq
  rcases hc2 with rfl | rfl | rfl | rfl
  · have e := bare (by decide +kernel)
    subst e
    refine wp_eq (u__law_kept ?_)
    unfold b__law_kept
    iterate 12 (array_get_dec; try (first | rw [hk _ (by decide +kernel)] | rw [if_neg (by decide +kernel)]))
    array_get_dec
    first | exact ⟨rfl, rfl⟩ | exact rfl
  · have e := bare (by decide +kernel)
    subst e
    refine wp_eq (u__law_kept ?_)
    unfold b__law_kept
    iterate 12 (array_get_dec; try (first | rw [hk _ (by decide +kernel)] | rw [if_neg (by decide +kernel)]))
    array_get_dec
    first | exact ⟨rfl, rfl⟩ | exact rfl
  · have e := fld "number" (by decide +kernel)
    subst e
    have hf := fldX_val T hc hp he (by decide +kernel)
    refine wp_eq (u__law_kept ?_)
    unfold b__law_kept
    iterate 8 (array_get_dec; try (first | rw [hk _ (by decide +kernel)] | rw [if_neg (by decide +kernel)] | rw [if_pos (by decide +kernel)] | rw [hf]))
    array_get_dec
    first | exact ⟨rfl, rfl⟩ | exact rfl
  · have e := fld "place" (by decide +kernel)
    subst e
    have hf := fldX_val T hc hp he (by decide +kernel)
    refine wp_eq (u__law_kept ?_)
    unfold b__law_kept
    iterate 8 (array_get_dec; try (first | rw [hk _ (by decide +kernel)] | rw [if_neg (by decide +kernel)] | rw [if_pos (by decide +kernel)] | rw [hf]))
    array_get_dec
    first | exact ⟨rfl, rfl⟩ | exact rfl

theorem d_is_number (T : Ty P w K mg base exF exL0 exL1 exY exB fa fn) : Df P w K mg base "is_number" 1 1 r_is_number := by
  obtain ⟨fd, F⟩ := T.sd.def_ 0 (d := dd_is_number) rfl
  exact df_mk2 F (T.glo 0 "is_number" rfl) sc_is_number [false] rfl (by decide) b_is_number (fun _ _ _ _ _ _ us hl => match us, hl with | [_], _ => rfl) (fun cdv A outer s H E hr tk hp => by
    have nd := sc_is_number.nd
    exact (ab_one (as_retD (ad_and (gIsi (t := "int") (T.fre 1 "isinstance" rfl) (T.fre 2 "int" rfl) (by decide +kernel) (gV 0)) (ad_one (ad_not (gIsi (t := "bool") (T.fre 1 "isinstance" rfl) (T.fre 3 "bool" rfl) (by decide +kernel) (gV 0))))))))
theorem d_check_strands (T : Ty P w K mg base exF exL0 exL1 exY exB fa fn) : Df P w K mg base "check_strands" 2 1 r_check_strands := by
  obtain ⟨fd, F⟩ := T.sd.def_ 1 (d := dd_check_strands) rfl
  exact df_mk2 F (T.glo 4 "check_strands" rfl) sc_check_strands [false] rfl (by decide) b_check_strands (fun _ _ _ _ _ _ us hl => match us, hl with | [_], _ => rfl) (fun cdv A outer s H E hr tk hp => by
    have nd := sc_check_strands.nd
    exact (ab_one (as_if (at_w (aw_or (at_not (tVal (ad_fz (gCall (d_is_number T) (hr.mono (show 1 ≤ 1 by decide)) tk (gA (gV 0) aa_nil))))) (aw_or1 (at_not (at_chain op_le op_le od_le od_le ad_int (gV 0) (ad_globI rfl (T.int 5 "MOST_STRANDS" 8 rfl))))))) (ab_one (gRaise0 tk (T.glo 6 "BadStrands" rfl) (T.exc0 0 "BadStrands" rfl))) ab_nil)))
theorem d_check_letters (T : Ty P w K mg base exF exL0 exL1 exY exB fa fn) : Df P w K mg base "check_letters" 3 3 r_check_letters := by
  obtain ⟨fd, F⟩ := T.sd.def_ 2 (d := dd_check_letters) rfl
  exact df_mk2 F (T.glo 7 "check_letters" rfl) sc_check_letters [false, false, false] rfl (by decide) b_check_letters (fun _ _ _ _ _ _ us hl => match us, hl with | [_, _, _], _ => rfl) (fun cdv A outer s H E hr tk hp => by
    have nd := sc_check_letters.nd
    exact (ab_cons (gExpr (ad_fz (gCall (d_check_strands T) (hr.mono (show 2 ≤ 2 by decide)) tk (gA (gV 0) aa_nil))))
  (ab_cons (as_if (at_not (tVal (gIsi (t := "list") (T.fre 1 "isinstance" rfl) (T.fre 8 "list" rfl) (by decide +kernel) (gV 1)))) (ab_one (gRaise0 tk (T.glo 9 "BadWord" rfl) (T.exc0 1 "BadWord" rfl))) ab_nil)
  (ab_cons (as_if (tGt (gLen (T.fre 10 "len" rfl) (gA (gV 1) aa_nil)) (gV 2)) (ab_one (gRaise1 tk (T.glo 11 "TooLong" rfl) (T.fre 12 "super" rfl) (T.exc1 0 "TooLong" "number" rfl) (hr.mono (show 1 ≤ 2 by decide)) (gLen (T.fre 10 "len" rfl) (gA (gV 1) aa_nil)))) ab_nil)
  (ab_one (gFor [3, 4] hp (gIe (T.fre 13 "enumerate" rfl) (gA (gV 1) aa_nil)) (gTgT (gGs 3 nd (gGs 4 nd ags_nil))) (ab_one (as_if (at_w (aw_or (at_not (tVal (ad_fz (gCall (d_is_number T) (hr.mono (show 1 ≤ 2 by decide)) tk (gA (gV 4) aa_nil))))) (aw_or1 (at_not (at_chain op_le op_lt od_le od_lt ad_int (gAbs (T.fre 14 "abs" rfl) (gA (gV 4) aa_nil)) (gV 0)))))) (ab_one (gRaise1 tk (T.glo 15 "BadLetter" rfl) (T.fre 12 "super" rfl) (T.exc1 1 "BadLetter" "place" rfl) (hr.mono (show 1 ≤ 2 by decide)) (gV 3))) ab_nil))))))))
theorem d_check_word (T : Ty P w K mg base exF exL0 exL1 exY exB fa fn) : Df P w K mg base "check_word" 4 2 r_check_word := by
  obtain ⟨fd, F⟩ := T.sd.def_ 3 (d := dd_check_word) rfl
  exact df_mk2 F (T.glo 16 "check_word" rfl) sc_check_word [false, false] rfl (by decide) b_check_word (fun _ _ _ _ _ _ us hl => match us, hl with | [_, _], _ => rfl) (fun cdv A outer s H E hr tk hp => by
    have nd := sc_check_word.nd
    exact (ab_one (gExpr (ad_fz (gCall (d_check_letters T) (hr.mono (show 3 ≤ 3 by decide)) tk (gA (gV 0) (gA (gV 1) (gA (ad_globI rfl (T.int 17 "MOST_LETTERS" 400 rfl)) aa_nil))))))))
theorem d_is_letter (T : Ty P w K mg base exF exL0 exL1 exY exB fa fn) : Df P w K mg base "is_letter" 2 2 r_is_letter := by
  obtain ⟨fd, F⟩ := T.sd.def_ 4 (d := dd_is_letter) rfl
  exact df_mk2 F (T.glo 18 "is_letter" rfl) sc_is_letter [false, false] rfl (by decide) b_is_letter (fun _ _ _ _ _ _ us hl => match us, hl with | [_, _], _ => rfl) (fun cdv A outer s H E hr tk hp => by
    have nd := sc_is_letter.nd
    exact (ab_one (as_retD (ad_and (ad_fz (gCall (d_is_number T) (hr.mono (show 1 ≤ 1 by decide)) tk (gA (gV 1) aa_nil))) (ad_one (ad_chain op_le op_lt od_le od_lt ad_int (gAbs (T.fre 14 "abs" rfl) (gA (gV 1) aa_nil)) (gV 0)))))))
theorem d_put_in (T : Ty P w K mg base exF exL0 exL1 exY exB fa fn) : Df P w K mg base "put_in" 3 4 r_put_in := by
  obtain ⟨fd, F⟩ := T.sd.def_ 5 (d := dd_put_in) rfl
  exact df_mk2 F (T.glo 19 "put_in" rfl) sc_put_in [false, true, false, false] rfl (by decide) b_put_in (fun _ _ _ _ _ _ us hl => match us, hl with | [_, _, _, _], _ => rfl) (fun cdv A outer s H E hr tk hp => by
    have nd := sc_put_in.nd
    exact (ab_cons (as_if (at_w (aw_or (tGt (gV 2) (ad_eye (gLen (T.fre 10 "len" rfl) (gA (gV 1) aa_nil)))) (aw_or1 (at_not (tVal (ad_fz (gCall (d_is_letter T) (hr.mono (show 2 ≤ 2 by decide)) tk (gA (gV 0) (gA (gV 3) aa_nil))))))))) (ab_one (as_retD ad_bl)) ab_nil)
  (ab_cons (gSetSl (gP 1) (pu_hide (W := W0) (gV 2)) (pu_hide (W := W0) (gV 2)) (ad_lst (gA (gV 3) (gA (gNeg (gV 3)) aa_nil))))
  (ab_one (as_retD ad_bl)))))
theorem d_take_away (T : Ty P w K mg base exF exL0 exL1 exY exB fa fn) : Df P w K mg base "take_away" 1 2 r_take_away := by
  obtain ⟨fd, F⟩ := T.sd.def_ 6 (d := dd_take_away) rfl
  exact df_mk2 F (T.glo 20 "take_away" rfl) sc_take_away [true, false] rfl (by decide) b_take_away (fun _ _ _ _ _ _ us hl => match us, hl with | [_, _], _ => rfl) (fun cdv A outer s H E hr tk hp => by
    have nd := sc_take_away.nd
    exact (ab_cons (as_if (at_w (aw_or (tGt (gAdd (gV 1) ad_int) (ad_eye (gLen (T.fre 10 "len" rfl) (gA (gV 0) aa_nil)))) (aw_or1 (tNe hr (gAdd (gLoad (gPix (gP 0) (pu_hide (W := W0) (gV 1)))) (gLoad (gPix (gP 0) (pu_hide (W := W0) (gAdd (gV 1) ad_int))))) ad_int)))) (ab_one (as_retD ad_bl)) ab_nil)
  (ab_cons (gDelSl (gP 0) (pu_hide (W := W0) (gV 1)) (pu_hide (W := W0) (gAdd (gV 1) ad_int)))
  (ab_one (as_retD ad_bl)))))
theorem d_exchange_far (T : Ty P w K mg base exF exL0 exL1 exY exB fa fn) : Df P w K mg base "exchange_far" 1 2 r_exchange_far := by
  obtain ⟨fd, F⟩ := T.sd.def_ 7 (d := dd_exchange_far) rfl
  exact df_mk2 F (T.glo 21 "exchange_far" rfl) sc_exchange_far [true, false] rfl (by decide) b_exchange_far (fun _ _ _ _ _ _ us hl => match us, hl with | [_, _], _ => rfl) (fun cdv A outer s H E hr tk hp => by
    have nd := sc_exchange_far.nd
    exact (ab_cons (as_if (at_w (aw_or (tGt (gAdd (gV 1) ad_int) (ad_eye (gLen (T.fre 10 "len" rfl) (gA (gV 0) aa_nil)))) (aw_or1 (tLt (gAbs (T.fre 14 "abs" rfl) (gA (gSub (gAbs (T.fre 14 "abs" rfl) (gA (gLoad (gPix (gP 0) (pu_hide (W := W0) (gV 1)))) aa_nil)) (gAbs (T.fre 14 "abs" rfl) (gA (gLoad (gPix (gP 0) (pu_hide (W := W0) (gAdd (gV 1) ad_int)))) aa_nil))) aa_nil)) ad_int)))) (ab_one (as_retD ad_bl)) ab_nil)
  (ab_cons (gAsgT (gAO (ao_dt (gLoad (gPix (gP 0) (pu_hide (W := W0) (gAdd (gV 1) ad_int))))) (gAO (ao_dt (gLoad (gPix (gP 0) (pu_hide (W := W0) (gV 1))))) aao_nil)) (gTgs (gTgIx (gP 0) (pu_hide (W := W0) (gV 1))) (gTgs (gTgIx (gP 0) (pu_hide (W := W0) (gAdd (gV 1) ad_int))) agos_nil)))
  (ab_one (as_retD ad_bl)))))
theorem d_turn_near (T : Ty P w K mg base exF exL0 exL1 exY exB fa fn) : Df P w K mg base "turn_near" 1 2 r_turn_near := by
  obtain ⟨fd, F⟩ := T.sd.def_ 8 (d := dd_turn_near) rfl
  exact df_mk2 F (T.glo 22 "turn_near" rfl) sc_turn_near [true, false] rfl (by decide) b_turn_near (fun _ _ _ _ _ _ us hl => match us, hl with | [_, _], _ => rfl) (fun cdv A outer s H E hr tk hp => by
    have nd := sc_turn_near.nd
    exact (ab_cons (as_if (at_w (aw_or (tGt (gAdd (gV 1) ad_int) (ad_eye (gLen (T.fre 10 "len" rfl) (gA (gV 0) aa_nil)))) (aw_or (tNe hr (gLoad (gPix (gP 0) (pu_hide (W := W0) (gV 1)))) (gLoad (gPix (gP 0) (pu_hide (W := W0) (gAdd (gV 1) ad_int))))) (aw_or1 (tNe hr (gAbs (T.fre 14 "abs" rfl) (gA (gSub (gLoad (gPix (gP 0) (pu_hide (W := W0) (gV 1)))) (gLoad (gPix (gP 0) (pu_hide (W := W0) (gAdd (gV 1) ad_int))))) aa_nil)) ad_int))))) (ab_one (as_retD ad_bl)) ab_nil)
  (ab_cons (gAsgT (gAO (ao_dt (gLoad (gPix (gP 0) (pu_hide (W := W0) (gAdd (gV 1) ad_int))))) (gAO (ao_dt (gLoad (gPix (gP 0) (pu_hide (W := W0) (gV 1))))) (gAO (ao_dt (gLoad (gPix (gP 0) (pu_hide (W := W0) (gAdd (gV 1) ad_int))))) aao_nil))) (gTgs (gTgIx (gP 0) (pu_hide (W := W0) (gV 1))) (gTgs (gTgIx (gP 0) (pu_hide (W := W0) (gAdd (gV 1) ad_int))) (gTgs (gTgIx (gP 0) (pu_hide (W := W0) (gAdd (gV 1) ad_int))) agos_nil))))
  (ab_one (as_retD ad_bl)))))
theorem d_try_move (T : Ty P w K mg base exF exL0 exL1 exY exB fa fn) : Df P w K mg base "try_move" 4 3 r_try_move := by
  obtain ⟨fd, F⟩ := T.sd.def_ 9 (d := dd_try_move) rfl
  exact df_mk2 F (T.glo 23 "try_move" rfl) sc_try_move [false, true, false] rfl (by decide) b_try_move (fun _ _ _ _ _ _ us hl => match us, hl with | [_, _, _], _ => rfl) (fun cdv A outer s H E hr tk hp => by
    have nd := sc_try_move.nd
    exact (ab_cons (as_if (at_w (aw_or (at_not (tVal (gIsi (t := "tuple") (T.fre 1 "isinstance" rfl) (T.fre 24 "tuple" rfl) (by decide +kernel) (gV 2)))) (aw_or (tNotInT (gLen (T.fre 10 "len" rfl) (gA (gV 2) aa_nil)) (ad_tup (gA ad_int (gA ad_int aa_nil)))) (aw_or (at_not (tVal (ad_fz (gCall (d_is_number T) (hr.mono (show 1 ≤ 3 by decide)) tk (gA (gIx (gV 2) ad_int) aa_nil))))) (aw_or1 (tLt (gIx (gV 2) ad_int) ad_int)))))) (ab_one (as_retD ad_bl)) ab_nil)
  (ab_cons (as_if (tEq hr (gLen (T.fre 10 "len" rfl) (gA (gV 2) aa_nil)) ad_int) (ab_one (as_retD (ad_and (gEq hr (gIx (gV 2) ad_int) ad_str) (ad_one (ad_fz (gCall (d_put_in T) (hr.mono (show 3 ≤ 3 by decide)) tk (gA (gV 0) (gAs 1 (gA (gIx (gV 2) ad_int) (gA (gIx (gV 2) ad_int) aa_nil)))))))))) ab_nil)
  (ab_cons (as_if (tEq hr (gIx (gV 2) ad_int) ad_str) (ab_one (as_retD (ad_fz (gCall (d_take_away T) (hr.mono (show 1 ≤ 3 by decide)) tk (gAs 1 (gA (gIx (gV 2) ad_int) aa_nil)))))) ab_nil)
  (ab_cons (as_if (tEq hr (gIx (gV 2) ad_int) ad_str) (ab_one (as_retD (ad_fz (gCall (d_exchange_far T) (hr.mono (show 1 ≤ 3 by decide)) tk (gAs 1 (gA (gIx (gV 2) ad_int) aa_nil)))))) ab_nil)
  (ab_one (as_retD (ad_and (gEq hr (gIx (gV 2) ad_int) ad_str) (ad_one (ad_fz (gCall (d_turn_near T) (hr.mono (show 1 ≤ 3 by decide)) tk (gAs 1 (gA (gIx (gV 2) ad_int) aa_nil)))))))))))))
theorem d_can_shrink (T : Ty P w K mg base exF exL0 exL1 exY exB fa fn) : Df P w K mg base "can_shrink" 1 2 r_can_shrink := by
  obtain ⟨fd, F⟩ := T.sd.def_ 10 (d := dd_can_shrink) rfl
  exact df_mk2 F (T.glo 25 "can_shrink" rfl) sc_can_shrink [false, false] rfl (by decide) b_can_shrink (fun _ _ _ _ _ _ us hl => match us, hl with | [_, _], _ => rfl) (fun cdv A outer s H E hr tk hp => by
    have nd := sc_can_shrink.nd
    exact (ab_cons (as_if (at_w (aw_or (tEq hr (gV 0) ad_int) (aw_or (at_not (tTru (gV 1))) (aw_or1 (tNe hr (gAbs (T.fre 14 "abs" rfl) (gA (gIx (gV 1) (gNeg ad_int)) aa_nil)) (gSub (gV 0) ad_int)))))) (ab_one (as_retD ad_bl)) ab_nil)
  (ab_one (as_retD (gAll (T.fre 26 "all" rfl) (gA (ad_fz (gLc [("letter", 2)] nd (ai_list (gSl (gV 1) ap_none (ap_some (gNeg ad_int)))) (by rfl) (fun _ _ _ _ _ => (gGn 2 nd)) (fun _ _ _ _ _ => (ao_dt (gLt (gAbs (T.fre 14 "abs" rfl) (gA (gV 2) aa_nil)) (gSub (gV 0) ad_int)))))) aa_nil))))))
theorem d_step_behind (T : Ty P w K mg base exF exL0 exL1 exY exB fa fn) : Df P w K mg base "step_behind" 5 3 r_step_behind := by
  obtain ⟨fd, F⟩ := T.sd.def_ 11 (d := dd_step_behind) rfl
  exact df_mk2 F (T.glo 27 "step_behind" rfl) sc_step_behind [false, false, false] rfl (by decide) b_step_behind (fun _ _ _ _ _ _ us hl => match us, hl with | [_, _, _], _ => rfl) (fun cdv A outer s H E hr tk hp => by
    have nd := sc_step_behind.nd
    exact (ab_cons (as_if (at_w (aw_or (at_not (tVal (gIsi (t := "tuple") (T.fre 1 "isinstance" rfl) (T.fre 24 "tuple" rfl) (by decide +kernel) (gV 2)))) (aw_or1 (at_not (tTru (gV 2)))))) (ab_one (as_retD ad_non)) ab_nil)
  (ab_cons (as_if (tEq hr (gIx (gV 2) ad_int) ad_str) (ab_cons (gSet 4 nd (ad_and (gEq hr (gLen (T.fre 10 "len" rfl) (gA (gV 2) aa_nil)) ad_int) (ad_one (ad_fz (gCall (d_is_letter T) (hr.mono (show 2 ≤ 4 by decide)) tk (gA (gV 0) (gA (gIx (gV 2) ad_int) aa_nil)))))))
  (ab_one (as_retD (ad_if (tVal (gV 4)) (ad_tup (gA (gV 0) (gA (gAdd (gAdd (ad_lst (gA (gNeg (gIx (gV 2) ad_int)) aa_nil)) (gV 1)) (ad_lst (gA (gIx (gV 2) ad_int) aa_nil))) aa_nil))) ad_non)))) ab_nil)
  (ab_cons (as_if (tEq hr (gIx (gV 2) ad_int) ad_str) (ab_cons (gSet 4 nd (ad_and (gEq hr (gLen (T.fre 10 "len" rfl) (gA (gV 2) aa_nil)) ad_int) (ad_and (ad_fz (gCall (d_is_number T) (hr.mono (show 1 ≤ 4 by decide)) tk (gA (gIx (gV 2) ad_int) aa_nil))) (ad_one (gEq hr (gAbs (T.fre 14 "abs" rfl) (gA (gIx (gV 2) ad_int) aa_nil)) ad_int)))))
  (ab_one (as_retD (ad_if (tVal (gV 4)) (ad_tup (gA (gAdd (gV 0) ad_int) (gA (gAdd (gV 1) (ad_lst (gA (gMul (gIx (gV 2) ad_int) (gV 0)) aa_nil))) aa_nil))) ad_non)))) ab_nil)
  (ab_cons (as_if (tEq hr (gIx (gV 2) ad_int) ad_str) (ab_one (as_retD (ad_if (at_w (aw_and (tEq hr (gLen (T.fre 10 "len" rfl) (gA (gV 2) aa_nil)) ad_int) (aw_and1 (tVal (ad_fz (gCall (d_can_shrink T) (hr.mono (show 1 ≤ 4 by decide)) tk (gA (gV 0) (gA (gV 1) aa_nil)))))))) (ad_tup (gA (gSub (gV 0) ad_int) (gA (gSl (gV 1) ap_none (ap_some (gNeg ad_int))) aa_nil))) ad_non))) ab_nil)
  (ab_cons (gSetO 3 nd (gList (T.fre 8 "list" rfl) (gA (gV 1) aa_nil)))
  (ab_one (as_retD (ad_if (tVal (ad_fz (gCall (d_try_move T) (hr.mono (show 4 ≤ 4 by decide)) tk (gA (gV 0) (gAs 3 (gA (gV 2) aa_nil)))))) (ad_tup (gA (gV 0) (gA (gF 3) aa_nil))) ad_non)))))))))
theorem d_lead_close (T : Ty P w K mg base exF exL0 exL1 exY exB fa fn) : Df P w K mg base "lead_close" 6 5 r_lead_close := by
  obtain ⟨fd, F⟩ := T.sd.def_ 12 (d := dd_lead_close) rfl
  exact df_mk2 F (T.glo 28 "lead_close" rfl) sc_lead_close [false, false, false, false, false] rfl (by decide) b_lead_close (fun _ _ _ _ _ _ us hl => match us, hl with | [_, _, _, _, _], _ => rfl) (fun cdv A outer s H E hr tk hp => by
    have nd := sc_lead_close.nd
    exact (ab_cons (as_if (at_not (tVal (gIsi (t := "list") (T.fre 1 "isinstance" rfl) (T.fre 8 "list" rfl) (by decide +kernel) (gV 4)))) (ab_one (as_retD ad_bl)) ab_nil)
  (ab_cons (gSet 5 nd (ad_tup (gA (gV 0) (gA (ad_fz (gList (T.fre 8 "list" rfl) (gA (gV 1) aa_nil))) aa_nil))))
  (ab_cons (gFor [6] hp (ai_list (gV 4)) (gGn 6 nd) (ab_cons (gSet 5 nd (ad_fz (gCall (d_step_behind T) (hr.mono (show 5 ≤ 5 by decide)) tk (gA (gIx (gV 5) ad_int) (gA (gIx (gV 5) ad_int) (gA (gV 6) aa_nil))))))
  (ab_one (as_if (at_w (aw_or (tIs (gV 5) ad_non) (aw_or (tGt (gIx (gV 5) ad_int) (ad_globI rfl (T.int 5 "MOST_STRANDS" 8 rfl))) (aw_or1 (tGt (gLen (T.fre 10 "len" rfl) (gA (gIx (gV 5) ad_int) aa_nil)) (ad_globI rfl (T.int 17 "MOST_LETTERS" 400 rfl))))))) (ab_one (as_retD ad_bl)) ab_nil))))
  (ab_one (as_retD (gEq hr (gV 5) (ad_tup (gA (gV 2) (gA (ad_fz (gList (T.fre 8 "list" rfl) (gA (gV 3) aa_nil))) aa_nil))))))))))
theorem d_are_close_steps (T : Ty P w K mg base exF exL0 exL1 exY exB fa fn) : Df P w K mg base "are_close_steps" 7 5 r_are_close_steps := by
  obtain ⟨fd, F⟩ := T.sd.def_ 13 (d := dd_are_close_steps) rfl
  exact df_mk2 F (T.glo 29 "are_close_steps" rfl) sc_are_close_steps [false, false, false, false, false] rfl (by decide) b_are_close_steps (fun _ _ _ _ _ _ us hl => match us, hl with | [_, _, _, _, _], _ => rfl) (fun cdv A outer s H E hr tk hp => by
    have nd := sc_are_close_steps.nd
    exact (ab_cons (gExpr (ad_fz (gCall (d_check_word T) (hr.mono (show 4 ≤ 6 by decide)) tk (gA (gV 0) (gA (gV 1) aa_nil)))))
  (ab_cons (gExpr (ad_fz (gCall (d_check_word T) (hr.mono (show 4 ≤ 6 by decide)) tk (gA (gV 2) (gA (gV 3) aa_nil)))))
  (ab_one (as_retD (ad_fz (gCall (d_lead_close T) (hr.mono (show 6 ≤ 6 by decide)) tk (gA (gV 0) (gA (gV 1) (gA (gV 2) (gA (gV 3) (gA (gV 4) aa_nil))))))))))))
theorem d__law_pool (T : Ty P w K mg base exF exL0 exL1 exY exB fa fn) : Df P w K mg base "_law_pool" 1 1 r__law_pool := by
  obtain ⟨fd, F⟩ := T.sd.def_ 14 (d := dd__law_pool) rfl
  exact df_mk2 F (T.glo 30 "_law_pool" rfl) sc__law_pool [false] rfl (by decide) b__law_pool (fun _ _ _ _ _ _ us hl => match us, hl with | [_], _ => rfl) (fun cdv A outer s H E hr tk hp => by
    have nd := sc__law_pool.nd
    exact (ab_cons (gSetO 1 nd (ao_lst aa_nil))
  (ab_cons (gFor [2, 4, 5] hp (ai_list (gV 0)) (gGn 2 nd) (ab_cons (gSet 5 nd (gInt (T.fre 2 "int" rfl) (gA (gV 2) aa_nil)))
  (ab_one (as_if (tGe (gV 5) (gPow ad_int ad_int)) (ab_one (gFor [4] hp (gIr1 (T.fre 31 "range" rfl) (gA ad_int aa_nil)) (gGn 4 nd) (ab_cons (gAppendV 1 (gMod (gInt (T.fre 2 "int" rfl) (gA (gV 5) aa_nil)) ad_int))
  (ab_cons (gSet 5 nd (gInt (T.fre 2 "int" rfl) (gA (gFdiv (gV 5) ad_int) aa_nil)))
  (ab_one (as_if (tEq hr (gV 5) ad_int) (ab_one as_break) ab_nil)))))) (ab_one (gSetO 1 nd (gAddO (gF 1) (ad_lst (gA (gMod (gInt (T.fre 2 "int" rfl) (gA (gV 5) aa_nil)) ad_int) (gA (gMod (gInt (T.fre 2 "int" rfl) (gA (gFdiv (gV 5) ad_int) aa_nil)) ad_int) aa_nil))))))))))
  (ab_cons (gSet 3 nd ad_int)
  (ab_cons (gFor [2] hp (ai_list (gV 0)) (gGn 2 nd) (ab_one (gSet 3 nd (gMod (gAdd (gMul (gV 3) ad_int) (gInt (T.fre 2 "int" rfl) (gA (gV 2) aa_nil))) ad_int))))
  (ab_cons (gFor [4] hp (gIr1 (T.fre 31 "range" rfl) (gA ad_int aa_nil)) (gGn 4 nd) (ab_cons (gSet 3 nd (gMod (gAdd (gMul (gV 3) ad_int) ad_int) ad_int))
  (ab_one (gAppendV 1 (gMod (gInt (T.fre 2 "int" rfl) (gA (gFdiv (gV 3) ad_int) aa_nil)) ad_int)))))
  (ab_one (as_ret (gM 1)))))))))
theorem d__law_stream (T : Ty P w K mg base exF exL0 exL1 exY exB fa fn) : Df P w K mg base "_law_stream" 2 1 r__law_stream := by
  obtain ⟨fd, F⟩ := T.sd.def_ 15 (d := dd__law_stream) rfl
  exact df_mk2 F (T.glo 32 "_law_stream" rfl) sc__law_stream [false] rfl (by decide) b__law_stream (fun _ _ _ _ _ _ us hl => match us, hl with | [_], _ => rfl) (fun cdv A outer s H E hr tk hp => by
    have nd := sc__law_stream.nd
    exact (ab_one (as_ret (gAddO (ad_lst (gA ad_int aa_nil)) (ad_fz (gCall (d__law_pool T) (hr.mono (show 1 ≤ 1 by decide)) tk (gA (gV 0) aa_nil)))))))
theorem d__law_pick (T : Ty P w K mg base exF exL0 exL1 exY exB fa fn) : Df P w K mg base "_law_pick" 1 2 r__law_pick := by
  obtain ⟨fd, F⟩ := T.sd.def_ 16 (d := dd__law_pick) rfl
  exact df_mk2 F (T.glo 33 "_law_pick" rfl) sc__law_pick [true, false] rfl (by decide) b__law_pick (fun _ _ _ _ _ _ us hl => match us, hl with | [_, _], _ => rfl) (fun cdv A outer s H E hr tk hp => by
    have nd := sc__law_pick.nd
    exact (ab_cons (gSet 2 nd (gLoad (gPix (gP 0) (pu_hide (W := W0) ad_int))))
  (ab_cons (gSetIx (gP 0) (pu_hide (W := W0) ad_int) (gAdd (gV 2) ad_int))
  (ab_cons (as_if (tEq hr (gLoad (gPix (gP 0) (pu_hide (W := W0) ad_int))) (ad_eye (gLen (T.fre 10 "len" rfl) (gA (gV 0) aa_nil)))) (ab_one (gSetIx (gP 0) (pu_hide (W := W0) ad_int) ad_int)) ab_nil)
  (ab_one (as_retD (gMod (gInt (T.fre 2 "int" rfl) (gA (gLoad (gPix (gP 0) (pu_hide (W := W0) (gV 2)))) aa_nil)) (gV 1))))))))
theorem d__law_same (T : Ty P w K mg base exF exL0 exL1 exY exB fa fn) : ∀ n : Nat, Df P w K mg base "_law_same" (n + 1) 2 (r__law_same n)
  | 0 => by
    obtain ⟨fd, F⟩ := T.sd.def_ 17 (d := dd__law_same) rfl
    exact df_mk2 F (T.glo 34 "_law_same" rfl) sc__law_same [false, false] rfl (by decide) (fun _ => .no) (fun _ _ _ _ _ _ us hl => match us, hl with | [_, _], _ => rfl) (fun cdv A outer s H E hr tk hp => ab_no)
  | n + 1 => by
    obtain ⟨fd, F⟩ := T.sd.def_ 17 (d := dd__law_same) rfl
    exact df_mk2 F (T.glo 34 "_law_same" rfl) sc__law_same [false, false] rfl (by decide) (b__law_same (r__law_same n)) (fun _ _ _ _ _ _ us hl => match us, hl with | [_, _], _ => rfl) (fun cdv A outer s H E hr tk hp => by
    have nd := sc__law_same.nd
    exact (ab_cons (as_if (tIs (gV 1) ad_non) (ab_one (as_retD (gIs (gV 0) ad_non))) ab_nil)
  (ab_cons (as_if (tVal (gIsi (t := "bool") (T.fre 1 "isinstance" rfl) (T.fre 3 "bool" rfl) (by decide +kernel) (gV 1))) (ab_one (as_retD (ad_and (gIsi (t := "bool") (T.fre 1 "isinstance" rfl) (T.fre 3 "bool" rfl) (by decide +kernel) (gV 0)) (ad_one (gEq hr (gV 0) (gV 1)))))) ab_nil)
  (ab_cons (as_if (tVal (gIsi (t := "int") (T.fre 1 "isinstance" rfl) (T.fre 2 "int" rfl) (by decide +kernel) (gV 1))) (ab_one (as_retD (ad_and (gIsi (t := "int") (T.fre 1 "isinstance" rfl) (T.fre 2 "int" rfl) (by decide +kernel) (gV 0)) (ad_and (ad_not (gIsi (t := "bool") (T.fre 1 "isinstance" rfl) (T.fre 3 "bool" rfl) (by decide +kernel) (gV 0))) (ad_one (gEq hr (gV 0) (gV 1))))))) ab_nil)
  (ab_cons (as_if (tVal (gIsi (t := "str") (T.fre 1 "isinstance" rfl) (T.fre 35 "str" rfl) (by decide +kernel) (gV 1))) (ab_one (as_retD (ad_and (gIsi (t := "str") (T.fre 1 "isinstance" rfl) (T.fre 35 "str" rfl) (by decide +kernel) (gV 0)) (ad_one (gEq hr (gV 0) (gV 1)))))) ab_nil)
  (ab_cons (as_if (at_w (aw_or (at_w (aw_and (tVal (gIsi (t := "list") (T.fre 1 "isinstance" rfl) (T.fre 8 "list" rfl) (by decide +kernel) (gV 1))) (aw_and1 (at_not (tVal (gIsi (t := "list") (T.fre 1 "isinstance" rfl) (T.fre 8 "list" rfl) (by decide +kernel) (gV 0))))))) (aw_or1 (at_w (aw_and (tVal (gIsi (t := "tuple") (T.fre 1 "isinstance" rfl) (T.fre 24 "tuple" rfl) (by decide +kernel) (gV 1))) (aw_and1 (at_not (tVal (gIsi (t := "tuple") (T.fre 1 "isinstance" rfl) (T.fre 24 "tuple" rfl) (by decide +kernel) (gV 0)))))))))) (ab_one (as_retD ad_bl)) ab_nil)
  (ab_one (as_retD (ad_and (gEq hr (gLen (T.fre 10 "len" rfl) (gA (gV 0) aa_nil)) (gLen (T.fre 10 "len" rfl) (gA (gV 1) aa_nil))) (ad_one (gAll (T.fre 26 "all" rfl) (gA (ad_fz (gLc [("k", 2)] nd (gIr1 (T.fre 31 "range" rfl) (gA (gLen (T.fre 10 "len" rfl) (gA (gV 1) aa_nil)) aa_nil)) (by rfl) (fun _ _ _ _ _ => (gGn 2 nd)) (fun _ _ _ _ _ => (ao_dt (ad_fz (gCall (d__law_same T n) hr tk0 (gA (gIx (gV 0) (gV 2)) (gA (gIx (gV 1) (gV 2)) aa_nil)))))))) aa_nil))))))))))))
theorem d__law_copy (T : Ty P w K mg base exF exL0 exL1 exY exB fa fn) : ∀ n : Nat, Df P w K mg base "_law_copy" (n + 1) 1 (r__law_copy n)
  | 0 => by
    obtain ⟨fd, F⟩ := T.sd.def_ 18 (d := dd__law_copy) rfl
    exact df_mk2 F (T.glo 36 "_law_copy" rfl) sc__law_copy [false] rfl (by decide) (fun _ => .no) (fun _ _ _ _ _ _ us hl => match us, hl with | [_], _ => rfl) (fun cdv A outer s H E hr tk hp => ab_no)
  | n + 1 => by
    obtain ⟨fd, F⟩ := T.sd.def_ 18 (d := dd__law_copy) rfl
    exact df_mk2 F (T.glo 36 "_law_copy" rfl) sc__law_copy [false] rfl (by decide) (b__law_copy (r__law_copy n)) (fun _ _ _ _ _ _ us hl => match us, hl with | [_], _ => rfl) (fun cdv A outer s H E hr tk hp => by
    have nd := sc__law_copy.nd
    exact (ab_cons (as_if (tVal (gIsi (t := "list") (T.fre 1 "isinstance" rfl) (T.fre 8 "list" rfl) (by decide +kernel) (gV 0))) (ab_one (as_retD (ad_fz (gLc [("one", 1)] nd (ai_list (gV 0)) (by rfl) (fun _ _ _ _ _ => (gGn 1 nd)) (fun _ _ _ _ _ => (ao_dt (ad_fz (gCall (d__law_copy T n) hr tk0 (gA (gV 1) aa_nil))))))))) ab_nil)
  (ab_cons (as_if (tVal (gIsi (t := "tuple") (T.fre 1 "isinstance" rfl) (T.fre 24 "tuple" rfl) (by decide +kernel) (gV 0))) (ab_one (as_retD (gTuple (T.fre 24 "tuple" rfl) (gA (ad_fz (gLc [("one", 1)] nd (ai_tup (gV 0)) (by rfl) (fun _ _ _ _ _ => (gGn 1 nd)) (fun _ _ _ _ _ => (ao_dt (ad_fz (gCall (d__law_copy T n) hr tk0 (gA (gV 1) aa_nil))))))) aa_nil)))) ab_nil)
  (ab_one (as_retD (gV 0))))))
theorem d__law_classes (T : Ty P w K mg base exF exL0 exL1 exY exB fa fn) : DfH P w K mg base "_law_classes" 1 1 (r__law_classes K) := by
  obtain ⟨fd, F⟩ := T.sd.def_ 19 (d := dd__law_classes) rfl
  exact dfh_mk F (T.glo 37 "_law_classes" rfl) sc__law_classes [false] rfl (by decide) (b__law_classes K) (fun _ _ _ _ _ _ us hl => match us, hl with | [_], _ => rfl) (fun cdv A outer s H E p hot0 hpin hot hotC hr => by
    have nd := sc__law_classes.nd
    exact (ab_cons (gSet 1 nd (ad_lst (gA (ad_tup (gA ad_str (gA (gIsX hot (T.glo 6 "BadStrands" rfl) (T.fre 1 "isinstance" rfl) (gV 0)) aa_nil))) (gA (ad_tup (gA ad_str (gA (gIsX hot (T.glo 9 "BadWord" rfl) (T.fre 1 "isinstance" rfl) (gV 0)) aa_nil))) (gA (ad_tup (gA ad_str (gA (gIsX hot (T.glo 11 "TooLong" rfl) (T.fre 1 "isinstance" rfl) (gV 0)) aa_nil))) aa_nil)))))
  (ab_cons (gSet 1 nd (gAdd (gV 1) (ad_lst (gA (ad_tup (gA ad_str (gA (gIsX hot (T.glo 15 "BadLetter" rfl) (T.fre 1 "isinstance" rfl) (gV 0)) aa_nil))) (gA (ad_tup (gA ad_str (gA (gIsX hot (T.glo 38 "BadPlaces" rfl) (T.fre 1 "isinstance" rfl) (gV 0)) aa_nil))) (gA (ad_tup (gA ad_str (gA (gIsX hot (T.glo 39 "BadMove" rfl) (T.fre 1 "isinstance" rfl) (gV 0)) aa_nil))) aa_nil))))))
  (ab_cons (gSet 1 nd (gAdd (gV 1) (ad_lst (gA (ad_tup (gA ad_str (gA (gIsX hot (T.glo 40 "BadTurning" rfl) (T.fre 1 "isinstance" rfl) (gV 0)) aa_nil))) (gA (ad_tup (gA ad_str (gA (gIsX hot (T.glo 41 "BadForm" rfl) (T.fre 1 "isinstance" rfl) (gV 0)) aa_nil))) (gA (ad_tup (gA ad_str (gA (gIsX hot (T.glo 42 "TooMany" rfl) (T.fre 1 "isinstance" rfl) (gV 0)) aa_nil))) aa_nil))))))
  (ab_cons (gSet 1 nd (gAdd (gV 1) (ad_lst (gA (ad_tup (gA ad_str (gA (gIsX hot (T.glo 43 "BadHandle" rfl) (T.fre 1 "isinstance" rfl) (gV 0)) aa_nil))) (gA (ad_tup (gA ad_str (gA (gIsX hot (T.glo 44 "BadList" rfl) (T.fre 1 "isinstance" rfl) (gV 0)) aa_nil))) (gA (ad_tup (gA ad_str (gA (gIsX hot (T.glo 45 "BadNumbers" rfl) (T.fre 1 "isinstance" rfl) (gV 0)) aa_nil))) aa_nil))))))
  (ab_cons (gSet 1 nd (gAdd (gV 1) (ad_lst (gA (ad_tup (gA ad_str (gA (gIsX hot (T.glo 46 "BadNumber" rfl) (T.fre 1 "isinstance" rfl) (gV 0)) aa_nil))) (gA (ad_tup (gA ad_str (gA (gIsX hot (T.glo 47 "BadRange" rfl) (T.fre 1 "isinstance" rfl) (gV 0)) aa_nil))) (gA (ad_tup (gA ad_str (gA (gIsX hot (T.glo 48 "BadDeed" rfl) (T.fre 1 "isinstance" rfl) (gV 0)) aa_nil))) aa_nil))))))
  (ab_cons (gSet 1 nd (gAdd (gV 1) (ad_lst (gA (ad_tup (gA ad_str (gA (gIsX hot (T.glo 49 "BadPaper" rfl) (T.fre 1 "isinstance" rfl) (gV 0)) aa_nil))) (gA (ad_tup (gA ad_str (gA (gIsX hot (T.glo 50 "InUse" rfl) (T.fre 1 "isinstance" rfl) (gV 0)) aa_nil))) (gA (ad_tup (gA ad_str (gA (gIsX hot (T.glo 51 "NotPositive" rfl) (T.fre 1 "isinstance" rfl) (gV 0)) aa_nil))) aa_nil))))))
  (ab_cons (gSet 1 nd (gAdd (gV 1) (ad_lst (gA (ad_tup (gA ad_str (gA (gIsX hot (T.glo 52 "NoCurve" rfl) (T.fre 1 "isinstance" rfl) (gV 0)) aa_nil))) (gA (ad_tup (gA ad_str (gA (gIsX hot (T.glo 53 "NothingToUndo" rfl) (T.fre 1 "isinstance" rfl) (gV 0)) aa_nil))) (gA (ad_tup (gA ad_str (gA (gIsX hot (T.glo 54 "NothingToRedo" rfl) (T.fre 1 "isinstance" rfl) (gV 0)) aa_nil))) aa_nil))))))
  (ab_cons (gSet 1 nd (gAdd (gV 1) (ad_lst (gA (ad_tup (gA ad_str (gA (gIsX hot (T.glo 55 "UnknownName" rfl) (T.fre 1 "isinstance" rfl) (gV 0)) aa_nil))) (gA (ad_tup (gA ad_str (gA (gIsX hot (T.glo 56 "BadEntry" rfl) (T.fre 1 "isinstance" rfl) (gV 0)) aa_nil))) (gA (ad_tup (gA ad_str (gA (gIsX hot (T.glo 57 "BadText" rfl) (T.fre 1 "isinstance" rfl) (gV 0)) aa_nil))) aa_nil))))))
  (ab_one (as_retD (ad_fz (gLcIfH [("name", 2), ("is_so", 3)] hotC nd (gV 1) (by rfl) (fun _ _ _ _ _ hb => gTgTH hb (gGs 2 nd (gGs 3 nd ags_nil))) (fun _ _ _ _ _ => (tVal (gV 3))) (fun _ _ _ _ _ => (ao_dt (gV 2))))))))))))))))
theorem d__law_kept (T : Ty P w K mg base exF exL0 exL1 exY exB fa fn) : DfH P w K mg base "_law_kept" 1 1 (r__law_kept K) := by
  obtain ⟨fd, F⟩ := T.sd.def_ 20 (d := dd__law_kept) rfl
  exact dfh_mk F (T.glo 58 "_law_kept" rfl) sc__law_kept [false] rfl (by decide) (b__law_kept K) (fun _ _ _ _ _ _ us hl => match us, hl with | [_], _ => rfl) (fun cdv A outer s H E p hot0 hpin hot hotC hr => by
    have nd := sc__law_kept.nd
    exact (ab_cons (as_if (at_w (aw_or (tVal (gIsX hot (T.glo 15 "BadLetter" rfl) (T.fre 1 "isinstance" rfl) (gV 0))) (aw_or1 (tVal (gIsX hot (T.glo 56 "BadEntry" rfl) (T.fre 1 "isinstance" rfl) (gV 0)))))) (ab_one (as_retD (gFldX hot (gV 0)))) ab_nil)
  (ab_cons (as_if (tVal (gIsX hot (T.glo 11 "TooLong" rfl) (T.fre 1 "isinstance" rfl) (gV 0))) (ab_one (as_retD (gFldX hot (gV 0)))) ab_nil)
  (ab_cons (as_if (tVal (gIsX hot (T.glo 42 "TooMany" rfl) (T.fre 1 "isinstance" rfl) (gV 0))) (ab_one (as_retD (gFldX hot (gV 0)))) ab_nil)
  (ab_cons (as_if (tVal (gIsX hot (T.glo 55 "UnknownName" rfl) (T.fre 1 "isinstance" rfl) (gV 0))) (ab_one (as_retD (gFldX hot (gV 0)))) ab_nil)
  (ab_cons (as_if (tVal (gIsX hot (T.glo 57 "BadText" rfl) (T.fre 1 "isinstance" rfl) (gV 0))) (ab_one (as_retD (gFldX hot (gV 0)))) ab_nil)
  (ab_one (as_retD ad_non))))))))
theorem d__law_first_error (T : Ty P w K mg base exF exL0 exL1 exY exB fa fn) : Df P w K mg base "_law_first_error" 1 3 r__law_first_error := by
  obtain ⟨fd, F⟩ := T.sd.def_ 21 (d := dd__law_first_error) rfl
  exact df_mk2 F (T.glo 59 "_law_first_error" rfl) sc__law_first_error [false, false, false] rfl (by decide) b__law_first_error (fun _ _ _ _ _ _ us hl => match us, hl with | [_, _, _], _ => rfl) (fun cdv A outer s H E hr tk hp => by
    have nd := sc__law_first_error.nd
    exact (ab_cons (as_if (at_w (aw_or (at_not (tVal (gIsi (t := "int") (T.fre 1 "isinstance" rfl) (T.fre 2 "int" rfl) (by decide +kernel) (gV 0)))) (aw_or (tVal (gIsi (t := "bool") (T.fre 1 "isinstance" rfl) (T.fre 3 "bool" rfl) (by decide +kernel) (gV 0))) (aw_or (tLt (gV 0) ad_int) (aw_or1 (tGt (gV 0) ad_int)))))) (ab_one (as_retD (ad_tup (gA ad_str (gA ad_non aa_nil))))) ab_nil)
  (ab_cons (as_if (at_not (tVal (gIsi (t := "list") (T.fre 1 "isinstance" rfl) (T.fre 8 "list" rfl) (by decide +kernel) (gV 1)))) (ab_one (as_retD (ad_tup (gA ad_str (gA ad_non aa_nil))))) ab_nil)
  (ab_cons (as_if (tGt (gLen (T.fre 10 "len" rfl) (gA (gV 1) aa_nil)) (gV 2)) (ab_one (as_retD (ad_tup (gA ad_str (gA (gLen (T.fre 10 "len" rfl) (gA (gV 1) aa_nil)) aa_nil))))) ab_nil)
  (ab_cons (gFor [3, 4] hp (gIr1 (T.fre 31 "range" rfl) (gA (gLen (T.fre 10 "len" rfl) (gA (gV 1) aa_nil)) aa_nil)) (gGn 3 nd) (ab_cons (gSet 4 nd (gIx (gV 1) (gV 3)))
  (ab_one (as_if (at_w (aw_or (at_not (tVal (gIsi (t := "int") (T.fre 1 "isinstance" rfl) (T.fre 2 "int" rfl) (by decide +kernel) (gV 4)))) (aw_or (tVal (gIsi (t := "bool") (T.fre 1 "isinstance" rfl) (T.fre 3 "bool" rfl) (by decide +kernel) (gV 4))) (aw_or (tEq hr (gV 4) ad_int) (aw_or1 (tGe (gAbs (T.fre 14 "abs" rfl) (gA (gV 4) aa_nil)) (gV 0))))))) (ab_one (as_retD (ad_tup (gA ad_str (gA (gV 3) aa_nil))))) ab_nil))))
  (ab_one (as_retD ad_non)))))))
theorem d__law_within (T : Ty P w K mg base exF exL0 exL1 exY exB fa fn) : Df P w K mg base "_law_within" 1 3 r__law_within := by
  obtain ⟨fd, F⟩ := T.sd.def_ 22 (d := dd__law_within) rfl
  exact df_mk2 F (T.glo 60 "_law_within" rfl) sc__law_within [false, false, false] rfl (by decide) b__law_within (fun _ _ _ _ _ _ us hl => match us, hl with | [_, _, _], _ => rfl) (fun cdv A outer s H E hr tk hp => by
    have nd := sc__law_within.nd
    exact (ab_one (as_retD (ad_and (gIsi (t := "int") (T.fre 1 "isinstance" rfl) (T.fre 2 "int" rfl) (by decide +kernel) (gV 0)) (ad_and (ad_not (gIsi (t := "bool") (T.fre 1 "isinstance" rfl) (T.fre 3 "bool" rfl) (by decide +kernel) (gV 0))) (ad_one (ad_chain op_le op_le od_le od_le (gV 1) (gV 0) (gV 2))))))))
theorem d__law_behind (T : Ty P w K mg base exF exL0 exL1 exY exB fa fn) : Df P w K mg base "_law_behind" 2 3 r__law_behind := by
  obtain ⟨fd, F⟩ := T.sd.def_ 23 (d := dd__law_behind) rfl
  exact df_mk2 F (T.glo 61 "_law_behind" rfl) sc__law_behind [false, false, false] rfl (by decide) b__law_behind (fun _ _ _ _ _ _ us hl => match us, hl with | [_, _, _], _ => rfl) (fun cdv A outer s H E hr tk hp => by
    have nd := sc__law_behind.nd
    exact (ab_cons (as_if (at_w (aw_or (at_not (tVal (gIsi (t := "tuple") (T.fre 1 "isinstance" rfl) (T.fre 24 "tuple" rfl) (by decide +kernel) (gV 2)))) (aw_or (tLt (gLen (T.fre 10 "len" rfl) (gA (gV 2) aa_nil)) ad_int) (aw_or (at_not (tVal (gIsi (t := "str") (T.fre 1 "isinstance" rfl) (T.fre 35 "str" rfl) (by decide +kernel) (gIx (gV 2) ad_int)))) (aw_or1 (at_not (tVal (ad_fz (gCall (d__law_within T) (hr.mono (show 1 ≤ 1 by decide)) tk (gA (gIx (gV 2) ad_int) (gA ad_int (gA (gLen (T.fre 10 "len" rfl) (gA (gV 1) aa_nil)) aa_nil)))))))))))) (ab_one (as_retD ad_non)) ab_nil)
  (ab_cons (gPar2 3 4 nd (gAO (ao_dt (gSl (gV 1) ap_none (ap_some (gIx (gV 2) ad_int)))) (gAO (ao_dt (gSl (gV 1) (ap_some (gIx (gV 2) ad_int)) ap_none)) aao_nil)))
  (ab_cons (as_if (at_w (aw_and (tEq hr (gLen (T.fre 10 "len" rfl) (gA (gV 2) aa_nil)) ad_int) (aw_and (tEq hr (gIx (gV 2) ad_int) ad_str) (aw_and (tVal (ad_fz (gCall (d__law_within T) (hr.mono (show 1 ≤ 1 by decide)) tk (gA (gIx (gV 2) ad_int) (gA (gSub ad_int (gV 0)) (gA (gSub (gV 0) ad_int) aa_nil)))))) (aw_and1 (tNe hr (gIx (gV 2) ad_int) ad_int)))))) (ab_one (as_retD (gAdd (gAdd (gV 3) (ad_lst (gA (gIx (gV 2) ad_int) (gA (gSub ad_int (gIx (gV 2) ad_int)) aa_nil)))) (gV 4)))) ab_nil)
  (ab_cons (as_if (at_w (aw_or (tNe hr (gLen (T.fre 10 "len" rfl) (gA (gV 2) aa_nil)) ad_int) (aw_or1 (tLt (gLen (T.fre 10 "len" rfl) (gA (gV 4) aa_nil)) ad_int)))) (ab_one (as_retD ad_non)) ab_nil)
  (ab_cons (gPar2 5 6 nd (gAO (ao_dt (gIx (gV 4) ad_int)) (gAO (ao_dt (gIx (gV 4) ad_int)) aao_nil)))
  (ab_cons (as_if (at_w (aw_and (tEq hr (gIx (gV 2) ad_int) ad_str) (aw_and1 (tEq hr (gV 5) (gSub ad_int (gV 6)))))) (ab_one (as_retD (gAdd (gV 3) (gSl (gV 4) (ap_some ad_int) ap_none)))) ab_nil)
  (ab_cons (as_if (at_w (aw_and (tEq hr (gIx (gV 2) ad_int) ad_str) (aw_and1 (tGt (gAbs (T.fre 14 "abs" rfl) (gA (gSub (gAbs (T.fre 14 "abs" rfl) (gA (gV 5) aa_nil)) (gAbs (T.fre 14 "abs" rfl) (gA (gV 6) aa_nil))) aa_nil)) ad_int)))) (ab_one (as_retD (gAdd (gAdd (gV 3) (ad_lst (gA (gV 6) (gA (gV 5) aa_nil)))) (gSl (gV 4) (ap_some ad_int) ap_none)))) ab_nil)
  (ab_cons (as_if (at_w (aw_and (tEq hr (gIx (gV 2) ad_int) ad_str) (aw_and (tGt (gLen (T.fre 10 "len" rfl) (gA (gV 4) aa_nil)) ad_int) (aw_and (tEq hr (gIx (gV 4) ad_int) (gV 5)) (aw_and (tEq hr (gGt (gV 5) ad_int) (gGt (gV 6) ad_int)) (aw_and1 (tEq hr (gAbs (T.fre 14 "abs" rfl) (gA (gSub (gAbs (T.fre 14 "abs" rfl) (gA (gV 5) aa_nil)) (gAbs (T.fre 14 "abs" rfl) (gA (gV 6) aa_nil))) aa_nil)) ad_int))))))) (ab_one (as_retD (gAdd (gAdd (gV 3) (ad_lst (gA (gV 6) (gA (gV 5) (gA (gV 6) aa_nil))))) (gSl (gV 4) (ap_some ad_int) ap_none)))) ab_nil)
  (ab_one (as_retD ad_non)))))))))))
theorem d__law_stepped (T : Ty P w K mg base exF exL0 exL1 exY exB fa fn) : Df P w K mg base "_law_stepped" 3 3 r__law_stepped := by
  obtain ⟨fd, F⟩ := T.sd.def_ 24 (d := dd__law_stepped) rfl
  exact df_mk2 F (T.glo 62 "_law_stepped" rfl) sc__law_stepped [false, false, false] rfl (by decide) b__law_stepped (fun _ _ _ _ _ _ us hl => match us, hl with | [_, _, _], _ => rfl) (fun cdv A outer s H E hr tk hp => by
    have nd := sc__law_stepped.nd
    exact (ab_cons (as_if (at_w (aw_or (at_not (tVal (gIsi (t := "tuple") (T.fre 1 "isinstance" rfl) (T.fre 24 "tuple" rfl) (by decide +kernel) (gV 2)))) (aw_or (tEq hr (gLen (T.fre 10 "len" rfl) (gA (gV 2) aa_nil)) ad_int) (aw_or1 (at_not (tVal (gIsi (t := "str") (T.fre 1 "isinstance" rfl) (T.fre 35 "str" rfl) (by decide +kernel) (gIx (gV 2) ad_int)))))))) (ab_one (as_retD ad_non)) ab_nil)
  (ab_cons (as_if (tEq hr (gIx (gV 2) ad_int) ad_str) (ab_cons (gSet 4 nd (ad_and (gEq hr (gLen (T.fre 10 "len" rfl) (gA (gV 2) aa_nil)) ad_int) (ad_and (ad_fz (gCall (d__law_within T) (hr.mono (show 1 ≤ 2 by decide)) tk (gA (gIx (gV 2) ad_int) (gA (gSub ad_int (gV 0)) (gA (gSub (gV 0) ad_int) aa_nil))))) (ad_one (gNe hr (gIx (gV 2) ad_int) ad_int)))))
  (ab_one (as_retD (ad_if (tVal (gV 4)) (ad_tup (gA (gV 0) (gA (gAdd (gAdd (ad_lst (gA (gSub ad_int (gIx (gV 2) ad_int)) aa_nil)) (gV 1)) (ad_lst (gA (gIx (gV 2) ad_int) aa_nil))) aa_nil))) ad_non)))) ab_nil)
  (ab_cons (as_if (tEq hr (gIx (gV 2) ad_int) ad_str) (ab_cons (gSet 4 nd (ad_and (gEq hr (gLen (T.fre 10 "len" rfl) (gA (gV 2) aa_nil)) ad_int) (ad_and (ad_fz (gCall (d__law_within T) (hr.mono (show 1 ≤ 2 by decide)) tk (gA (gIx (gV 2) ad_int) (gA (gNeg ad_int) (gA ad_int aa_nil))))) (ad_one (gNe hr (gIx (gV 2) ad_int) ad_int)))))
  (ab_one (as_retD (ad_if (tVal (gV 4)) (ad_tup (gA (gAdd (gV 0) ad_int) (gA (gAdd (gV 1) (ad_lst (gA (gMul (gV 0) (gIx (gV 2) ad_int)) aa_nil))) aa_nil))) ad_non)))) ab_nil)
  (ab_cons (as_if (tEq hr (gIx (gV 2) ad_int) ad_str) (ab_cons (gSetLcIfD 5 [("k", 6)] nd (gIr1 (T.fre 31 "range" rfl) (gA (gLen (T.fre 10 "len" rfl) (gA (gV 1) aa_nil)) aa_nil)) (by rfl) (fun _ _ _ _ _ => (gGn 6 nd)) (fun _ _ _ _ _ => (tEq hr (gAbs (T.fre 14 "abs" rfl) (gA (gIx (gV 1) (gV 6)) aa_nil)) (gSub (gV 0) ad_int))) (fun _ _ _ _ _ => (ao_dt (gV 6))))
  (ab_one (as_retD (ad_if (at_w (aw_and (tEq hr (gLen (T.fre 10 "len" rfl) (gA (gV 2) aa_nil)) ad_int) (aw_and (tGt (gV 0) ad_int) (aw_and1 (tEq hr (gV 5) (ad_lst (gA (gSub (gLen (T.fre 10 "len" rfl) (gA (gV 1) aa_nil)) ad_int) aa_nil))))))) (ad_tup (gA (gSub (gV 0) ad_int) (gA (gSl (gV 1) ap_none (ap_some (gNeg ad_int))) aa_nil))) ad_non)))) ab_nil)
  (ab_cons (gSet 3 nd (ad_fz (gCall (d__law_behind T) (hr.mono (show 2 ≤ 2 by decide)) tk (gA (gV 0) (gA (gV 1) (gA (gV 2) aa_nil))))))
  (ab_one (as_retD (ad_if (tIs (gV 3) ad_non) ad_non (ad_tup (gA (gV 0) (gA (gV 3) aa_nil))))))))))))
theorem d__law_some_step (T : Ty P w K mg base exF exL0 exL1 exY exB fa fn) : Df P w K mg base "_law_some_step" 3 3 r__law_some_step := by
  obtain ⟨fd, F⟩ := T.sd.def_ 25 (d := dd__law_some_step) rfl
  exact df_mk2 F (T.glo 63 "_law_some_step" rfl) sc__law_some_step [true, false, false] rfl (by decide) b__law_some_step (fun _ _ _ _ _ _ us hl => match us, hl with | [_, _, _], _ => rfl) (fun cdv A outer s H E hr tk hp => by
    have nd := sc__law_some_step.nd
    exact (ab_cons (gPar2 5 6 nd (gAO (ao_dt (ad_fz (gCall (d__law_pick T) (hr.mono (show 1 ≤ 2 by decide)) tk (gAs 0 (gA ad_int aa_nil))))) (gAO (ao_dt (gIx (ad_lst (gA ad_int (gA (gNeg ad_int) aa_nil))) (ad_fz (gCall (d__law_pick T) (hr.mono (show 1 ≤ 2 by decide)) tk (gAs 0 (gA ad_int aa_nil)))))) aao_nil)))
  (ab_cons (gPar2 7 8 nd (gAO (ao_dt (gMul (gAdd ad_int (gMod (gInt (T.fre 2 "int" rfl) (gA (ad_fz (gCall (d__law_pick T) (hr.mono (show 1 ≤ 2 by decide)) tk (gAs 0 (gA ad_int aa_nil)))) aa_nil)) (gMax (T.fre 64 "max" rfl) (gA ad_int (gA (gSub (gV 1) ad_int) aa_nil))))) (gV 6))) (gAO (ao_dt (gMod (gInt (T.fre 2 "int" rfl) (gA (gAdd (gMul (ad_fz (gCall (d__law_pick T) (hr.mono (show 1 ≤ 2 by decide)) tk (gAs 0 (gA ad_int aa_nil)))) ad_int) (ad_fz (gCall (d__law_pick T) (hr.mono (show 1 ≤ 2 by decide)) tk (gAs 0 (gA ad_int aa_nil))))) aa_nil)) (gAdd (gLen (T.fre 10 "len" rfl) (gA (gV 2) aa_nil)) ad_int))) aao_nil)))
  (ab_cons (as_if (tLt (gV 5) ad_int) (ab_one (as_retD (ad_tup (gA ad_str (gA (gV 7) aa_nil))))) ab_nil)
  (ab_cons (as_if (tLt (gV 5) ad_int) (ab_one (as_retD (ad_tup (gA ad_str (gA (gV 6) aa_nil))))) ab_nil)
  (ab_cons (as_if (tLt (gV 5) ad_int) (ab_one (as_retD (ad_tup (gA ad_str aa_nil)))) ab_nil)
  (ab_cons (as_if (tLt (gV 5) ad_int) (ab_one (as_retD (ad_tup (gA ad_str (gA (gV 8) (gA (gV 7) aa_nil)))))) ab_nil)
  (ab_cons (gSet 3 nd (gIx (ad_lst (gA ad_str (gA ad_str (gA ad_str (gA ad_str aa_nil))))) (gSub (gV 5) ad_int)))
  (ab_cons (gSetLcIfD 4 [("place", 9)] nd (gIr1 (T.fre 31 "range" rfl) (gA (gLen (T.fre 10 "len" rfl) (gA (gV 2) aa_nil)) aa_nil)) (by rfl) (fun _ _ _ _ _ => (gGn 9 nd)) (fun _ _ _ _ _ => (tIsNot (ad_fz (gCall (d__law_behind T) (hr.mono (show 2 ≤ 2 by decide)) tk0 (gA (gV 1) (gA (gV 2) (gA (ad_tup (gA (gV 3) (gA (gV 9) aa_nil))) aa_nil))))) ad_non)) (fun _ _ _ _ _ => (ao_dt (gV 9))))
  (ab_one (as_retD (ad_tup (gA (gV 3) (gA (gIx (gAdd (gV 4) (ad_lst (gA ad_int aa_nil))) (gMod (gInt (T.fre 2 "int" rfl) (gA (gV 8) aa_nil)) (gMax (T.fre 64 "max" rfl) (gA ad_int (gA (gLen (T.fre 10 "len" rfl) (gA (gV 4) aa_nil)) aa_nil))))) aa_nil))))))))))))))
theorem d__law_close_row (T : Ty P w K mg base exF exL0 exL1 exY exB fa fn) : Df P w K mg base "_law_close_row" 4 4 r__law_close_row := by
  obtain ⟨fd, F⟩ := T.sd.def_ 26 (d := dd__law_close_row) rfl
  exact df_mk2 F (T.glo 65 "_law_close_row" rfl) sc__law_close_row [true, false, false, false] rfl (by decide) b__law_close_row (fun _ _ _ _ _ _ us hl => match us, hl with | [_, _, _, _], _ => rfl) (fun cdv A outer s H E hr tk hp => by
    have nd := sc__law_close_row.nd
    exact (ab_cons (gSetO 4 nd (ao_lst aa_nil))
  (ab_cons (gFor [5, 6, 7] hp (gIr1 (T.fre 31 "range" rfl) (gA (gV 3) aa_nil)) (gGn 5 nd) (ab_cons (gSet 6 nd (ad_fz (gCall (d__law_some_step T) (hr.mono (show 3 ≤ 3 by decide)) tk (gAs 0 (gA (gV 1) (gA (gV 2) aa_nil))))))
  (ab_cons (gSet 7 nd (ad_fz (gCall (d__law_stepped T) (hr.mono (show 3 ≤ 3 by decide)) tk (gA (gV 1) (gA (gV 2) (gA (gV 6) aa_nil))))))
  (ab_one (as_if (at_w (aw_and (tIsNot (gV 7) ad_non) (aw_and (tLt (gIx (gV 7) ad_int) ad_int) (aw_and1 (tLt (gLen (T.fre 10 "len" rfl) (gA (gIx (gV 7) ad_int) aa_nil)) ad_int))))) (ab_cons (gAppendV 4 (gV 6))
  (ab_one (as_asgD (gV 7) (gTgT (gGs 1 nd (gGs 2 nd ags_nil)))))) ab_nil)))))
  (ab_one (as_retD (ad_tup (gA (gF 4) (gA (gV 1) (gA (gV 2) aa_nil)))))))))
theorem d__law_rich (T : Ty P w K mg base exF exL0 exL1 exY exB fa fn) : Df P w K mg base "_law_rich" 2 3 r__law_rich := by
  obtain ⟨fd, F⟩ := T.sd.def_ 27 (d := dd__law_rich) rfl
  exact df_mk2 F (T.glo 66 "_law_rich" rfl) sc__law_rich [true, false, false] rfl (by decide) b__law_rich (fun _ _ _ _ _ _ us hl => match us, hl with | [_, _, _], _ => rfl) (fun cdv A outer s H E hr tk hp => by
    have nd := sc__law_rich.nd
    exact (ab_cons (gSet 3 nd (ad_lst aa_nil))
  (ab_cons (gFor [4, 5, 6, 7, 8, 9, 10] hp (gIr1 (T.fre 31 "range" rfl) (gA (gMul (gV 2) (gInt (T.fre 2 "int" rfl) (gA (gGt (gV 1) ad_int) aa_nil))) aa_nil)) (gGn 4 nd) (ab_cons (gPar2 7 8 nd (gAO (ao_dt (ad_fz (gCall (d__law_pick T) (hr.mono (show 1 ≤ 1 by decide)) tk (gAs 0 (gA ad_int aa_nil))))) (gAO (ao_dt (gIx (ad_lst (gA ad_int (gA (gNeg ad_int) aa_nil))) (ad_fz (gCall (d__law_pick T) (hr.mono (show 1 ≤ 1 by decide)) tk (gAs 0 (gA ad_int aa_nil)))))) aao_nil)))
  (ab_cons (gPar2 9 10 nd (gAO (ao_dt (gAdd ad_int (gMod (gInt (T.fre 2 "int" rfl) (gA (ad_fz (gCall (d__law_pick T) (hr.mono (show 1 ≤ 1 by decide)) tk (gAs 0 (gA ad_int aa_nil)))) aa_nil)) (gSub (gV 1) ad_int)))) (gAO (ao_dt (gAdd ad_int (gMod (gInt (T.fre 2 "int" rfl) (gA (ad_fz (gCall (d__law_pick T) (hr.mono (show 1 ≤ 1 by decide)) tk (gAs 0 (gA ad_int aa_nil)))) aa_nil)) (gSub (gV 1) ad_int)))) aao_nil)))
  (ab_cons (gSet 5 nd (gMax (T.fre 64 "max" rfl) (gA ad_int (gA (gSub (gAdd (gV 9) ad_int) (gMul ad_int (gInt (T.fre 2 "int" rfl) (gA (gEq hr (gV 9) (gSub (gV 1) ad_int)) aa_nil)))) aa_nil))))
  (ab_cons (gSet 6 nd (ad_lst (gA (ad_lst (gA (gMul (gV 8) (gV 9)) aa_nil)) (gA (ad_lst (gA (gMul (gV 8) (gV 9)) (gA (gSub ad_int (gMul (gV 8) (gV 9))) aa_nil))) (gA (ad_lst (gA (gMul (gV 8) (gV 9)) (gA (gMul (gV 8) (gV 10)) aa_nil))) (gA (ad_lst (gA (gMul (gV 8) (gV 9)) (gA (gMul (gV 8) (gV 5)) (gA (gMul (gV 8) (gV 9)) aa_nil)))) (gA (ad_lst (gA (gMul (gV 8) (gV 9)) (gA (gSub ad_int (gMul (gV 8) (gV 5))) (gA (gMul (gV 8) (gV 9)) aa_nil)))) aa_nil)))))))
  (ab_cons (gSet 6 nd (gAdd (gV 6) (ad_lst (gA (ad_lst (gA (gMul (gV 8) (gV 9)) (gA (gMul (gV 8) (gV 5)) (gA (gSub ad_int (gMul (gV 8) (gV 9))) aa_nil)))) (gA (ad_lst (gA (gMul (gV 8) (gV 9)) (gA (gMul (gV 8) (gV 10)) (gA (gMul (gV 8) (gV 9)) aa_nil)))) (gA (ad_lst (gA (gMul (gV 8) (gV 9)) (gA (gSub ad_int (gMul (gV 8) (gV 10))) aa_nil))) aa_nil))))))
  (ab_one (gSet 3 nd (gAdd (gV 3) (gIx (gV 6) (gV 7)))))))))))
  (ab_one (as_retD (gV 3))))))
theorem d__law_bad_word (T : Ty P w K mg base exF exL0 exL1 exY exB fa fn) : Df P w K mg base "_law_bad_word" 2 3 r__law_bad_word := by
  obtain ⟨fd, F⟩ := T.sd.def_ 28 (d := dd__law_bad_word) rfl
  exact df_mk2 F (T.glo 67 "_law_bad_word" rfl) sc__law_bad_word [true, false, false] rfl (by decide) b__law_bad_word (fun _ _ _ _ _ _ us hl => match us, hl with | [_, _, _], _ => rfl) (fun cdv A outer s H E hr tk hp => by
    have nd := sc__law_bad_word.nd
    exact (ab_cons (gSet 3 nd (gMod (gInt (T.fre 2 "int" rfl) (gA (ad_fz (gCall (d__law_pick T) (hr.mono (show 1 ≤ 1 by decide)) tk (gAs 0 (gA ad_int aa_nil)))) aa_nil)) (gAdd (gLen (T.fre 10 "len" rfl) (gA (gV 2) aa_nil)) ad_int)))
  (ab_cons (gSet 4 nd (ad_lst (gA ad_int (gA (gV 1) (gA (gSub ad_int (gV 1)) (gA (gAdd (gV 1) ad_int) (gA ad_bl (gA ad_non (gA ad_str (gA (ad_lst (gA ad_int aa_nil)) aa_nil))))))))))
  (ab_cons (gSet 5 nd (gAdd (gAdd (gSl (gV 2) ap_none (ap_some (gV 3))) (ad_lst (gA (gIx (gV 4) (ad_fz (gCall (d__law_pick T) (hr.mono (show 1 ≤ 1 by decide)) tk (gAs 0 (gA ad_int aa_nil))))) aa_nil))) (gSl (gV 2) (ap_some (gV 3)) ap_none)))
  (ab_one (as_retD (gIx (ad_lst (gA (gV 5) (gA (gV 5) (gA (gTuple (T.fre 24 "tuple" rfl) (gA (gV 2) aa_nil)) (gA ad_non (gA ad_str (gA ad_int (gA (gMul (ad_lst (gA (gSub ad_int (gV 1)) aa_nil)) ad_int) (gA (gMul (ad_lst (gA ad_int aa_nil)) ad_int) aa_nil))))))))) (ad_fz (gCall (d__law_pick T) (hr.mono (show 1 ≤ 1 by decide)) tk (gAs 0 (gA ad_int aa_nil)))))))))))
theorem d__law_told (T : Ty P w K mg base exF exL0 exL1 exY exB fa fn) : Df P w K mg base "_law_told" 8 5 r__law_told := by
  obtain ⟨fd, F⟩ := T.sd.def_ 29 (d := dd__law_told) rfl
  exact df_mk2 F (T.glo 68 "_law_told" rfl) sc__law_told [false, false, false, false, false] rfl (by decide) b__law_told (fun _ _ _ _ _ _ us hl => match us, hl with | [_, _, _, _, _], _ => rfl) (fun cdv A outer s H E hr tk hp => by
    have nd := sc__law_told.nd
    exact (ab_one (gTry 5 nd tk (T.glo 69 "BraidError" rfl) exC (fun c hc => ⟨T_glo T c hc, (T.ex_ hc).2.1⟩) (fun W' pn xe tk2 hp2 => (ab_one (as_retD (ad_tup (gA ad_str (gA (ad_fz (gCall (d_are_close_steps T) (hr.mono (show 7 ≤ 7 by decide)) tk2 (gA (gV 0) (gA (gV 1) (gA (gV 2) (gA (gV 3) (gA (gV 4) aa_nil))))))) aa_nil)))))) (fun p => (mRetD (mDisp .tuple (mArgD (mC (.str "refused")) (mArgD (mFz (mCall (r__law_classes K p) (mArgD (mVar 5) mNilA))) (mArgD (mFz (mCall (r__law_kept K p) (mArgD (mVar 5) mNilA))) mNilA)))))) (fun p pn hot => (ab_one (as_retD (ad_tup (gA ad_str (gA (ad_fz (gCallH (d__law_classes T) (rmH (hr.mono (show 1 ≤ 7 by decide))) hot tk0 (gA (gV 5) aa_nil))) (gA (ad_fz (gCallH (d__law_kept T) (rmH (hr.mono (show 1 ≤ 7 by decide))) hot tk0 (gA (gV 5) aa_nil))) aa_nil))))))) (refR "refused" exN exL1) (fun p c fs d E out E2 hc hp1 he hi hm => ref_ok (ev_classes T hc hp1 he) (ev_kept T hc hp1 he) hi hm))))
theorem d__law_leads (T : Ty P w K mg base exF exL0 exL1 exY exB fa fn) : Df P w K mg base "_law_leads" 4 5 r__law_leads := by
  obtain ⟨fd, F⟩ := T.sd.def_ 30 (d := dd__law_leads) rfl
  exact df_mk2 F (T.glo 70 "_law_leads" rfl) sc__law_leads [false, false, false, false, false] rfl (by decide) b__law_leads (fun _ _ _ _ _ _ us hl => match us, hl with | [_, _, _, _, _], _ => rfl) (fun cdv A outer s H E hr tk hp => by
    have nd := sc__law_leads.nd
    exact (ab_cons (as_if (at_not (tVal (gIsi (t := "list") (T.fre 1 "isinstance" rfl) (T.fre 8 "list" rfl) (by decide +kernel) (gV 4)))) (ab_one (as_retD ad_bl)) ab_nil)
  (ab_cons (gFor [5, 6] hp (ai_list (gV 4)) (gGn 5 nd) (ab_cons (gSet 6 nd (ad_fz (gCall (d__law_stepped T) (hr.mono (show 3 ≤ 3 by decide)) tk (gA (gV 0) (gA (gV 1) (gA (gV 5) aa_nil))))))
  (ab_cons (as_if (at_w (aw_or (tIs (gV 6) ad_non) (aw_or (tGt (gIx (gV 6) ad_int) ad_int) (aw_or1 (tGt (gLen (T.fre 10 "len" rfl) (gA (gIx (gV 6) ad_int) aa_nil)) ad_int))))) (ab_one (as_retD ad_bl)) ab_nil)
  (ab_one (as_asgD (gV 6) (gTgT (gGs 0 nd (gGs 1 nd ags_nil))))))))
  (ab_one (as_retD (ad_and (gEq hr (gV 0) (gV 2)) (ad_one (gEq hr (gV 1) (gV 3)))))))))
theorem d__law_is_right (T : Ty P w K mg base exF exL0 exL1 exY exB fa fn) : Df P w K mg base "_law_is_right" 11 5 r__law_is_right := by
  obtain ⟨fd, F⟩ := T.sd.def_ 31 (d := dd__law_is_right) rfl
  exact df_mk2 F (T.glo 71 "_law_is_right" rfl) sc__law_is_right [false, false, false, false, false] rfl (by decide) b__law_is_right (fun _ _ _ _ _ _ us hl => match us, hl with | [_, _, _, _, _], _ => rfl) (fun cdv A outer s H E hr tk hp => by
    have nd := sc__law_is_right.nd
    exact (ab_cons (gSet 5 nd (ad_fz (gCall (d__law_first_error T) (hr.mono (show 1 ≤ 10 by decide)) tk (gA (gV 0) (gA (gV 1) (gA ad_int aa_nil))))))
  (ab_cons (as_if (tIs (gV 5) ad_non) (ab_one (gSet 5 nd (ad_fz (gCall (d__law_first_error T) (hr.mono (show 1 ≤ 10 by decide)) tk (gA (gV 2) (gA (gV 3) (gA ad_int aa_nil))))))) ab_nil)
  (ab_cons (as_if (tIsNot (gV 5) ad_non) (ab_one (gSet 5 nd (ad_tup (gA ad_str (gA (ad_lst (gA (gIx (gV 5) ad_int) aa_nil)) (gA (gIx (gV 5) ad_int) aa_nil)))))) (ab_one (gSet 5 nd (ad_tup (gA ad_str (gA (ad_fz (gCall (d__law_leads T) (hr.mono (show 4 ≤ 10 by decide)) tk (gA (gV 0) (gA (gV 1) (gA (gV 2) (gA (gV 3) (gA (gV 4) aa_nil))))))) aa_nil))))))
  (ab_cons (gSet 6 nd (ad_lst (gA (ad_fz (gCall (d__law_copy T 8) (hr.mono (show 9 ≤ 10 by decide)) tk (gA (gV 1) aa_nil))) (gA (ad_fz (gCall (d__law_copy T 8) (hr.mono (show 9 ≤ 10 by decide)) tk (gA (gV 3) aa_nil))) (gA (ad_fz (gCall (d__law_copy T 8) (hr.mono (show 9 ≤ 10 by decide)) tk (gA (gV 4) aa_nil))) aa_nil)))))
  (ab_cons (gSet 7 nd (ad_fz (gCall (d__law_told T) (hr.mono (show 8 ≤ 10 by decide)) tk (gA (gV 0) (gA (gIx (gV 6) ad_int) (gA (gV 2) (gA (gIx (gV 6) ad_int) (gA (gIx (gV 6) ad_int) aa_nil))))))))
  (ab_one (as_retD (ad_and (ad_fz (gCall (d__law_same T 9) (hr.mono (show 10 ≤ 10 by decide)) tk (gA (gV 7) (gA (gV 5) aa_nil)))) (ad_one (ad_fz (gCall (d__law_same T 9) (hr.mono (show 10 ≤ 10 by decide)) tk (gA (gV 6) (gA (ad_lst (gA (gV 1) (gA (gV 3) (gA (gV 4) aa_nil)))) aa_nil))))))))))))))
theorem d__law_changed (T : Ty P w K mg base exF exL0 exL1 exY exB fa fn) : Df P w K mg base "_law_changed" 2 3 r__law_changed := by
  obtain ⟨fd, F⟩ := T.sd.def_ 32 (d := dd__law_changed) rfl
  exact df_mk2 F (T.glo 72 "_law_changed" rfl) sc__law_changed [true, false, false] rfl (by decide) b__law_changed (fun _ _ _ _ _ _ us hl => match us, hl with | [_, _, _], _ => rfl) (fun cdv A outer s H E hr tk hp => by
    have nd := sc__law_changed.nd
    exact (ab_cons (gSet 3 nd (ad_fz (gCall (d__law_pick T) (hr.mono (show 1 ≤ 1 by decide)) tk (gAs 0 (gA ad_int aa_nil)))))
  (ab_cons (as_if (at_w (aw_and (tLt (gV 3) ad_int) (aw_and1 (tGt (gLen (T.fre 10 "len" rfl) (gA (gV 2) aa_nil)) ad_int)))) (ab_one (as_retD (gAdd (ad_tup (gA (gIx (gV 2) ad_int) (gA (gAdd (gIx (gV 2) ad_int) (gIx (ad_lst (gA ad_int (gA (gNeg ad_int) (gA ad_int aa_nil)))) (gV 3))) aa_nil))) (gSl (gV 2) (ap_some ad_int) ap_none)))) ab_nil)
  (ab_cons (as_if (at_w (aw_and (tLt (gV 3) ad_int) (aw_and1 (tGt (gLen (T.fre 10 "len" rfl) (gA (gV 2) aa_nil)) ad_int)))) (ab_one (as_retD (gAdd (gSl (gV 2) ap_none (ap_some (gNeg ad_int))) (ad_tup (gA (gSub ad_int (gIx (gV 2) (gNeg ad_int))) aa_nil))))) ab_nil)
  (ab_cons (as_if (tEq hr (gV 3) ad_int) (ab_one (as_retD (gAdd (ad_tup (gA (gIx (ad_lst (gA ad_str (gA ad_str (gA ad_str (gA ad_str (gA ad_str (gA ad_str aa_nil))))))) (ad_fz (gCall (d__law_pick T) (hr.mono (show 1 ≤ 1 by decide)) tk (gAs 0 (gA ad_int aa_nil))))) aa_nil)) (gSl (gV 2) (ap_some ad_int) ap_none)))) ab_nil)
  (ab_cons (as_if (tEq hr (gV 3) ad_int) (ab_one (as_retD (ad_tup (gA ad_str aa_nil)))) ab_nil)
  (ab_one (as_retD (gIx (ad_lst (gA (ad_fz (gList (T.fre 8 "list" rfl) (gA (gV 2) aa_nil))) (gA (gAdd (gV 2) (ad_tup (gA ad_int aa_nil))) (gA (gSl (gV 2) ap_none (ap_some (gNeg ad_int))) (gA ad_non (gA (ad_tup (gA (gV 2) aa_nil)) (gA (ad_tup (gA ad_str (gA ad_int aa_nil))) aa_nil))))))) (ad_fz (gCall (d__law_pick T) (hr.mono (show 1 ≤ 1 by decide)) tk (gAs 0 (gA ad_int aa_nil)))))))))))))
theorem d__law_other_row (T : Ty P w K mg base exF exL0 exL1 exY exB fa fn) : Df P w K mg base "_law_other_row" 3 5 r__law_other_row := by
  obtain ⟨fd, F⟩ := T.sd.def_ 33 (d := dd__law_other_row) rfl
  exact df_mk2 F (T.glo 73 "_law_other_row" rfl) sc__law_other_row [true, false, false, false, false] rfl (by decide) b__law_other_row (fun _ _ _ _ _ _ us hl => match us, hl with | [_, _, _, _, _], _ => rfl) (fun cdv A outer s H E hr tk hp => by
    have nd := sc__law_other_row.nd
    exact (ab_cons (gSet 5 nd (gMod (gInt (T.fre 2 "int" rfl) (gA (ad_fz (gCall (d__law_pick T) (hr.mono (show 1 ≤ 2 by decide)) tk (gAs 0 (gA ad_int aa_nil)))) aa_nil)) (gAdd (gLen (T.fre 10 "len" rfl) (gA (gV 3) aa_nil)) ad_int)))
  (ab_cons (gSet 6 nd (gIx (ad_lst (gA ad_int (gA (gNeg ad_int) aa_nil))) (ad_fz (gCall (d__law_pick T) (hr.mono (show 1 ≤ 2 by decide)) tk (gAs 0 (gA ad_int aa_nil))))))
  (ab_cons (as_if (tEq hr (gV 4) ad_int) (ab_one (as_retD (gAdd (gSl (gV 3) ap_none (ap_some (gV 5))) (gSl (gV 3) (ap_some (gAdd (gV 5) ad_int)) ap_none)))) ab_nil)
  (ab_cons (as_if (tEq hr (gV 4) ad_int) (ab_one (as_retD (gAdd (gSl (gV 3) ap_none (ap_some (gAdd (gV 5) ad_int))) (gSl (gV 3) (ap_some (gV 5)) ap_none)))) ab_nil)
  (ab_cons (as_if (tEq hr (gV 4) ad_int) (ab_one (as_retD (gAdd (gAdd (gAdd (gSl (gV 3) ap_none (ap_some (gV 5))) (gSl (gV 3) (ap_some (gAdd (gV 5) ad_int)) (ap_some (gAdd (gV 5) ad_int)))) (gSl (gV 3) (ap_some (gV 5)) (ap_some (gAdd (gV 5) ad_int)))) (gSl (gV 3) (ap_some (gAdd (gV 5) ad_int)) ap_none)))) ab_nil)
  (ab_cons (as_if (at_w (aw_and (tLt (gV 4) ad_int) (aw_and1 (tLt (gV 5) (gLen (T.fre 10 "len" rfl) (gA (gV 3) aa_nil)))))) (ab_one (as_retD (gAdd (gAdd (gSl (gV 3) ap_none (ap_some (gV 5))) (ad_lst (gA (ad_fz (gCall (d__law_changed T) (hr.mono (show 2 ≤ 2 by decide)) tk (gAs 0 (gA (gV 1) (gA (gIx (gV 3) (gV 5)) aa_nil))))) aa_nil))) (gSl (gV 3) (ap_some (gAdd (gV 5) ad_int)) ap_none)))) ab_nil)
  (ab_cons (as_if (tEq hr (gV 4) ad_int) (ab_one (as_retD (gAdd (gAdd (gSl (gV 3) ap_none (ap_some (gV 5))) (ad_lst (gA (ad_tup (gA ad_str (gA (gV 6) aa_nil))) (gA (ad_tup (gA ad_str aa_nil)) aa_nil)))) (gSl (gV 3) (ap_some (gV 5)) ap_none)))) ab_nil)
  (ab_cons (as_if (tEq hr (gV 4) ad_int) (ab_one (as_retD (gAdd (gAdd (gSl (gV 3) ap_none (ap_some (gV 5))) (ad_lst (gA (ad_tup (gA ad_str (gA ad_int (gA (gV 6) aa_nil)))) (gA (ad_tup (gA ad_str (gA ad_int aa_nil))) aa_nil)))) (gSl (gV 3) (ap_some (gV 5)) ap_none)))) ab_nil)
  (ab_cons (as_if (tEq hr (gV 4) ad_int) (ab_one (as_retD (gAdd (ad_lst (gA (ad_tup (gA ad_str (gA (gV 6) aa_nil))) (gA (ad_tup (gA ad_str (gA (gSub ad_int (gV 6)) aa_nil))) (gA (ad_tup (gA ad_str (gA ad_int aa_nil))) (gA (ad_tup (gA ad_str (gA (gLen (T.fre 10 "len" rfl) (gA (gV 2) aa_nil)) aa_nil))) aa_nil))))) (gV 3)))) ab_nil)
  (ab_cons (as_if (tEq hr (gV 4) ad_int) (ab_one (as_retD (gAdd (gV 3) (ad_lst (gA (ad_tup (gA ad_str (gA (gV 6) aa_nil))) (gA (ad_tup (gA ad_str (gA (gV 6) aa_nil))) (gA (ad_tup (gA ad_str aa_nil)) (gA (ad_tup (gA ad_str aa_nil)) aa_nil)))))))) ab_nil)
  (ab_one (as_retD (gIx (ad_lst (gA (gRev (gV 3)) (gA (gSl (gV 3) ap_none (ap_some (gV 5))) (gA (gTuple (T.fre 24 "tuple" rfl) (gA (gV 3) aa_nil)) (gA (ad_lst (gA (gV 3) aa_nil)) (gA ad_non (gA ad_bl (gA ad_str (gA (gV 5) (gA (ad_lst (gA ad_non aa_nil)) (gA (ad_lst (gA (ad_lst aa_nil) aa_nil)) (gA (ad_lst (gA (ad_tup aa_nil) aa_nil)) (gA (ad_tup aa_nil) aa_nil))))))))))))) (ad_fz (gCall (d__law_pick T) (hr.mono (show 1 ≤ 2 by decide)) tk (gAs 0 (gA ad_int aa_nil))))))))))))))))))
theorem d__law_other_word (T : Ty P w K mg base exF exL0 exL1 exY exB fa fn) : Df P w K mg base "_law_other_word" 2 3 r__law_other_word := by
  obtain ⟨fd, F⟩ := T.sd.def_ 34 (d := dd__law_other_word) rfl
  exact df_mk2 F (T.glo 74 "_law_other_word" rfl) sc__law_other_word [true, false, false] rfl (by decide) b__law_other_word (fun _ _ _ _ _ _ us hl => match us, hl with | [_, _, _], _ => rfl) (fun cdv A outer s H E hr tk hp => by
    have nd := sc__law_other_word.nd
    exact (ab_cons (gPar2 4 5 nd (gAO (ao_dt (gMod (gInt (T.fre 2 "int" rfl) (gA (ad_fz (gCall (d__law_pick T) (hr.mono (show 1 ≤ 1 by decide)) tk (gAs 0 (gA ad_int aa_nil)))) aa_nil)) (gAdd (gLen (T.fre 10 "len" rfl) (gA (gV 2) aa_nil)) ad_int))) (gAO (ao_dt (gMax (T.fre 64 "max" rfl) (gA ad_int (gA (gMod (gInt (T.fre 2 "int" rfl) (gA (ad_fz (gCall (d__law_pick T) (hr.mono (show 1 ≤ 1 by decide)) tk (gAs 0 (gA ad_int aa_nil)))) aa_nil)) (gV 1)) aa_nil)))) aao_nil)))
  (ab_cons (gSet 3 nd (ad_fz (gCall (d__law_pick T) (hr.mono (show 1 ≤ 1 by decide)) tk (gAs 0 (gA ad_int aa_nil)))))
  (ab_cons (as_if (at_w (aw_and (tEq hr (gV 3) ad_int) (aw_and1 (tLt (gV 4) (gLen (T.fre 10 "len" rfl) (gA (gV 2) aa_nil)))))) (ab_one (as_retD (gAdd (gAdd (gSl (gV 2) ap_none (ap_some (gV 4))) (ad_lst (gA (gSub ad_int (gIx (gV 2) (gV 4))) aa_nil))) (gSl (gV 2) (ap_some (gAdd (gV 4) ad_int)) ap_none)))) ab_nil)
  (ab_cons (as_if (tEq hr (gV 3) ad_int) (ab_one (as_retD (gAdd (gSl (gV 2) ap_none (ap_some (gV 4))) (gSl (gV 2) (ap_some (gAdd (gV 4) ad_int)) ap_none)))) ab_nil)
  (ab_cons (as_if (at_w (aw_and (tEq hr (gV 3) ad_int) (aw_and (tGt (gV 1) ad_int) (aw_and1 (tLt (gLen (T.fre 10 "len" rfl) (gA (gV 2) aa_nil)) ad_int))))) (ab_one (as_retD (gAdd (gV 2) (ad_lst (gA (gV 5) aa_nil))))) ab_nil)
  (ab_one (as_retD (gAdd (gSl (gV 2) (ap_some ad_int) ap_none) (gSl (gV 2) ap_none (ap_some ad_int)))))))))))
theorem f_law (T : Ty P w K mg base exF exL0 exL1 exY exB fa fn) {fd : FuncData} (F : FunD K dd_law.name dd_law.qual dd_law.params dd_law.body dd_law.scope (He.DefD.dvs K dd_law) (He.DefD.kws K dd_law) (He.fAd K dd_law.at_) fd) : FnOk P w K mg base (L2N.CX P w) 12 (He.ga K "law") fd ["script"] (spOf K mg 1 r_law) :=
  fn_mk2 F sc_law [false] rfl (by decide) b_law (fun cdv A outer s H E hr tk hp => by
    have nd := sc_law.nd
    exact (ab_cons (gSetO 1 nd (gCall (d__law_stream T) (hr.mono (show 2 ≤ 11 by decide)) tk (gA (gV 0) aa_nil)))
  (ab_cons (gSet 2 nd (gIx (ad_lst (gA ad_int (gA ad_int (gA ad_int (gA ad_int (gA ad_int (gA ad_int (gA ad_int (gA ad_int aa_nil))))))))) (ad_fz (gCall (d__law_pick T) (hr.mono (show 1 ≤ 11 by decide)) tk (gAs 1 (gA ad_int aa_nil))))))
  (ab_cons (gSet 3 nd (ad_fz (gCall (d__law_rich T) (hr.mono (show 2 ≤ 11 by decide)) tk (gAs 1 (gA (gV 2) (gA (ad_fz (gCall (d__law_pick T) (hr.mono (show 1 ≤ 11 by decide)) tk (gAs 1 (gA ad_int aa_nil)))) aa_nil))))))
  (ab_cons (as_if (at_w (aw_and (tEq hr (ad_fz (gCall (d__law_pick T) (hr.mono (show 1 ≤ 11 by decide)) tk (gAs 1 (gA ad_int aa_nil)))) ad_int) (aw_and1 (tGt (gV 2) ad_int)))) (ab_one (gSet 3 nd (gAdd (gMul (ad_lst (gA (gMax (T.fre 64 "max" rfl) (gA ad_int (gA (gSub (gV 2) ad_int) aa_nil))) aa_nil)) (gSub (gAdd ad_int (ad_fz (gCall (d__law_pick T) (hr.mono (show 1 ≤ 11 by decide)) tk (gAs 1 (gA ad_int aa_nil))))) (gLen (T.fre 10 "len" rfl) (gA (gV 3) aa_nil)))) (gV 3)))) ab_nil)
  (ab_cons (as_asgD (ad_fz (gCall (d__law_close_row T) (hr.mono (show 4 ≤ 11 by decide)) tk (gAs 1 (gA (gV 2) (gA (gV 3) (gA (ad_fz (gCall (d__law_pick T) (hr.mono (show 1 ≤ 11 by decide)) tk (gAs 1 (gA ad_int aa_nil)))) aa_nil)))))) (gTgT (gGs 9 nd (gGs 10 nd (gGs 11 nd ags_nil)))))
  (ab_cons (as_if (at_w (aw_or (at_not (tVal (ad_fz (gCall (d__law_leads T) (hr.mono (show 4 ≤ 11 by decide)) tk (gA (gV 2) (gA (gV 3) (gA (gV 10) (gA (gV 11) (gA (gV 9) aa_nil))))))))) (aw_or1 (at_not (tVal (ad_fz (gCall (d__law_is_right T) (hr.mono (show 11 ≤ 11 by decide)) tk (gA (gV 2) (gA (gV 3) (gA (gV 10) (gA (gV 11) (gA (gV 9) aa_nil)))))))))))) (ab_one (as_retD ad_bl)) ab_nil)
  (ab_cons (gFor [4] hp (gIr1 (T.fre 31 "range" rfl) (gA ad_int aa_nil)) (gGn 4 nd) (ab_one (as_if (at_not (tVal (ad_fz (gCall (d__law_is_right T) (hr.mono (show 11 ≤ 11 by decide)) tk (gA (gV 2) (gA (gV 3) (gA (gV 10) (gA (gV 11) (gA (ad_fz (gCall (d__law_other_row T) (hr.mono (show 3 ≤ 11 by decide)) tk (gAs 1 (gA (gV 2) (gA (gV 3) (gA (gV 9) (gA (gV 4) aa_nil))))))) aa_nil))))))))) (ab_one (as_retD ad_bl)) ab_nil)))
  (ab_cons (gFor [5] hp (gIr1 (T.fre 31 "range" rfl) (gA ad_int aa_nil)) (gGn 5 nd) (ab_one (as_if (at_not (tVal (ad_fz (gCall (d__law_is_right T) (hr.mono (show 11 ≤ 11 by decide)) tk (gA (gV 2) (gA (gV 3) (gA (gV 10) (gA (ad_fz (gCall (d__law_other_word T) (hr.mono (show 2 ≤ 11 by decide)) tk (gAs 1 (gA (gV 10) (gA (gV 11) aa_nil))))) (gA (gV 9) aa_nil))))))))) (ab_one (as_retD ad_bl)) ab_nil)))
  (ab_cons (gFor [6] hp (gIr2 (T.fre 31 "range" rfl) (gA ad_int (gA ad_int aa_nil))) (gGn 6 nd) (ab_one (as_if (at_w (aw_or (at_not (tVal (ad_fz (gCall (d__law_is_right T) (hr.mono (show 11 ≤ 11 by decide)) tk (gA (gV 2) (gA (gV 3) (gA (gV 6) (gA (gV 11) (gA (gV 9) aa_nil))))))))) (aw_or1 (at_not (tVal (ad_fz (gCall (d__law_is_right T) (hr.mono (show 11 ≤ 11 by decide)) tk (gA (gV 2) (gA (gV 3) (gA (gV 6) (gA (gV 3) (gA (ad_lst aa_nil) aa_nil)))))))))))) (ab_one (as_retD ad_bl)) ab_nil)))
  (ab_cons (gSet 7 nd (gIx (ad_lst (gA (gV 9) (gA ad_non (gA (ad_lst aa_nil) (gA (ad_lst (gA ad_non aa_nil)) aa_nil))))) (ad_fz (gCall (d__law_pick T) (hr.mono (show 1 ≤ 11 by decide)) tk (gAs 1 (gA ad_int aa_nil))))))
  (ab_cons (as_if (at_not (tVal (ad_fz (gCall (d__law_is_right T) (hr.mono (show 11 ≤ 11 by decide)) tk (gA (gV 2) (gA (ad_fz (gCall (d__law_bad_word T) (hr.mono (show 2 ≤ 11 by decide)) tk (gAs 1 (gA (gV 2) (gA (gV 3) aa_nil))))) (gA (gV 10) (gA (ad_fz (gCall (d__law_bad_word T) (hr.mono (show 2 ≤ 11 by decide)) tk (gAs 1 (gA (gV 10) (gA (gV 11) aa_nil))))) (gA (gV 7) aa_nil))))))))) (ab_one (as_retD ad_bl)) ab_nil)
  (ab_cons (as_if (at_w (aw_or (at_not (tVal (ad_fz (gCall (d__law_is_right T) (hr.mono (show 11 ≤ 11 by decide)) tk (gA (gV 2) (gA (gV 3) (gA (gV 10) (gA (ad_fz (gCall (d__law_bad_word T) (hr.mono (show 2 ≤ 11 by decide)) tk (gAs 1 (gA (gV 10) (gA (gV 11) aa_nil))))) (gA (gV 7) aa_nil))))))))) (aw_or1 (at_not (tVal (ad_fz (gCall (d__law_is_right T) (hr.mono (show 11 ≤ 11 by decide)) tk (gA (gV 2) (gA (ad_fz (gCall (d__law_bad_word T) (hr.mono (show 2 ≤ 11 by decide)) tk (gAs 1 (gA (gV 2) (gA (gV 3) aa_nil))))) (gA (gV 10) (gA (gV 11) (gA (gV 7) aa_nil)))))))))))) (ab_one (as_retD ad_bl)) ab_nil)
  (ab_cons (gSet 8 nd (gIx (ad_lst (gA ad_int (gA ad_int (gA ad_bl (gA ad_non (gA ad_str (gA (ad_lst (gA ad_int aa_nil)) aa_nil))))))) (ad_fz (gCall (d__law_pick T) (hr.mono (show 1 ≤ 11 by decide)) tk (gAs 1 (gA ad_int aa_nil))))))
  (ab_cons (as_if (at_w (aw_or (at_not (tVal (ad_fz (gCall (d__law_is_right T) (hr.mono (show 11 ≤ 11 by decide)) tk (gA (gV 8) (gA (gV 3) (gA (gV 10) (gA (gV 11) (gA (gV 7) aa_nil))))))))) (aw_or1 (at_not (tVal (ad_fz (gCall (d__law_is_right T) (hr.mono (show 11 ≤ 11 by decide)) tk (gA (gV 2) (gA (gV 3) (gA (gV 8) (gA (gV 11) (gA (gV 7) aa_nil)))))))))))) (ab_one (as_retD ad_bl)) ab_nil)
  (ab_one (as_retD (ad_fz (gCall (d__law_is_right T) (hr.mono (show 11 ≤ 11 by decide)) tk (gA (gV 2) (gA (gV 3) (gA (gV 10) (gA (gV 11) (gA (gV 9) aa_nil))))))))))))))))))))))))
abbrev lawK : Nat := 12
theorem law_at : fn[35]? = some dd_law := rfl
abbrev lawI : Nat := 35
abbrev lawGi : Nat := 75
end
end Lf
set_option Elab.async false
set_option linter.all false
set_option maxRecDepth 100000
set_option maxHeartbeats 0
namespace Lf
open PySem PySem.Spec PyProof.Rows L2
abbrev R85 : PySem.W.OpenRow := PySem.W.OpenLaw.row PySem.Challenge.rw_braidyard_k85_whole_rows_of_steps_are_ju
abbrev hk85 : PySem.W.Hook := hookY 7 fa fn (exAll exF exL0 exL1 exY exB)
def ob85 (s : PySem.W.SharedT) : AlY := obsY 7 fa fn (exAll exF exL0 exL1 exY exB) (HandSHeadRun.getT s)
theorem ob85_eq (s : PySem.W.SharedT) : ob85 s = hk85.obs s.abs := obsY_eq (HandSHeadRun.getT_eq s)
def loose1 : List Str := ["BraidError", "BadStrands", "BadWord", "BadTurning", "BadForm", "BadPlaces", "BadMove", "BadHandle", "BadList", "BadNumbers", "BadNumber", "BadRange", "BadDeed", "BadPaper", "InUse", "NotPositive", "NoCurve", "NothingToUndo", "NothingToRedo", "BadLetter"]
def loose2 : List Str := ["TooLong", "TooMany", "UnknownName", "BadEntry", "BadText", "MOST_STRANDS", "MOST_LETTERS", "is_number", "check_strands", "check_letters", "check_word", "is_letter", "put_in", "take_away", "exchange_far", "turn_near", "try_move", "can_shrink", "step_behind", "lead_close", "are_close_steps"]
def loose3 : List Str := ["_law_pool", "_law_stream", "_law_pick", "_law_same", "_law_copy", "_law_classes", "_law_kept", "_law_first_error", "_law_within", "_law_behind", "_law_stepped", "_law_some_step", "_law_close_row", "_law_rich", "_law_bad_word", "_law_told", "_law_leads", "_law_is_right", "_law_changed", "_law_other_row", "_law_other_word"]
theorem run85 (w : World) : HandSHeadRun.RunEq R85 (PySem.W.view R85.prog [67]) hk85 ob85 12000 (loose1 ++ loose2 ++ loose3) w := by
  intro os
  kernel_rfl
theorem lawG : He.Fa.glo "law" ∈ fa := List.mem_of_getElem? (i := lawGi) rfl
theorem facts85 {l : PySem.W.OpenLaw} (hf : l.prog.main.file = exF) (ht : (l.prog.main.scope.names.lookup ("super" : Str)).isSome = false) (w : World) (K : Frag) (mg : Str → Option Value) (h : Heap) (f : Addr) (hK : K.In h) (G : h.Ns mainGlobals mg) (c : He.SaysD fa fn K) (e : exAll exF exL0 exL1 exY exB K = true) (hm : mg ("law" : Str) = some (.ref f)) :
    ∃ fd : FuncData, (∀ (s : Shared) (v : Value), BindsTo s fd ⟨[v], []⟩ [("script", v)]) ∧ ∀ base : Heap, K.In base → base.Ns mainGlobals mg → FnOk l.prog w K mg base (L2N.CX l.prog w) lawK f fd ["script"] (spOf K mg 1 r_law) := by
  obtain ⟨fd, F⟩ := c.def_ lawI (d := dd_law) law_at
  have gl : mg ("law" : Str) = some (.ref (He.ga K "law")) := He.glo_ok hK G (List.all_eq_true.mp (ba (show ((fa.all fun f => f.ok K) && fn.all fun d => d.ok K) = true from congrArg (fun z : He.AlD => z.1) c)).1 (.glo "law") lawG)
  rw [gl] at hm
  cases hm
  have b := FunD.bindsA (ps := ["script"]) F fun _ _ _ _ _ _ us hl => match us, hl with | [_], _ => rfl
  refine ⟨fd, fun s v => b s [v] rfl, fun base hB G2 => ?_⟩
  have T : Ty l.prog w K mg base exF exL0 exL1 exY exB fa fn := { sd := c, kin := hB, ns := G2, ex := e, hfile := hf, htop := ht }
  exact f_law T F
end Lf
section
open PySem PySem.W PySem.Calls PyProof.Rows
theorem Lf.head85 (law_ok : ∀ ns : List Int, ns.length ≤ 63 → ∃ es, Lf.r_law [.dt (Lf.scrD ns)] = .ok (.dt (.bool true)) es) : PySem.Challenge.rw_braidyard_k85_whole_rows_of_steps_are_ju.Holds := by
  w_on; o_law
  refine HandSHeadRun.head_any (r := Lf.R85) (q := view Lf.R85.prog [67]) (H := Lf.hk85) (ob := Lf.ob85) (M := 12000) (loose := Lf.loose1 ++ Lf.loose2 ++ Lf.loose3) (d := HandSHeadRun.topDef Lf.R85.prog 67) (kwd := []) Lf.ob85_eq
    (by kernel_rfl) (fun s => by kernel_rfl) Lf.run85 (by kernel_rfl) (by kernel_rfl) (by kernel_rfl) (by rfl) (by first | assumption | decide +kernel) (by decide +kernel) ⟨rfl, rfl, rfl, rfl, rfl, by decide +kernel⟩ ?hw ?hc
  case hw => w_witness2
  case hc =>
    refine Lf.law_end (l := PySem.Challenge.rw_braidyard_k85_whole_rows_of_steps_are_ju) (k := Lf.lawK) (run := Lf.r_law) rfl (by kernel_rfl) ⟨rfl, by decide, by decide⟩ ?F ?R
    case F =>
      intro w K mg h f hK G c e hm
      refine Lf.facts85 (l := PySem.Challenge.rw_braidyard_k85_whole_rows_of_steps_are_ju) (by decide +kernel) (by decide +kernel) w K mg h f hK G c e ?_
      have en : (HandSHeadRun.topDef Lf.R85.prog 67).name = ("law" : PySem.Str) := by kernel_rfl
      rw [← en]
      exact hm
    case R => exact law_ok
end
set_option Elab.async false
set_option linter.all false
set_option maxRecDepth 100000
set_option maxHeartbeats 1000000
namespace Lf
open PySem L2
local macro_rules
  | `(tactic| array_get_dec) => `(tactic| skip)
local macro_rules
  | `(tactic| array_get_dec) => `(tactic| (((with_reducible refine And.intro ?_ ?_); focus (first | exact rfl | exact Nat.le_of_ble_eq_true rfl | decide | omega | (simp only [List.length_map, List.length_cons, List.length_nil, List.length_append]; omega))); array_get_dec))
local macro_rules
  | `(tactic| array_get_dec) => `(tactic| ((with_reducible first
    | (rw [toD_lst]; refine w_some ?_) | (rw [toD_lst0]; refine w_some ?_) | (rw [toD_lists]; refine w_some ?_)); array_get_dec))
local macro_rules
  | `(tactic| array_get_dec) => `(tactic| ((with_reducible first
    | (rw [isD_tuple_str]; refine w_some ?_) | (rw [isD_tuple_list]; refine w_some ?_) | (rw [isD_tuple_tuple]; refine w_some ?_) | refine w_ifnT ?_ | refine w_ifnF ?_ | refine w_iteT ?_ | refine w_iteF ?_ | (rw [toD_dt]; refine w_some ?_)); array_get_dec))
local macro_rules
  | `(tactic| array_get_dec) => `(tactic| ((with_reducible first
    | (rw [isD_list_bool]; refine w_some ?_) | (rw [isD_list_int]; refine w_some ?_) | (rw [isD_list_str]; refine w_some ?_) | (rw [isD_list_list]; refine w_some ?_) | (rw [isD_list_tuple]; refine w_some ?_) | (rw [isD_tuple_none]; refine w_some ?_) | (rw [isD_tuple_bool]; refine w_some ?_) | (rw [isD_tuple_int]; refine w_some ?_)); array_get_dec))
local macro_rules
  | `(tactic| array_get_dec) => `(tactic| ((with_reducible first
    | (rw [isD_bool_tuple]; refine w_some ?_) | (rw [isD_str_none]; refine w_some ?_) | (rw [isD_str_bool]; refine w_some ?_) | (rw [isD_str_int]; refine w_some ?_) | (rw [isD_str_str]; refine w_some ?_) | (rw [isD_str_list]; refine w_some ?_) | (rw [isD_str_tuple]; refine w_some ?_) | (rw [isD_list_none]; refine w_some ?_)); array_get_dec))
local macro_rules
  | `(tactic| array_get_dec) => `(tactic| ((with_reducible first
    | (rw [isD_int_str]; refine w_some ?_) | (rw [isD_int_list]; refine w_some ?_) | (rw [isD_int_tuple]; refine w_some ?_) | (rw [isD_bool_none]; refine w_some ?_) | (rw [isD_bool_bool]; refine w_some ?_) | (rw [isD_bool_int]; refine w_some ?_) | (rw [isD_bool_str]; refine w_some ?_) | (rw [isD_bool_list]; refine w_some ?_)); array_get_dec))
local macro_rules
  | `(tactic| array_get_dec) => `(tactic| ((with_reducible first
    | refine wo_rng3.mpr ?_ | refine wo_enum.mpr ?_ | refine wo_zip.mpr ?_ | refine wo_rev.mpr ?_ | refine wo_slL.mpr ?_ | (rw [isD_int_none]; refine w_some ?_) | (rw [isD_int_bool]; refine w_some ?_) | (rw [isD_int_int]; refine w_some ?_)); array_get_dec))
local macro_rules
  | `(tactic| array_get_dec) => `(tactic| ((with_reducible first
    | refine wo_sumI.mpr ?_ | refine wo_allB.mpr ?_ | refine wo_anyB.mpr ?_ | refine wo_sortI.mpr ?_ | refine wo_rngO1.mpr ?_ | refine wo_rngO2.mpr ?_ | refine wo_rng1.mpr ?_ | refine wo_rng2.mpr ?_); array_get_dec))
local macro_rules
  | `(tactic| array_get_dec) => `(tactic| ((with_reducible first
    | refine wo_maxI.mpr ?_ | refine wo_minI.mpr ?_ | refine wo_intI.mpr ?_ | refine wo_intB.mpr ?_ | refine wo_tupL.mpr ?_ | refine wo_tupT.mpr ?_ | refine wo_listL.mpr ?_ | refine wo_listT.mpr ?_); array_get_dec))
local macro_rules
  | `(tactic| array_get_dec) => `(tactic| ((with_reducible first
    | refine wo_isnI.mpr ?_ | refine wo_isnS.mpr ?_ | refine wo_isnL.mpr ?_ | refine wo_isnT.mpr ?_ | refine wo_lenL.mpr ?_ | refine wo_lenT.mpr ?_ | refine wo_lenS.mpr ?_ | refine wo_absI.mpr ?_); array_get_dec))
local macro_rules
  | `(tactic| array_get_dec) => `(tactic| ((with_reducible first
    | refine wo_isN.mpr ?_ | refine wo_isB.mpr ?_ | refine wo_isI.mpr ?_ | refine wo_isS.mpr ?_ | refine wo_isL.mpr ?_ | refine wo_isT.mpr ?_ | refine wo_isnN.mpr ?_ | refine wo_isnB.mpr ?_); array_get_dec))
local macro_rules
  | `(tactic| array_get_dec) => `(tactic| ((with_reducible first
    | refine wo_powI.mpr ?_ | refine wo_ltI.mpr ?_ | refine wo_leI.mpr ?_ | refine wo_gtI.mpr ?_ | refine wo_geI.mpr ?_ | refine wo_eqI.mpr ?_ | refine wo_neI.mpr ?_ | refine wo_eqB.mpr ?_); array_get_dec))
local macro_rules
  | `(tactic| array_get_dec) => `(tactic| ((with_reducible first
    | refine wo_addL.mpr ?_ | refine wo_addS.mpr ?_ | refine wo_catL.mpr ?_ | refine wo_repL.mpr ?_ | refine wo_mulL.mpr ?_ | refine wo_mulI.mpr ?_ | refine wo_fdivI.mpr ?_ | refine wo_modI.mpr ?_); array_get_dec))
local macro_rules
  | `(tactic| array_get_dec) => `(tactic| ((with_reducible first
    | refine w_agR ?_ | refine w_finR ?_ | refine w_finN ?_ | refine wo_subI.mpr ?_ | refine wo_addI.mpr ?_ | refine wo_iaddI.mpr ?_ | refine wo_isubI.mpr ?_ | refine wo_negI.mpr ?_); array_get_dec))
local macro_rules
  | `(tactic| array_get_dec) => `(tactic| ((with_reducible first
    | refine w_bindR ?_ | refine w_nxN ?_ | refine w_nxR ?_ | refine w_nxB ?_ | refine w_nxC ?_ | refine w_agN ?_ | refine w_agC ?_ | refine w_agB ?_); array_get_dec))
local macro_rules
  | `(tactic| array_get_dec) => `(tactic| ((with_reducible first
    | refine w_m2O ?_ | refine w_callO ?_ | refine w_lc ?_ | refine w_lc2 ?_ | refine w_asgD ?_ | refine w_kill ?_ | refine w_ok ?_ | refine w_exc ?_); array_get_dec))
local macro_rules
  | `(tactic| array_get_dec) => `(tactic| ((with_reducible first
    | refine w_noPart ?_ | refine w_part ?_ | refine w_tru ?_ | refine w_truPl ?_ | refine w_eyeT ?_ | refine w_lstO ?_ | refine w_lstOO ?_ | refine w_tupOO ?_); array_get_dec))
local macro_rules
  | `(tactic| array_get_dec) => `(tactic| ((with_reducible first
    | refine w_andV ?_ | refine w_orV ?_ | refine w_notV ?_ | refine w_if ?_ | refine w_ifO ?_ | refine w_isi ?_ | refine w_chain ?_ | refine w_sl ?_); array_get_dec))
local macro_rules
  | `(tactic| array_get_dec) => `(tactic| ((with_reducible first
    | refine w_fldO ?_ | refine w_alias ?_ | refine w_pair ?_ | refine w_drop ?_ | refine w_dropO ?_ | refine w_and ?_ | refine w_or ?_ | refine w_not ?_); array_get_dec))
local macro_rules
  | `(tactic| array_get_dec) => `(tactic| ((with_reducible first
    | refine w_appendO ?_ | refine w_append ?_ | refine w_mv ?_ | refine w_frzV ?_ | refine w_frzPl ?_ | refine w_pop ?_ | refine w_meth ?_ | refine w_make ?_); array_get_dec))
local macro_rules
  | `(tactic| array_get_dec) => `(tactic| ((with_reducible first
    | refine w_nilO ?_ | refine w_rng ?_ | refine w_items ?_ | refine w_itemsT ?_ | refine w_setIx ?_ | refine w_augIx ?_ | refine w_aug ?_ | refine w_appendV ?_); array_get_dec))
local macro_rules
  | `(tactic| array_get_dec) => `(tactic| ((with_reducible first
    | refine w_dt ?_ | refine w_disp ?_ | refine w_pu ?_ | refine w_eye ?_ | refine w_for ?_ | refine w_while ?_ | refine w_par ?_ | refine w_consO ?_); array_get_dec))
local macro_rules
  | `(tactic| array_get_dec) => `(tactic| ((with_reducible first
    | refine w_B ?_ | refine w_seq ?_ | refine w_set ?_ | refine w_setO ?_ | refine w_ifS ?_ | refine w_nx ?_ | refine w_retD ?_ | refine w_ret ?_); array_get_dec))
local macro_rules
  | `(tactic| array_get_dec) => `(tactic| ((with_reducible first
    | refine w_m2 ?_ | refine w_m1 ?_ | refine w_call ?_ | refine w_fz ?_ | refine w_argD ?_ | refine w_nilA ?_ | refine w_argS ?_ | refine w_callD ?_); array_get_dec))
local macro_rules
  | `(tactic| array_get_dec) => `(tactic| ((with_reducible first
    | refine w_putApp ?_ | refine w_put0 ?_ | refine w_putIx ?_ | refine w_putFld ?_ | refine w_fPut0 ?_ | refine w_fSet0 ?_ | refine w_var ?_ | refine w_c ?_); array_get_dec))
local macro_rules
  | `(tactic| array_get_dec) => `(tactic| ((with_reducible first
    | refine w_uHide ?_ | refine w_uEye ?_ | refine w_uLoad ?_ | refine w_fGet0 ?_ | refine w_some ?_ | refine w_putI ?_ | refine w_putD ?_ | refine w_put ?_); array_get_dec))
local macro_rules
  | `(tactic| array_get_dec) => `(tactic| ((with_reducible first
    | refine w_nodeE ?_ | refine w_get0 ?_ | refine w_getApp ?_ | refine w_getIx ?_ | refine w_getFld ?_ | refine w_plV ?_ | refine w_plIx ?_ | refine w_plFld ?_); array_get_dec))
local macro_rules
  | `(tactic| array_get_dec) => `(tactic| ((with_reducible first
    | refine w_setB0 ?_ | refine w_mapB ?_ | refine w_mapB0 ?_ | refine w_bNameO ?_ | refine w_bName ?_ | refine w_bTup ?_ | refine w_bLst ?_ | refine w_bSetIx ?_); array_get_dec))
local macro_rules
  | `(tactic| array_get_dec) => `(tactic| ((with_reducible first
    | refine w_argsOd ?_ | refine w_argsOs ?_ | refine w_argsO0 ?_ | refine w_argsDd ?_ | refine w_argsD0 ?_ | refine w_setAll1 ?_ | refine w_setAll0 ?_ | refine w_setB1 ?_); array_get_dec))
local macro_rules
  | `(tactic| array_get_dec) => `(tactic| ((with_reducible first
    | refine w_asI ?_ | refine w_asTD ?_ | refine w_asLD ?_ | refine w_asSD ?_ | refine w_asSS ?_ | refine w_asL ?_ | refine w_asDt ?_ | refine w_asIns ?_); array_get_dec))
local macro_rules
  | `(tactic| array_get_dec) => `(tactic| ((with_reducible first
    | refine w_frzL ?_ | refine w_frzL0 ?_ | refine w_frzO ?_ | refine w_frz0 ?_ | refine w_backD ?_ | refine w_backS ?_ | refine w_back0 ?_ | refine w_asB ?_); array_get_dec))
local macro_rules
  | `(tactic| array_get_dec) => `(tactic| ((with_reducible first
    | refine w_hideD ?_ | refine w_hideL ?_ | refine w_hideT ?_ | refine w_hideI ?_ | refine w_hide0 ?_ | refine w_frzN ?_ | refine w_frzD ?_ | refine w_frzI ?_); array_get_dec))
local macro_rules
  | `(tactic| array_get_dec) => `(tactic| ((with_reducible first
    | refine w_setS ?_ | refine w_set0 ?_ | refine w_kill1 ?_ | refine w_kill0 ?_ | refine w_keepT ?_ | refine w_keepF ?_ | refine w_keep0 ?_ | refine w_hideN ?_); array_get_dec))
local macro_rules
  | `(tactic| array_get_dec) => `(tactic| ((with_reducible first
    | refine w_slDS ?_ | refine w_slD0 ?_ | refine w_slOS ?_ | refine w_slO0 ?_ | refine w_stES ?_ | refine w_stE0 ?_ | refine w_appI ?_ | refine w_appD ?_); array_get_dec))
local macro_rules
  | `(tactic| array_get_dec) => `(tactic| ((with_reducible first
    | refine w_delSl ?_ | refine w_setSl ?_ | refine w_slO ?_ | refine wo_slLL.mpr ?_ | refine w_asLDx ?_ | refine wo_notInT.mpr ?_ | refine wo_truL.mpr ?_ | refine wo_truT.mpr ?_ | refine w_cutI ?_ | refine w_spl2 ?_); array_get_dec))
abbrev lI (ns : List Int) : D := .list (ns.map .int)
abbrev oI (ns : List Int) : O := .lst ((ns.map PyData.int).map .dt)
theorem w_ixN {n : Nat} {i : Int} {P : Nat → Prop} (j : Nat) (hi : i = (j : Int)) (hj : j < n) (h : P j) : WO (ixN n i) P := by
  subst hi; unfold ixN; rw [if_pos (by omega), if_pos (by omega)]; exact h
theorem ixN_nat {n j : Nat} (hj : j < n) : ixN n (j : Int) = some j := by
  unfold ixN; rw [if_pos (by omega), if_pos (by omega)]; rfl
theorem w_ixB {n : Nat} {i : Int} {P : Nat → Prop} (j : Nat) (hi : i = (j : Int) - n) (hj : j < n) (h : P j) : WO (ixN n i) P := by
  subst hi; unfold ixN; rw [if_neg (by omega), if_pos (by omega)]
  have e : ((j : Int) - n + n).toNat = j := by omega
  rw [e]; exact h
theorem w_eqo {α : Type} {o : Option α} {P : α → Prop} {a : α} (e : o = some a) (h : P a) : WO o P := by rw [e]; exact h
section
variable {P : D → Prop}
theorem w_atD {ds : List D} {i : Int} (j : Nat) (hi : i = (j : Int)) {d : D} (hd : ds[j]? = some d) (h : P d) : WO (pIx (.list ds) (.int i)) P := by
  have hj : j < ds.length := (List.getElem?_eq_some_iff.mp hd).1
  show WO (atI ds i) P
  unfold atI
  rw [hi, ixN_nat hj]; show WO ds[j]? P; rw [hd]; exact h
theorem w_atT {ds : List D} {i : Int} (j : Nat) (hi : i = (j : Int)) {d : D} (hd : ds[j]? = some d) (h : P d) : WO (pIx (.tuple ds) (.int i)) P := by
  have hj : j < ds.length := (List.getElem?_eq_some_iff.mp hd).1
  show WO (atI ds i) P
  unfold atI
  rw [hi, ixN_nat hj]; show WO ds[j]? P; rw [hd]; exact h
theorem w_atI {ns : List Int} {i : Int} (j : Nat) (hi : i = (j : Int)) {v : Int} (hv : ns[j]? = some v) (h : P (.int v)) : WO (pIx (.list (ns.map .int)) (.int i)) P :=
  w_atD j hi (by rw [List.getElem?_map, hv]; rfl) h
theorem w_getI {PO : O → Prop} {ns : List Int} {j : Nat} {v : Int} (hv : ns[j]? = some v) (h : PO (.dt (.int v))) : WO ((ns.map PyData.int).map O.dt)[j]? PO :=
  w_eqo (by rw [List.getElem?_map, List.getElem?_map, hv]; rfl) h
theorem set_oI {ns : List Int} {j : Nat} {v : Int} : ((ns.map PyData.int).map O.dt).set j (.dt (.int v)) = ((ns.set j v).map PyData.int).map O.dt := by
  rw [List.map_set, List.map_set]
theorem app_oI {ns : List Int} {v : Int} : (ns.map PyData.int).map O.dt ++ [.dt (.int v)] = ((ns ++ [v]).map PyData.int).map O.dt := by simp
theorem len_oI {ns : List Int} : ((ns.map PyData.int).map O.dt).length = ns.length := by simp
end
theorem abs_i (x : Int) : (if x < 0 then -x else x) = (x.natAbs : Int) := by split <;> omega
theorem fmod_b (a : Int) {m : Int} (h : 0 < m) : 0 ≤ a.fmod m ∧ a.fmod m < m := ⟨Int.fmod_nonneg_of_pos a h, Int.fmod_lt_of_pos a h⟩
/-! ### the pool -/
def PoolO (o : O) : Prop := ∃ (q : Nat) (xs : List Int), o = oI ((q : Int) :: xs) ∧ 1 ≤ q ∧ q ≤ xs.length ∧ xs.length ≤ 5000 ∧ ∀ x ∈ xs, 0 ≤ x ∧ x < 60
theorem sp_pick {o : O} {m : Int} (h : PoolO o) (hm : 0 < m) : Wp (r__law_pick [o, .dt (.int m)]) (fun r es => ∃ v o', r = .dt (.int v) ∧ es = [some o', none] ∧ 0 ≤ v ∧ v < m ∧ PoolO o') XF := by
  obtain ⟨q, xs, rfl, h1, h2, h3, h4⟩ := h
  have hx : ∃ x, xs[q - 1]? = some x := ⟨xs[q - 1]'(by omega), List.getElem?_eq_getElem _⟩
  obtain ⟨x, hx⟩ := hx
  have e1 : ∀ y : Int, (y :: xs)[q]? = some x := fun y => by
    obtain ⟨q', rfl⟩ : ∃ q', q = q' + 1 := ⟨q - 1, by omega⟩
    simpa using hx
  have lv := fun b => fmod_b b hm
  refine u__law_pick ?_
  unfold b__law_pick
  array_get_dec
  refine w_ixN 0 rfl (by simp) ?_
  array_get_dec
  refine w_getI (v := q) rfl ?_
  array_get_dec
  refine w_ixN 0 rfl (by simp) ?_
  array_get_dec
  refine w_ixN 0 rfl (by simp) ?_
  array_get_dec
  refine w_getI (v := q + 1) rfl ?_
  array_get_dec
  refine w_iteD (fun c => ?_) (fun c => ?_)
  · array_get_dec
    refine w_ixN 0 rfl (by simp) ?_
    array_get_dec
    refine w_ixN q rfl (by simp; omega) ?_
    array_get_dec
    refine w_getI (e1 _) ?_
    array_get_dec
    exact ⟨_, _, rfl, rfl, (lv x).1, (lv x).2, 1, xs, rfl, by omega, by omega, h3, h4⟩
  · array_get_dec
    refine w_ixN q rfl (by simp; omega) ?_
    array_get_dec
    refine w_getI (e1 _) ?_
    array_get_dec
    simp only [List.length_map, List.length_set, List.length_cons] at c
    exact ⟨_, _, rfl, rfl, (lv x).1, (lv x).2, q + 1, xs, rfl, by omega, by omega, h3, h4⟩

abbrev sD (ns : List Int) : O := .dt (.dict [(.none, .list (ns.map .int))])
def In60 (xs : List Int) : Prop := ∀ x ∈ xs, 0 ≤ x ∧ x < 60
theorem in60_snoc {xs : List Int} {a : Int} (h : In60 xs) : In60 (xs ++ [a.fmod 60]) := fun x hx => by
  rcases List.mem_append.mp hx with h1 | h1
  · exact h x h1
  · rw [List.mem_singleton.mp h1]; exact fmod_b a (by omega)
theorem sp_pool (ns : List Int) (hn : ns.length ≤ 63) : Wp (r__law_pool [sD ns]) (fun r es => es = [none] ∧ ∃ xs, r = oI xs ∧ 300 ≤ xs.length ∧ xs.length ≤ 4080 ∧ In60 xs) XF := by
  refine u__law_pool ?_
  unfold b__law_pool
  array_get_dec
  refine for_ints (fun pre E => ∃ xs, E = [some (sD ns), some (oI xs), none, none, none, none] ∧ xs.length ≤ 60 * pre.length ∧ In60 xs) ⟨[], rfl, by simp, fun x h => by simp at h⟩ ?_ ?_
  · rintro pre n post E e ⟨xs, rfl, h1, h2⟩
    have hp : pre.length < 63 := by have := congrArg List.length e; simp at this; omega
    array_get_dec
    refine w_iteD (fun c => ?_) (fun c => ?_)
    · array_get_dec
      refine for_rng (fun i E => ∃ ys rest, E = [some (sD ns), some (oI ys), some (.dt (.int n)), none, none, some (.dt (.int rest))] ∧ ys.length ≤ 60 * pre.length + i ∧ In60 ys) ⟨xs, n, rfl, by omega, h2⟩ ?_ ?_
      · rintro i E hi ⟨ys, rest, rfl, g1, g2⟩
        array_get_dec
        refine w_iteD (fun c => ?_) (fun c => ?_)
        · array_get_dec
          exact ⟨_, rfl, by simp; omega, in60_snoc g2⟩
        · array_get_dec
          exact ⟨_, _, rfl, by simp; omega, in60_snoc g2⟩
      · rintro E ⟨ys, rest, rfl, g1, g2⟩
        array_get_dec
        exact ⟨_, rfl, by simp at g1 ⊢; omega, g2⟩
    · array_get_dec
      refine ⟨xs ++ [n.fmod 60] ++ [(n.fdiv 60).fmod 60], by simp, by simp; omega, in60_snoc (in60_snoc h2)⟩
  · rintro E ⟨xs, rfl, h1, h2⟩
    array_get_dec
    refine for_ints (fun pre E => ∃ st : Int, E = [some (sD ns), some (oI xs), none, some (.dt (.int st)), none, none]) ⟨17, rfl⟩ ?_ ?_
    · rintro pre n post E e ⟨st, rfl⟩
      array_get_dec
      exact ⟨_, rfl⟩
    · rintro E ⟨st, rfl⟩
      array_get_dec
      refine for_rng (fun i E => ∃ st ys, E = [some (sD ns), some (oI ys), none, some (.dt (.int st)), none, none] ∧ ys.length = xs.length + i ∧ In60 ys) ⟨st, xs, rfl, rfl, h2⟩ ?_ ?_
      · rintro i E hi ⟨st, ys, rfl, g1, g2⟩
        array_get_dec
        exact ⟨_, _, rfl, by simp; omega, in60_snoc g2⟩
      · rintro E ⟨st, ys, rfl, g1, g2⟩
        array_get_dec
        exact ⟨_, rfl, by simp at g1; omega, by simp at g1; omega, g2⟩

/-! ### words -/
def VD (n : Int) (ds : List D) : Prop := ∀ d ∈ ds, ∃ x : Int, d = .int x ∧ x ≠ 0 ∧ (x.natAbs : Int) < n
theorem VD.app {n : Int} {a b : List D} (h : VD n a) (k : VD n b) : VD n (a ++ b) := fun d m => by
  rcases List.mem_append.mp m with m | m
  · exact h d m
  · exact k d m
theorem VD.nil {n : Int} : VD n [] := fun d m => by simp at m
theorem VD.cons {n x : Int} {a : List D} (h1 : x ≠ 0) (h2 : (x.natAbs : Int) < n) (k : VD n a) : VD n (.int x :: a) := fun d m => by
  rcases List.mem_cons.mp m with m | m
  · exact ⟨x, m, h1, h2⟩
  · exact k d m
theorem cutL_sub {α : Type} {xs : List α} {lo hi : Option Int} {a : α} (h : a ∈ cutL xs lo hi) : a ∈ xs := List.mem_of_mem_drop (List.mem_of_mem_take h)
theorem cutL_len {α : Type} {xs : List α} {lo hi : Option Int} : (cutL xs lo hi).length ≤ xs.length := by unfold cutL; simp; omega
theorem VD.cut {n : Int} {a : List D} {lo hi : Option Int} (h : VD n a) : VD n (cutL a lo hi) := fun d m => h d (cutL_sub m)
theorem VD.rep {n : Int} {a : List D} (h : VD n a) (k : Nat) : VD n (List.replicate k a).flatten := fun d m => by
  obtain ⟨l, h1, h2⟩ := List.mem_flatten.mp m
  rw [(List.mem_replicate.mp h1).2] at h2
  exact h d h2
theorem VD.two {n : Int} {a : List D} (h : VD n a) (h2 : 1 < a.length) : ∃ x y r, a = .int x :: .int y :: r ∧ (x ≠ 0 ∧ (x.natAbs : Int) < n) ∧ (y ≠ 0 ∧ (y.natAbs : Int) < n) ∧ VD n r := by
  match a, h2 with
  | u :: v :: r, _ =>
    obtain ⟨x, rfl, hx⟩ := h u (by simp)
    obtain ⟨y, rfl, hy⟩ := h v (by simp)
    exact ⟨x, y, r, rfl, hx, hy, fun d m => h d (by simp [m])⟩
theorem VD.mono {n : Int} {a b : List D} (h : VD n a) (k : ∀ d ∈ b, d ∈ a) : VD n b := fun d m => h d (k d m)
/-- one letter -/
theorem letter_ok {n v u : Int} (hn : 1 < n) (hu : u = 1 ∨ u = -1) : (1 + v.fmod (n - 1)) * u ≠ 0 ∧ (((1 + v.fmod (n - 1)) * u).natAbs : Int) < n := by
  have h := fmod_b v (m := n - 1) (by omega)
  rcases hu with rfl | rfl <;> constructor <;> omega
theorem sign_at {v : Int} (h0 : 0 ≤ v) (h1 : v < 2) {P : D → Prop} (h : ∀ u : Int, (u = 1 ∨ u = -1) → P (.int u)) : WO (pIx (.list [.int 1, .int (-1)]) (.int v)) P := by
  have : v = 0 ∨ v = 1 := by omega
  rcases this with rfl | rfl
  · exact w_atD 0 rfl rfl (h 1 (.inl rfl))
  · exact w_atD 1 rfl rfl (h (-1) (.inr rfl))
theorem mul_ok {a u : Int} (hu : u = 1 ∨ u = -1) {P : D → Prop} (h : P (.int (a * u))) : WO (pMul (.int a) (.int u)) P := wo_mulI.mpr ⟨.inr (by rcases hu with rfl | rfl <;> decide), h⟩
theorem seq_same {a b : M Out} {E : En} {Q : Out → En → Prop} {X : Str → List (Str × D) → En → Prop} {G : O → Prop} (h1 : Wp (a E) (fun o E1 => E1 = E ∧ (o = .nx ∨ ∃ r, o = .rt r ∧ G r)) XF) (h2 : Wp (b E) Q X) (hG : ∀ r, G r → Q (.rt r) E) : Wp (mSeq a b E) Q X := by
  refine w_seq (h1.monoF fun o E1 h => ?_)
  obtain ⟨rfl, rfl | ⟨r, rfl, h⟩⟩ := h
  · exact h2
  · exact hG r h
theorem seq_eq {a b : M Out} {E E1 : En} {Q : Out → En → Prop} {X : Str → List (Str × D) → En → Prop} (h1 : a E = .ok .nx E1) (h2 : Wp (b E1) Q X) : Wp (mSeq a b E) Q X := by
  refine w_seq ?_
  rw [h1]; exact h2
theorem seq_to {a b : M Out} {E : En} {R : En → Prop} {Q : Out → En → Prop} {X : Str → List (Str × D) → En → Prop} (h1 : Wp (a E) (fun o E1 => o = .nx ∧ R E1) XF) (h2 : ∀ E1, R E1 → Wp (b E1) Q X) : Wp (mSeq a b E) Q X := by
  refine w_seq (h1.monoF fun o E1 h => ?_)
  obtain ⟨rfl, h⟩ := h
  exact h2 E1 h
theorem cut_len {α : Type} {xs : List α} {p : Int} (hp : 0 ≤ p) : (cutL xs none (some p)).length + (cutL xs (some p) none).length ≤ xs.length := by
  unfold cutL HT.sIx
  simp only [if_neg (show ¬ p < 0 by omega), List.length_take, List.length_drop]
  omega
theorem cut_len2 {α : Type} {xs : List α} {p q : Int} (hp : 0 ≤ p) (hq : p ≤ q) : (cutL xs none (some p)).length + (cutL xs (some q) none).length ≤ xs.length := by
  unfold cutL HT.sIx
  simp only [if_neg (show ¬ p < 0 by omega), if_neg (show ¬ q < 0 by omega), List.length_take, List.length_drop]
  omega
theorem VD.ints {n : Int} : ∀ {ds : List D}, VD n ds → ∃ w : List Int, ds = w.map .int ∧ ∀ x ∈ w, x ≠ 0 ∧ (x.natAbs : Int) < n
  | [], _ => ⟨[], rfl, fun x m => by simp at m⟩
  | d :: ds, h => by
    obtain ⟨x, rfl, hx⟩ := h d (by simp)
    obtain ⟨w, rfl, hw⟩ := VD.ints (ds := ds) (fun d m => h d (by simp [m]))
    exact ⟨x :: w, rfl, fun y m => by
      rcases List.mem_cons.mp m with m | m
      · rw [m]; exact hx
      · exact hw y m⟩
theorem VD.of {n : Int} {w : List Int} (h : ∀ x ∈ w, x ≠ 0 ∧ (x.natAbs : Int) < n) : VD n (w.map .int) := fun d m => by
  obtain ⟨x, hx, rfl⟩ := List.mem_map.mp m
  exact ⟨x, rfl, h x hx⟩
/-! ### bad words -/
/-! ### errors of words -/
def noDic : D → Prop
  | .dict _ => False
  | _ => True
def isI : D → Bool
  | .int _ => true
  | _ => false
def okL (n : Int) : D → Bool
  | .int x => decide (x ≠ 0 ∧ (x.natAbs : Int) < n)
  | _ => false
inductive Er where
  | ok | strands | word | long (k : Nat) | letter (p : Nat)
def er (n w : D) : Er := match n with
  | .int i => if 1 ≤ i ∧ i ≤ 8 then (match w with
    | .list ds => if 400 < ds.length then .long ds.length else match ds.findIdx? (fun d => !okL i d) with
      | some p => .letter p
      | none => .ok
    | _ => .word) else .strands
  | _ => .strands
def erD : Er → D
  | .ok => .none
  | .strands => .tuple [.str "strands", .none]
  | .word => .tuple [.str "word", .none]
  | .long k => .tuple [.str "long", .int k]
  | .letter p => .tuple [.str "letter", .int p]
def erX : Er → Option (Str × List (Str × D))
  | .ok => none
  | .strands => some ("BadStrands", [])
  | .word => some ("BadWord", [])
  | .long k => some ("TooLong", [("number", .int k)])
  | .letter p => some ("BadLetter", [("place", .int p)])
theorem sp_isnum {d : D} (h : noDic d) : r_is_number [.dt d] = .ok (.dt (.bool (isI d))) [none] := by
  refine wp_eq (u_is_number ?_)
  unfold b_is_number
  cases d with
  | dict _ => exact h.elim
  | _ =>
    array_get_dec
    exact rfl
theorem abs_r (x : Int) : (if x < 0 then -x else x) = (x.natAbs : Int) := abs_i x
theorem sp_strands {d : D} (h : noDic d) : Wp (r_check_strands [.dt d]) (fun r es => (∃ i : Int, d = .int i ∧ 1 ≤ i ∧ i ≤ 8) ∧ r = .dt .none ∧ es = [none]) (fun c fs es => (∀ i : Int, d = .int i → ¬ (1 ≤ i ∧ i ≤ 8)) ∧ c = "BadStrands" ∧ fs = [] ∧ es = [none]) := by
  refine u_check_strands ?_
  unfold b_check_strands
  array_get_dec
  rw [sp_isnum h]
  cases d with
  | dict _ => exact h.elim
  | int i =>
    simp only [isI]
    array_get_dec
    refine w_iteD (fun c => ?_) (fun c => ?_)
    · array_get_dec
      refine w_ite (fun c2 => ?_) (fun c2 => ?_)
      · array_get_dec
        refine ⟨?_, rfl, rfl, rfl⟩
        rintro _ ⟨⟩
        simp at c2; omega
      · array_get_dec
        refine ⟨⟨i, rfl, ?_⟩, rfl, rfl⟩
        simp at c2; omega
    · array_get_dec
      refine ⟨?_, rfl, rfl, rfl⟩
      rintro _ ⟨⟩
      omega
  | _ =>
    simp only [isI]
    array_get_dec
    exact ⟨(fun i e => by cases e), rfl, rfl, rfl⟩

theorem er_strands {n w : D} (h : ∀ i : Int, n = .int i → ¬ (1 ≤ i ∧ i ≤ 8)) : er n w = .strands := by
  unfold er
  cases n with
  | int i => simp only [if_neg (h i rfl)]
  | _ => rfl
theorem er_word {i : Int} {w : D} (h : 1 ≤ i ∧ i ≤ 8) (hw : ∀ ds, w ≠ .list ds) : er (.int i) w = .word := by
  unfold er
  cases w with
  | list ds => exact absurd rfl (hw ds)
  | _ => simp only [if_pos h]
theorem er_long {i : Int} {ds : List D} (h : 1 ≤ i ∧ i ≤ 8) (hl : 400 < ds.length) : er (.int i) (.list ds) = .long ds.length := by
  unfold er
  simp only [if_pos h, if_pos hl]
theorem er_bad {i : Int} {ds : List D} {p : Nat} {d : D} (h : 1 ≤ i ∧ i ≤ 8) (hl : ¬ 400 < ds.length) (hd : ds[p]? = some d) (hb : okL i d = false) (ha : ∀ (j : Nat) (d : D), j < p → ds[j]? = some d → okL i d = true) : er (.int i) (.list ds) = .letter p := by
  have e : ds.findIdx? (fun d => !okL i d) = some p := by
    obtain ⟨hp, hd'⟩ := List.getElem?_eq_some_iff.mp hd
    rw [List.findIdx?_eq_some_iff_getElem]
    refine ⟨hp, by rw [hd', hb]; rfl, fun j hj => ?_⟩
    rw [ha j _ hj (List.getElem?_eq_getElem (by omega))]; simp
  unfold er
  simp only [if_pos h, if_neg hl, e]
theorem er_ok {i : Int} {ds : List D} (h : 1 ≤ i ∧ i ≤ 8) (hl : ¬ 400 < ds.length) (ha : ∀ (j : Nat) (d : D), ds[j]? = some d → okL i d = true) : er (.int i) (.list ds) = .ok := by
  have e : ds.findIdx? (fun d => !okL i d) = none := by
    rw [List.findIdx?_eq_none_iff]
    intro d hd
    obtain ⟨j, hj, e⟩ := List.mem_iff_getElem.mp hd
    rw [ha j d (by rw [List.getElem?_eq_getElem hj, e])]; rfl
  unfold er
  simp only [if_pos h, if_neg hl, e]
def gdE : D → Prop
  | .list ds => ∀ d ∈ ds, noDic d
  | .dict _ => False
  | _ => True
theorem gdE.no {w : D} (h : gdE w) : noDic w := by cases w <;> first | trivial | exact h
theorem zip_at {ds : List D} {i : Nat} {x : D} (h : ((List.range ds.length).zip ds |>.map fun p => PyData.tuple [.int (p.1 : Nat), p.2])[i]? = some x) : ∃ d, ds[i]? = some d ∧ x = .tuple [.int (i : Nat), d] := by
  rw [List.getElem?_map] at h
  cases e : ((List.range ds.length).zip ds)[i]? with
  | none => rw [e] at h; cases h
  | some p =>
    rw [e] at h; cases h
    rw [List.getElem?_zip_eq_some] at e
    obtain ⟨e1, e2⟩ := e
    obtain ⟨hl, e1⟩ := List.getElem?_eq_some_iff.mp e1
    rw [List.getElem_range] at e1
    exact ⟨p.2, e2, by show PyData.tuple [.int (p.1 : Nat), p.2] = _; rw [← e1]⟩
theorem sp_letters {n w : D} (hn : noDic n) (hw : gdE w) : Wp (r_check_letters [.dt n, .dt w, .dt (.int 400)]) (fun r es => er n w = .ok ∧ r = .dt .none ∧ es = [none, none, none]) (fun c fs es => erX (er n w) = some (c, fs) ∧ es = [none, none, none]) := by
  refine u_check_letters ?_
  unfold b_check_letters
  array_get_dec
  refine Wp.mono (sp_strands hn) ?_ ?_
  · rintro r es ⟨⟨i, rfl, h⟩, rfl, rfl⟩
    array_get_dec
    cases w with
    | dict _ => exact hw.elim
    | list ds =>
      array_get_dec
      refine w_iteD (fun c => ?_) (fun c => ?_)
      · array_get_dec
        exact ⟨by rw [er_long h (by omega)]; rfl, rfl⟩
      · array_get_dec
        refine for_at (fun k E => E = [some (.dt (.int i)), some (.dt (.list ds)), some (.dt (.int 400)), none, none] ∧ ∀ j d, j < k → ds[j]? = some d → okL i d = true) ⟨rfl, fun j d hj => by omega⟩ ?_ ?_
        · rintro k x E hx ⟨rfl, ha⟩
          obtain ⟨d, hd, rfl⟩ := zip_at hx
          have nd : noDic d := hw d (List.mem_of_getElem? hd)
          array_get_dec
          rw [sp_isnum nd]
          have nx : okL i d = true → ∀ j d', j < k + 1 → ds[j]? = some d' → okL i d' = true := fun ho j d' hj e => by
            rcases Nat.lt_or_ge j k with q | q
            · exact ha j d' q e
            · have : j = k := by omega
              subst this
              rw [hd] at e; cases e; exact ho
          cases d with
          | dict _ => exact nd.elim
          | int x =>
            simp only [isI]
            array_get_dec
            rw [abs_i]
            refine w_iteD (fun c1 => ?_) (fun c1 => ?_)
            · array_get_dec
              refine w_ite (fun c2 => ?_) (fun c2 => ?_)
              · array_get_dec
                have q : ¬ ((x.natAbs : Int) < i) := by simpa using c2
                exact ⟨by rw [er_bad h (by omega) hd (by simp [okL]; omega) ha]; rfl, rfl⟩
              · array_get_dec
                have q : (x.natAbs : Int) < i := by simpa using c2
                exact nx (by simp [okL]; omega)
            · array_get_dec
              exact ⟨by rw [er_bad h (by omega) hd (by simp [okL]; omega) ha]; rfl, rfl⟩
          | _ =>
            simp only [isI]
            array_get_dec
            exact ⟨by rw [er_bad h (by omega) hd (by simp [okL]) ha]; rfl, rfl⟩
        · rintro E ⟨rfl, ha⟩
          array_get_dec
          refine ⟨er_ok h (by omega) fun j d e => ha j d ?_ e, rfl, rfl⟩
          have := (List.getElem?_eq_some_iff.mp e).1
          simpa using this
    | _ =>
      array_get_dec
      exact ⟨by rw [er_word h (fun ds e => by cases e)]; rfl, rfl⟩
  · rintro c fs es ⟨h, rfl, rfl, rfl⟩
    array_get_dec
    exact ⟨by rw [er_strands h]; rfl, rfl⟩
theorem sp_word_ok {n w : D} (hn : noDic n) (hw : gdE w) : Wp (r_check_word [.dt n, .dt w]) (fun r es => er n w = .ok ∧ r = .dt .none ∧ es = [none, none]) (fun c fs es => erX (er n w) = some (c, fs) ∧ es = [none, none]) := by
  refine u_check_word ?_
  unfold b_check_word
  array_get_dec
  refine Wp.mono (sp_letters hn hw) ?_ ?_
  · rintro r es ⟨h, rfl, rfl⟩
    array_get_dec
    first | exact rfl | exact ⟨h, rfl, rfl⟩
  · rintro c fs es ⟨h, rfl⟩
    array_get_dec
    first | exact rfl | exact ⟨h, rfl⟩
theorem chk_ok {n w : D} (hn : noDic n) (hw : gdE w) (h : er n w = .ok) : r_check_word [.dt n, .dt w] = .ok (.dt .none) [none, none] :=
  wp_eq ((sp_word_ok hn hw).mono (fun r es k => ⟨k.2.1, k.2.2⟩) fun c fs es k => by rw [h] at k; cases k.1)
theorem chk_exc {n w : D} (hn : noDic n) (hw : gdE w) {c : Str} {fs : List (Str × D)} (h : erX (er n w) = some (c, fs)) : r_check_word [.dt n, .dt w] = .exc c fs [none, none] :=
  wp_eqX ((sp_word_ok hn hw).mono (fun r es k => by rw [k.1] at h; cases h) fun c' fs' es k => by
    rw [h] at k
    obtain ⟨k1, k2⟩ := k
    cases k1
    exact ⟨rfl, rfl, k2⟩)
theorem sp_first {n w : D} (hn : noDic n) (hw : gdE w) (hl : ∀ ds, w = .list ds → ds.length ≤ 16777216) : r__law_first_error [.dt n, .dt w, .dt (.int 400)] = .ok (.dt (erD (er n w))) [none, none, none] := by
  refine wp_eq (u__law_first_error ?_)
  unfold b__law_first_error
  by_cases hs : ∃ i : Int, n = .int i ∧ 1 ≤ i ∧ i ≤ 8
  · obtain ⟨i, rfl, h⟩ := hs
    array_get_dec
    refine w_iteD (fun c => by omega) (fun c => ?_)
    array_get_dec
    refine w_iteD (fun c => by omega) (fun c => ?_)
    cases w with
    | dict _ => exact hw.elim
    | list ds =>
      array_get_dec
      refine w_iteD (fun c => ?_) (fun c => ?_)
      · array_get_dec
        first | exact ⟨by rw [er_long h (by omega)]; rfl, rfl⟩ | (rw [er_long h (by omega)]; rfl)
      have hlen := hl ds rfl
      array_get_dec
      refine for_rng (fun k E => E = [some (.dt (.int i)), some (.dt (.list ds)), some (.dt (.int 400)), none, none] ∧ ∀ (j : Nat) (d : D), j < k → ds[j]? = some d → okL i d = true) ⟨rfl, fun j d hj => by omega⟩ ?_ ?_
      · rintro k E hk ⟨rfl, ha⟩
        have hk2 : k < ds.length := by simpa using hk
        obtain ⟨d, hd⟩ : ∃ d, ds[k]? = some d := ⟨_, List.getElem?_eq_getElem hk2⟩
        have nd : noDic d := hw d (List.mem_of_getElem? hd)
        have nx : okL i d = true → ∀ j d', j < k + 1 → ds[j]? = some d' → okL i d' = true := fun ho j d' hj e => by
          rcases Nat.lt_or_ge j k with q | q
          · exact ha j d' q e
          · have : j = k := by omega
            subst this
            rw [hd] at e; cases e; exact ho
        array_get_dec
        refine w_atD k (by omega) hd ?_
        cases d with
        | dict _ => exact nd.elim
        | int x =>
          array_get_dec
          refine w_iteD (fun c1 => ?_) (fun c1 => ?_)
          · array_get_dec
            rw [er_bad h (by omega) hd (by simp [okL]; omega) ha]
            simp [erD]
          · array_get_dec
            rw [abs_i]
            refine w_iteD (fun c2 => ?_) (fun c2 => ?_)
            · array_get_dec
              rw [er_bad h (by omega) hd (by simp [okL]; omega) ha]
              simp [erD]
            · array_get_dec
              exact nx (by simp [okL]; omega)
        | _ =>
          array_get_dec
          rw [er_bad h (by omega) hd (by simp [okL]) ha]
          simp [erD]
      · rintro E ⟨rfl, ha⟩
        array_get_dec
        rw [er_ok h (by omega) (fun j d e => ha j d (by have := (List.getElem?_eq_some_iff.mp e).1; simpa using this) e)]
        first | exact ⟨rfl, rfl⟩ | rfl
    | _ =>
      array_get_dec
      rw [er_word h (fun ds e => by cases e)]
      first | exact ⟨rfl, rfl⟩ | rfl
  · have es : er n w = .strands := er_strands fun i e q => hs ⟨i, e, q⟩
    rw [es]
    cases n with
    | dict _ => exact hn.elim
    | int i =>
      array_get_dec
      refine w_iteD (fun c => ?_) (fun c => ?_)
      · array_get_dec
        first | exact ⟨rfl, rfl⟩ | rfl
      · array_get_dec
        refine w_iteD (fun c => ?_) (fun c => ?_)
        · array_get_dec
          first | exact ⟨rfl, rfl⟩ | rfl
        · exact absurd ⟨i, rfl, by omega, by omega⟩ hs
    | _ =>
      array_get_dec
      first | exact ⟨rfl, rfl⟩ | rfl

/-! ### copies, and being the same -/
def gd : Nat → D → Prop
  | 0, _ => False
  | k + 1, d => match d with
    | .list ds => ds.length ≤ 16777216 ∧ ∀ e ∈ ds, gd k e
    | .tuple ds => ds.length ≤ 16777216 ∧ ∀ e ∈ ds, gd k e
    | .str z => okD (.str z) = true
    | .dict _ => False
    | _ => True
theorem wo_eqS {P : D → Prop} {z : Str} (h : okD (.str z) = true) (hp : P (.bool true)) : WO (pEq (.str z) (.str z)) P := by
  refine wo_eqD.mpr ⟨⟨h, h⟩, ?_⟩
  rw [eqv_S, decide_eq_true rfl]; exact hp
theorem sp_copy : ∀ (k : Nat) (d : D), gd k d → r__law_copy k [.dt d] = .ok (.dt d) [none]
  | 0, _, h => h.elim
  | k + 1, d, h => by
    refine wp_eq (u__law_copy ?_)
    unfold b__law_copy
    cases d with
    | dict _ => exact h.elim
    | list ds =>
      obtain ⟨h1, h2⟩ := h
      array_get_dec
      refine lc_map (fun d => .dt d) h1 (fun d hd => ?_) ?_
      · array_get_dec
        rw [sp_copy k d (h2 d hd)]
        array_get_dec
        exact rfl
      · array_get_dec
        first | exact ⟨rfl, rfl⟩ | rfl
    | tuple ds =>
      obtain ⟨h1, h2⟩ := h
      array_get_dec
      refine lc_map (fun d => .dt d) h1 (fun d hd => ?_) ?_
      · array_get_dec
        rw [sp_copy k d (h2 d hd)]
        array_get_dec
        exact rfl
      · array_get_dec
        first | exact ⟨rfl, rfl⟩ | rfl
    | _ =>
      array_get_dec
      first | exact ⟨rfl, rfl⟩ | rfl
theorem all_true (n : Nat) : (List.replicate n true).all id = true := by simp
theorem same_seq {k : Nat} {ds : List D} {sh : List D → D} (hsh : sh = PyData.list ∨ sh = PyData.tuple) (hl : ds.length ≤ 16777216) (hr : ∀ e ∈ ds, r__law_same k [.dt e, .dt e] = .ok (.dt (.bool true)) [none, none]) {Q : O → En → Prop} {X : Str → List (Str × D) → En → Prop}
    (hq : Q (.lst (((List.replicate ds.length true).map PyData.bool).map .dt)) [some (.dt (sh ds)), some (.dt (sh ds)), none]) :
    Wp (lcL [2] (bName 2) (fun E => .ok true E) (mDt (mFz (mCall (r__law_same k) (mArgD (m2 pIx (mVar 0) (mVar 2)) (mArgD (m2 pIx (mVar 1) (mVar 2)) mNilA))))) (rangeD 0 ds.length) [] [some (.dt (sh ds)), some (.dt (sh ds)), none]) Q X := by
  refine lc_map (fun _ => .dt (.bool true)) (by rw [rangeD_len]; exact hl) (fun d hd => ?_) ?_
  · unfold rangeD at hd
    obtain ⟨i, hi, rfl⟩ := List.mem_map.mp hd
    have hi := List.mem_range.mp hi
    obtain ⟨e, he⟩ : ∃ e, ds[i]? = some e := ⟨_, List.getElem?_eq_getElem hi⟩
    have r := hr e (List.mem_of_getElem? he)
    rcases hsh with rfl | rfl
    · array_get_dec
      refine w_atD i (by omega) he ?_
      array_get_dec
      refine w_atD i (by omega) he ?_
      array_get_dec
      rw [r]
      array_get_dec
      exact rfl
    · array_get_dec
      refine w_atT i (by omega) he ?_
      array_get_dec
      refine w_atT i (by omega) he ?_
      array_get_dec
      rw [r]
      array_get_dec
      exact rfl
  · have e : (rangeD 0 ds.length).map (fun _ => O.dt (.bool true)) = ((List.replicate ds.length true).map PyData.bool).map .dt := by
      rw [List.map_replicate, List.map_replicate]
      refine List.ext_getElem (by simp [rangeD_len]) fun i h1 h2 => ?_
      simp
    rw [e]; exact hq
theorem sp_same : ∀ (k : Nat) (d : D), gd k d → r__law_same k [.dt d, .dt d] = .ok (.dt (.bool true)) [none, none]
  | 0, _, h => h.elim
  | k + 1, d, h => by
    refine wp_eq (u__law_same ?_)
    unfold b__law_same
    cases d with
    | dict _ => exact h.elim
    | none =>
      array_get_dec
      first | exact ⟨rfl, rfl⟩ | rfl
    | bool b =>
      array_get_dec
      first | exact ⟨by simp, rfl⟩ | simp
    | int b =>
      array_get_dec
      first | exact ⟨by simp, rfl⟩ | simp
    | str z =>
      array_get_dec
      refine wo_eqS h ?_
      array_get_dec
      first | exact ⟨rfl, rfl⟩ | rfl
    | list ds =>
      obtain ⟨h1, h2⟩ := h
      array_get_dec
      refine w_iteD (fun _ => ?_) (fun c => absurd rfl c)
      array_get_dec
      refine same_seq (sh := PyData.list) (.inl rfl) h1 (fun e he => sp_same k e (h2 e he)) ?_
      array_get_dec
      rw [all_true]
      first | exact ⟨rfl, rfl⟩ | rfl
    | tuple ds =>
      obtain ⟨h1, h2⟩ := h
      array_get_dec
      refine w_iteD (fun _ => ?_) (fun c => absurd rfl c)
      array_get_dec
      refine same_seq (sh := PyData.tuple) (.inr rfl) h1 (fun e he => sp_same k e (h2 e he)) ?_
      array_get_dec
      rw [all_true]
      first | exact ⟨rfl, rfl⟩ | rfl

/-! ### what stands where -/
def Vw (n : Nat) (w : List Int) : Prop := ∀ x ∈ w, 1 ≤ x.natAbs ∧ x.natAbs < n
theorem rep_flat (n : Nat) (d : D) : (List.replicate n [d]).flatten = List.replicate n d := by
  induction n with
  | zero => rfl
  | succ n ih => rw [List.replicate_succ, List.flatten_cons, ih]; rfl
theorem gd_mono : ∀ (k : Nat) (d : D), gd k d → gd (k + 1) d
  | 0, _, h => h.elim
  | k + 1, d, h => by
    cases d with
    | list ds => exact ⟨h.1, fun e he => gd_mono k e (h.2 e he)⟩
    | tuple ds => exact ⟨h.1, fun e he => gd_mono k e (h.2 e he)⟩
    | dict _ => exact h.elim
    | none => trivial
    | bool _ => trivial
    | int _ => trivial
    | str _ => exact h
theorem gd_no {k : Nat} {d : D} (h : gd k d) : noDic d := by
  cases k with
  | zero => exact h.elim
  | succ k => cases d <;> first | trivial | exact h.elim
theorem gd_E {k : Nat} {d : D} (h : gd k d) : gdE d := by
  cases k with
  | zero => exact h.elim
  | succ k =>
    cases d with
    | list ds => exact fun e he => gd_no (h.2 e he)
    | dict _ => exact h.elim
    | _ => trivial
theorem er_inv {n w : D} (h : er n w = .ok) : ∃ (m : Nat) (ws : List Int), n = .int m ∧ w = lI ws ∧ 1 ≤ m ∧ m ≤ 8 ∧ Vw m ws ∧ ws.length ≤ 400 := by
  unfold er at h
  cases n with
  | int i =>
    simp only at h
    split at h
    · next hi =>
      cases w with
      | list ds =>
        simp only at h
        split at h
        · cases h
        · next hl =>
          cases e : ds.findIdx? (fun d => !okL i d) with
          | some p => rw [e] at h; cases h
          | none =>
            rw [List.findIdx?_eq_none_iff] at e
            have v : VD i ds := fun d hd => by
              have := e d hd
              cases d with
              | int x =>
                simp [okL] at this
                exact ⟨x, rfl, this.1, this.2⟩
              | _ => simp [okL] at this
            obtain ⟨ws, rfl, hw⟩ := v.ints
            refine ⟨i.toNat, ws, by rw [show ((i.toNat : Nat) : Int) = i by omega], rfl, by omega, by omega, fun x hx => ?_, by simpa using hl⟩
            have := hw x hx
            omega
      | _ => cases h
    · cases h
  | _ => cases h
def nmE : Er → Str
  | .ok => ""
  | .strands => "strands"
  | .word => "word"
  | .long _ => "long"
  | .letter _ => "letter"
def kpE : Er → D
  | .long k => .int k
  | .letter p => .int p
  | _ => .none
def refD (e : Er) : D := .tuple [.str "refused", .list [.str (nmE e)], kpE e]
theorem ref_x {e : Er} {c : Str} {fs : List (Str × D)} (h : erX e = some (c, fs)) : catB exC c = some true ∧ clsD exN c = .list [.str (nmE e)] ∧ kepO exL1 c fs = some (kpE e) := by
  cases e with
  | ok => cases h
  | strands => cases h; exact ⟨by decide +kernel, by unfold clsD; congr 1, by unfold kepO; rw [show exL1.lookup ("BadStrands" : Str) = none by decide +kernel]; rfl⟩
  | word => cases h; exact ⟨by decide +kernel, by unfold clsD; congr 1, by unfold kepO; rw [show exL1.lookup ("BadWord" : Str) = none by decide +kernel]; rfl⟩
  | long k => cases h; exact ⟨by decide +kernel, by unfold clsD; congr 1, by unfold kepO; rw [show exL1.lookup ("TooLong" : Str) = some "number" by decide +kernel]; simp [kpE]⟩
  | letter k => cases h; exact ⟨by decide +kernel, by unfold clsD; congr 1, by unfold kepO; rw [show exL1.lookup ("BadLetter" : Str) = some "place" by decide +kernel]; simp [kpE]⟩
/-! ### what is told -/
/-! ### the judge -/
theorem w_run {α : Type} {X : Str → List (Str × D) → En → Prop} {Q : α → En → Prop} {r : Rs α} {a : α} {E : En} (h : r = .ok a E) (hq : Q a E) : Wp r Q X := by rw [h]; exact hq
theorem strok (z : Str) (h : okD (.str z) = true) (k : Nat) : gd (k + 1) (.str z) := h
theorem gd_lI {ns : List Int} {k : Nat} (h : ns.length ≤ 16777216) : gd (k + 2) (lI ns) := ⟨by simpa using h, fun e he => by
  obtain ⟨x, _, rfl⟩ := List.mem_map.mp he
  trivial⟩
theorem ok_told : okD (.str "told") = true := by decide +kernel
theorem ok_nm : ∀ e : Er, okD (.str (nmE e)) = true
  | .ok => show okD (.str "") = true by decide +kernel
  | .strands => show okD (.str "strands") = true by decide +kernel
  | .word => show okD (.str "word") = true by decide +kernel
  | .long _ => show okD (.str "long") = true by decide +kernel
  | .letter _ => show okD (.str "letter") = true by decide +kernel
theorem gd_ref (e : Er) : gd 6 (refD e) := ⟨Nat.le_of_ble_eq_true rfl, fun d hd => by
  simp only [List.mem_cons, List.not_mem_nil, or_false] at hd
  rcases hd with rfl | rfl | rfl
  · show okD (.str "refused") = true
    decide +kernel
  · exact ⟨by simp, fun d hd => by rw [List.mem_singleton.mp hd]; exact ok_nm e⟩
  · cases e <;> trivial⟩
/-! ### bad words, the law -/
theorem ok_1 : okD (.str "1") = true := by decide +kernel
theorem ok_2 : okD (.str "2") = true := by decide +kernel
theorem gd_VD {n : Int} {ds : List D} (h : VD n ds) (hl : ds.length ≤ 16777216) (k : Nat) : gd (k + 2) (.list ds) := ⟨hl, fun e he => by
  obtain ⟨x, rfl, _⟩ := h e he
  trivial⟩
/-- the list of what a bad word may be made of -/
theorem w_atAll {l : List D} {v : Int} {P : D → Prop} (h0 : 0 ≤ v) (h1 : v < l.length) (k : ∀ d ∈ l, P d) : WO (pIx (.list l) (.int v)) P := by
  have h : v.toNat < l.length := by omega
  exact w_atD v.toNat (by omega) (List.getElem?_eq_getElem h) (k _ (List.getElem_mem h))
theorem sp_bad {o : O} {n : Int} {ds : List D} (h : PoolO o) (hv : VD n ds) (hl : ds.length ≤ 400) : Wp (r__law_bad_word [o, .dt (.int n), .dt (.list ds)]) (fun r es => ∃ d o', r = .dt d ∧ es = [some o', none, none] ∧ gd 5 d ∧ PoolO o') XF := by
  have g1 : gd 5 (.list ds) := gd_VD hv (by omega) 3
  refine u__law_bad_word ?_
  unfold b__law_bad_word
  array_get_dec
  refine (sp_pick h (by decide)).monoF ?_
  rintro r es ⟨v, o1, rfl, rfl, v0, v1, h1⟩
  array_get_dec
  have hp := (fmod_b v (m := (ds.length : Int) + 1) (by omega)).1
  generalize v.fmod ((ds.length : Int) + 1) = pl at hp
  have c1 : (cutL ds none (some pl)).length + (cutL ds (some pl) none).length ≤ ds.length := cut_len hp
  have l1 : VD n (cutL ds none (some pl)) := hv.cut
  have l2 : VD n (cutL ds (some pl) none) := hv.cut
  refine (sp_pick h1 (by decide)).monoF ?_
  rintro r es ⟨u, o2, rfl, rfl, u0, u1, h2⟩
  array_get_dec
  have key : ∀ d : D, gd 4 d → gd 5 (.list (cutL ds none (some pl) ++ [d] ++ cutL ds (some pl) none)) := fun d hd => ⟨by simp; omega, fun e he => by
    rcases List.mem_append.mp he with he | he
    · rcases List.mem_append.mp he with he | he
      · obtain ⟨x, rfl, _⟩ := l1 e he
        trivial
      · rw [List.mem_singleton.mp he]; exact hd
    · obtain ⟨x, rfl, _⟩ := l2 e he
      trivial⟩
  refine w_atAll u0 u1 fun d hd => ?_
  have g4 : gd 4 d := by
    simp only [List.mem_cons, List.not_mem_nil, or_false] at hd
    rcases hd with rfl | rfl | rfl | rfl | rfl | rfl | rfl | rfl
    · trivial
    · trivial
    · trivial
    · trivial
    · trivial
    · trivial
    · exact ok_1
    · exact ⟨by simp, fun e he => by rw [List.mem_singleton.mp he]; trivial⟩
  have kd := key d g4
  clear hd
  array_get_dec
  try (refine ⟨by simp; omega, ?_⟩; array_get_dec)
  try (refine ⟨by simp; omega, ?_⟩; array_get_dec)
  try (refine ⟨⟨by decide, by decide, Nat.le_of_ble_eq_true rfl⟩, ?_⟩; array_get_dec)
  try (refine ⟨⟨by decide, by decide, Nat.le_of_ble_eq_true rfl⟩, ?_⟩; array_get_dec)
  refine (sp_pick h2 (by decide)).monoF ?_
  rintro r es ⟨t, o3, rfl, rfl, t0, t1, h3⟩
  array_get_dec
  refine w_atAll t0 t1 fun e he => ?_
  have g5 : gd 5 e := by
    simp only [List.mem_cons, List.not_mem_nil, or_false] at he
    rcases he with rfl | rfl | rfl | rfl | rfl | rfl | rfl | rfl
    · exact kd
    · exact kd
    · exact g1
    · trivial
    · exact ok_1
    · trivial
    · rw [rep_flat]
      exact ⟨by simp, fun e he => by rw [(List.mem_replicate.mp he).2]; trivial⟩
    · rw [rep_flat]
      exact ⟨by simp, fun e he => by rw [(List.mem_replicate.mp he).2]; trivial⟩
  clear he
  array_get_dec
  exact ⟨_, _, rfl, rfl, g5, h3⟩
theorem sp_stream (ns : List Int) (hn : ns.length ≤ 63) : Wp (r__law_stream [sD ns]) (fun r es => es = [none] ∧ PoolO r) XF := by
  refine u__law_stream ?_
  unfold b__law_stream
  array_get_dec
  refine (sp_pool ns hn).monoF ?_
  rintro r es ⟨rfl, xs, rfl, h1, h2, h3⟩
  array_get_dec
  try (refine ⟨by simp; omega, ?_⟩; array_get_dec)
  try refine ⟨rfl, ?_⟩
  exact ⟨1, xs, rfl, by omega, by omega, by omega, h3⟩
/-! ### data that may be compared -/
theorem gd_shp : ∀ (k : Nat) (d : D), gd k d → d.canLay0 = true ∧ d.depth ≤ k ∧ plainD d = true
  | 0, _, h => h.elim
  | k + 1, d, h => by
    cases d with
    | dict _ => exact h.elim
    | list ds =>
      obtain ⟨a, b, c⟩ := shp_list (ds := ds) (k := k) fun e he => gd_shp k e (h.2 e he)
      exact ⟨by simp [PyData.canLay0, a], by simp [PyData.depth]; omega, by simp [plainD, c]⟩
    | tuple ds =>
      obtain ⟨a, b, c⟩ := shp_list (ds := ds) (k := k) fun e he => gd_shp k e (h.2 e he)
      exact ⟨by simp [PyData.canLay0, a], by simp [PyData.depth]; omega, by simp [plainD, c]⟩
    | str z =>
      have h : okD (.str z) = true := h
      refine ⟨?_, by simp [PyData.depth], by simp [plainD]⟩
      unfold okD SeqAt.shaped at h
      simp only [Bool.and_eq_true] at h
      exact h.1.1
    | none => exact ⟨by simp [PyData.canLay0], by simp [PyData.depth], by simp [plainD]⟩
    | bool _ => exact ⟨by simp [PyData.canLay0], by simp [PyData.depth], by simp [plainD]⟩
    | int _ => exact ⟨by simp [PyData.canLay0], by simp [PyData.depth], by simp [plainD]⟩
theorem gd_okD {k : Nat} {d : D} (h : gd k d) (hk : k ≤ 60) : okD d = true := by
  obtain ⟨a, b, c⟩ := gd_shp k d h
  unfold okD SeqAt.shaped
  simp only [Bool.and_eq_true, decide_eq_true_eq]
  exact ⟨⟨a, by omega⟩, c⟩
theorem ok_turn : okD (.str "turn") = true := by decide +kernel
theorem ok_grow : okD (.str "grow") = true := by decide +kernel
theorem ok_shrink : okD (.str "shrink") = true := by decide +kernel
theorem ok_put : okD (.str "put") = true := by decide +kernel
theorem ok_take : okD (.str "take") = true := by decide +kernel
theorem ok_far : okD (.str "far") = true := by decide +kernel
theorem ok_near : okD (.str "near") = true := by decide +kernel
/-! ### the steps -/
def putF (n : Int) (w : List Int) (p : Nat) (x : Int) : Option (List Int) := if p ≤ w.length ∧ x ≠ 0 ∧ (x.natAbs : Int) < n then some (w.take p ++ [x, -x] ++ w.drop p) else none
def takeF (w : List Int) (p : Nat) : Option (List Int) := match w.drop p with
  | a :: b :: t => if a + b = 0 then some (w.take p ++ t) else none
  | _ => none
def farF (w : List Int) (p : Nat) : Option (List Int) := match w.drop p with
  | a :: b :: t => if 1 < ((a.natAbs : Int) - b.natAbs).natAbs then some (w.take p ++ b :: a :: t) else none
  | _ => none
def nearF (w : List Int) (p : Nat) : Option (List Int) := match w.drop p with
  | a :: b :: c :: t => if a = c ∧ (a - b).natAbs = 1 then some (w.take p ++ b :: a :: b :: t) else none
  | _ => none
def behF (n : Int) (w : List Int) (a : D) : List D → Option (List Int)
  | [.int p] => if 0 ≤ p then (if isS a "take" then takeF w p.toNat else if isS a "far" then farF w p.toNat else if isS a "near" then nearF w p.toNat else none) else none
  | [.int p, .int x] => if 0 ≤ p ∧ isS a "put" = true then putF n w p.toNat x else none
  | _ => none
def turnF (n : Int) (w : List Int) : List D → Option (Int × List Int)
  | [.int x] => if x ≠ 0 ∧ (x.natAbs : Int) < n then some (n, [-x] ++ w ++ [x]) else none
  | _ => none
def growF (n : Int) (w : List Int) : List D → Option (Int × List Int)
  | [.int x] => if x.natAbs = 1 then some (n + 1, w ++ [x * n]) else none
  | _ => none
def shrk (n : Int) (w : List Int) : Bool := match w.getLast? with
  | some l => decide (n ≠ 1 ∧ (l.natAbs : Int) = n - 1) && w.dropLast.all fun x => decide ((x.natAbs : Int) < n - 1)
  | none => false
def shrF (n : Int) (w : List Int) : List D → Option (Int × List Int)
  | [] => if shrk n w = true then some (n - 1, w.dropLast) else none
  | _ => none
def tryF (n : Int) (w : List Int) : D → Option (List Int)
  | .tuple (a :: r) => behF n w a r
  | _ => none
def stepF (n : Int) (w : List Int) : D → Option (Int × List Int)
  | .tuple (a :: r) => if isS a "turn" then turnF n w r else if isS a "grow" then growF n w r else if isS a "shrink" then shrF n w r else (behF n w a r).map fun v => (n, v)
  | _ => none
/-! ### two letters at a place -/
theorem split2 {w : List Int} {p : Nat} (h : p + 2 ≤ w.length) : ∃ h a b t, w = h ++ a :: b :: t ∧ h.length = p := by
  have e : w.drop p = w[p] :: w[p + 1] :: w.drop (p + 2) := by
    rw [List.drop_eq_getElem_cons (by omega), List.drop_eq_getElem_cons (by omega)]
  exact ⟨w.take p, w[p], w[p + 1], w.drop (p + 2), by rw [← e, List.take_append_drop], by simp; omega⟩
theorem split3 {w : List Int} {p : Nat} (h : p + 3 ≤ w.length) : ∃ h a b c t, w = h ++ a :: b :: c :: t ∧ h.length = p := by
  have e : w.drop p = w[p] :: w[p + 1] :: w[p + 2] :: w.drop (p + 3) := by
    rw [List.drop_eq_getElem_cons (by omega), List.drop_eq_getElem_cons (by omega), List.drop_eq_getElem_cons (by omega)]
  exact ⟨w.take p, w[p], w[p + 1], w[p + 2], w.drop (p + 3), by rw [← e, List.take_append_drop], by simp; omega⟩
theorem at_0 {h : List Int} {a : Int} {t : List Int} : (h ++ a :: t)[h.length]? = some a := by simp
theorem at_1 {h : List Int} {a b : Int} {t : List Int} : (h ++ a :: b :: t)[h.length + 1]? = some b := by simp
theorem at_2 {h : List Int} {a b c : Int} {t : List Int} : (h ++ a :: b :: c :: t)[h.length + 2]? = some c := by simp
theorem takeF_2 {h : List Int} {a b : Int} {t : List Int} : takeF (h ++ a :: b :: t) h.length = if a + b = 0 then some (h ++ t) else none := by simp [takeF]
theorem farF_2 {h : List Int} {a b : Int} {t : List Int} : farF (h ++ a :: b :: t) h.length = if 1 < ((a.natAbs : Int) - b.natAbs).natAbs then some (h ++ b :: a :: t) else none := by simp [farF]
theorem nearF_3 {h : List Int} {a b c : Int} {t : List Int} : nearF (h ++ a :: b :: c :: t) h.length = if a = c ∧ (a - b).natAbs = 1 then some (h ++ b :: a :: b :: t) else none := by simp [nearF]
theorem takeF_no {w : List Int} {p : Nat} (h : ¬ p + 2 ≤ w.length) : takeF w p = none := by
  unfold takeF
  split
  · next e => have := congrArg List.length e; simp at this; omega
  · rfl
theorem farF_no {w : List Int} {p : Nat} (h : ¬ p + 2 ≤ w.length) : farF w p = none := by
  unfold farF
  split
  · next e => have := congrArg List.length e; simp at this; omega
  · rfl
theorem nearF_no {w : List Int} {p : Nat} (h : ¬ p + 3 ≤ w.length) : nearF w p = none := by
  unfold nearF
  split
  · next e => have := congrArg List.length e; simp at this; omega
  · rfl
theorem w_iteN {p q : Prop} {c : Prop} [Decidable c] (h : ¬c → p) (h2 : c → q) : if (!decide c) = true then p else q := by
  by_cases e : c
  · rw [if_neg (by simp [e])]; exact h2 e
  · rw [if_pos (by simp [e])]; exact h e
/-! ### the program's moves -/
theorem sp_isletter {n : Int} {d : D} (h : noDic d) : r_is_letter [.dt (.int n), .dt d] = .ok (.dt (.bool (okL n d))) [none, none] := by
  refine wp_eq (u_is_letter ?_)
  unfold b_is_letter
  array_get_dec
  rw [sp_isnum h]
  cases d with
  | dict _ => exact h.elim
  | int x =>
    simp only [isI]
    array_get_dec
    rw [abs_i]
    refine w_iteD (fun c => ?_) (fun c => ?_)
    · array_get_dec
      refine ⟨?_, rfl⟩
      have : decide ((x.natAbs : Int) < n) = okL n (.int x) := by
        unfold okL; simp; omega
      rw [this]
    · array_get_dec
      refine ⟨?_, rfl⟩
      have : okL n (.int x) = false := by
        unfold okL; simp; omega
      rw [this]
  | _ =>
    simp only [isI]
    array_get_dec
    first | exact ⟨rfl, rfl⟩ | exact rfl
def bo {α : Type} (o : Option α) : O := .dt (.bool o.isSome)
theorem sp_put {n : Int} {w : List Int} {p : Int} {d : D} (hp : 0 ≤ p) (h : noDic d) (hl : w.length ≤ 1000000) :
    r_put_in [.dt (.int n), oI w, .dt (.int p), .dt d] = .ok (bo (behF n w (.str "put") [.int p, d])) [none, some (oI ((behF n w (.str "put") [.int p, d]).getD w)), none, none] := by
  have hs : isS (.str "put") "put" = true := by decide +kernel
  refine wp_eq (u_put_in ?_)
  unfold b_put_in
  array_get_dec
  refine w_iteD (fun c => ?_) (fun c => ?_)
  · array_get_dec
    have e : behF n w (.str "put") [.int p, d] = none := by
      cases d with
      | int x =>
        simp only [behF]
        rw [if_pos ⟨hp, hs⟩]
        unfold putF
        rw [if_neg]
        simp only [List.length_map] at c
        omega
      | _ => rfl
    rw [e]
    first | exact ⟨rfl, rfl⟩ | exact rfl
  · simp only [List.length_map] at c
    array_get_dec
    rw [sp_isletter h]
    cases d with
    | dict _ => exact h.elim
    | int x =>
      simp only [behF]
      rw [if_pos ⟨hp, hs⟩]
      unfold putF
      by_cases c2 : x ≠ 0 ∧ (x.natAbs : Int) < n
      · have e : okL n (.int x) = true := by simp only [okL]; exact decide_eq_true c2
        rw [e]
        array_get_dec
        rw [if_pos ⟨by omega, c2⟩]
        first | exact ⟨rfl, rfl⟩ | exact rfl
      · have e : okL n (.int x) = false := by simp only [okL]; exact decide_eq_false c2
        rw [e]
        array_get_dec
        rw [if_neg (fun q => c2 q.2)]
        first | exact ⟨rfl, rfl⟩ | exact rfl
    | _ =>
      simp only [okL]
      array_get_dec
      first | exact ⟨rfl, rfl⟩ | exact rfl

theorem del_2 {h : List Int} {a b : Int} {t : List Int} : (h ++ a :: b :: t).take ((h.length : Nat) : Int).toNat ++ (h ++ a :: b :: t).drop (((h.length : Nat) : Int) + 2).toNat = h ++ t := by
  rw [show (((h.length : Nat) : Int) + 2).toNat = h.length + 2 by omega, Int.toNat_natCast]
  simp
theorem sp_take {w : List Int} {p : Int} (hp : 0 ≤ p) (hl : w.length ≤ 1000000) :
    r_take_away [oI w, .dt (.int p)] = .ok (bo (takeF w p.toNat)) [some (oI ((takeF w p.toNat).getD w)), none] := by
  obtain ⟨q, rfl⟩ := Int.eq_ofNat_of_zero_le hp
  rw [Int.toNat_natCast]
  refine wp_eq (u_take_away ?_)
  unfold b_take_away
  array_get_dec
  refine w_iteD (fun c => ?_) (fun c => ?_)
  · simp only [List.length_map] at c
    array_get_dec
    rw [takeF_no (by omega)]
    first | exact ⟨rfl, rfl⟩ | exact rfl
  · simp only [List.length_map] at c
    obtain ⟨h, a, b, t, rfl, rfl⟩ := split2 (w := w) (p := q) (by omega)
    array_get_dec
    refine w_ixN h.length rfl (by simp) ?_
    array_get_dec
    refine w_getI at_0 ?_
    array_get_dec
    refine w_ixN (h.length + 1) (by omega) (by simp) ?_
    array_get_dec
    refine w_getI at_1 ?_
    array_get_dec
    rw [takeF_2]
    refine w_iteN (fun c => ?_) (fun c => ?_)
    · array_get_dec
      rw [if_neg c]
      first | exact ⟨rfl, rfl⟩ | exact rfl
    · array_get_dec
      rw [if_pos c, del_2]
      first | exact ⟨rfl, rfl⟩ | exact rfl

theorem set_01 {h : List Int} {a b x y : Int} {t : List Int} : ((h ++ a :: b :: t).set h.length x).set (h.length + 1) y = h ++ x :: y :: t := by simp
theorem set_012 {h : List Int} {a b c x y z : Int} {t : List Int} : (((h ++ a :: b :: c :: t).set h.length x).set (h.length + 1) y).set (h.length + 2) z = h ++ x :: y :: z :: t := by simp
theorem sp_far {w : List Int} {p : Int} (hp : 0 ≤ p) (hl : w.length ≤ 1000000) :
    r_exchange_far [oI w, .dt (.int p)] = .ok (bo (farF w p.toNat)) [some (oI ((farF w p.toNat).getD w)), none] := by
  obtain ⟨q, rfl⟩ := Int.eq_ofNat_of_zero_le hp
  rw [Int.toNat_natCast]
  refine wp_eq (u_exchange_far ?_)
  unfold b_exchange_far
  array_get_dec
  refine w_iteD (fun c => ?_) (fun c => ?_)
  · simp only [List.length_map] at c
    array_get_dec
    rw [farF_no (by omega)]
    first | exact ⟨rfl, rfl⟩ | exact rfl
  · simp only [List.length_map] at c
    obtain ⟨h, a, b, t, rfl, rfl⟩ := split2 (w := w) (p := q) (by omega)
    array_get_dec
    refine w_ixN h.length rfl (by simp) ?_
    array_get_dec
    refine w_getI at_0 ?_
    array_get_dec
    refine w_ixN (h.length + 1) (by omega) (by simp) ?_
    array_get_dec
    refine w_getI at_1 ?_
    array_get_dec
    rw [farF_2, abs_i, abs_i, abs_i]
    refine w_iteD (fun c => ?_) (fun c => ?_)
    · array_get_dec
      rw [if_neg (by omega)]
      first | exact ⟨rfl, rfl⟩ | exact rfl
    · rw [if_pos (by omega)]
      array_get_dec
      refine w_ixN (h.length + 1) (by omega) (by simp) ?_
      array_get_dec
      refine w_getI at_1 ?_
      array_get_dec
      refine w_ixN h.length rfl (by simp) ?_
      array_get_dec
      refine w_getI at_0 ?_
      array_get_dec
      refine w_ixN h.length rfl (by simp) ?_
      array_get_dec
      refine w_ixN (h.length + 1) (by omega) (by simp) ?_
      array_get_dec
      rw [set_01]
      first | exact ⟨rfl, rfl⟩ | exact rfl
theorem sp_near {w : List Int} {p : Int} (hp : 0 ≤ p) (hl : w.length ≤ 1000000) :
    r_turn_near [oI w, .dt (.int p)] = .ok (bo (nearF w p.toNat)) [some (oI ((nearF w p.toNat).getD w)), none] := by
  obtain ⟨q, rfl⟩ := Int.eq_ofNat_of_zero_le hp
  rw [Int.toNat_natCast]
  refine wp_eq (u_turn_near ?_)
  unfold b_turn_near
  array_get_dec
  refine w_iteD (fun c => ?_) (fun c => ?_)
  · simp only [List.length_map] at c
    array_get_dec
    rw [nearF_no (by omega)]
    first | exact ⟨rfl, rfl⟩ | exact rfl
  · simp only [List.length_map] at c
    obtain ⟨h, a, b, c, t, rfl, rfl⟩ := split3 (w := w) (p := q) (by omega)
    array_get_dec
    refine w_ixN h.length rfl (by simp) ?_
    array_get_dec
    refine w_getI at_0 ?_
    array_get_dec
    refine w_ixN (h.length + 2) (by omega) (by simp) ?_
    array_get_dec
    refine w_getI at_2 ?_
    array_get_dec
    rw [nearF_3]
    refine w_iteN (fun c1 => ?_) (fun c1 => ?_)
    · array_get_dec
      rw [if_neg (fun q => c1 q.1)]
      first | exact ⟨rfl, rfl⟩ | exact rfl
    · array_get_dec
      refine w_ixN h.length rfl (by simp) ?_
      array_get_dec
      refine w_getI at_0 ?_
      array_get_dec
      refine w_ixN (h.length + 1) (by omega) (by simp) ?_
      array_get_dec
      refine w_getI at_1 ?_
      array_get_dec
      rw [abs_i]
      refine w_iteN (fun c2 => ?_) (fun c2 => ?_)
      · array_get_dec
        rw [if_neg (fun q => c2 (by omega))]
        first | exact ⟨rfl, rfl⟩ | exact rfl
      · rw [if_pos ⟨c1, by omega⟩]
        array_get_dec
        refine w_ixN (h.length + 1) (by omega) (by simp) ?_
        array_get_dec
        refine w_getI at_1 ?_
        array_get_dec
        refine w_ixN h.length rfl (by simp) ?_
        array_get_dec
        refine w_getI at_0 ?_
        array_get_dec
        refine w_ixN (h.length + 1) (by omega) (by simp) ?_
        array_get_dec
        refine w_getI at_1 ?_
        array_get_dec
        refine w_ixN h.length rfl (by simp) ?_
        array_get_dec
        refine w_ixN (h.length + 1) (by omega) (by simp) ?_
        array_get_dec
        refine w_ixN (h.length + 2) (by omega) (by simp) ?_
        array_get_dec
        rw [set_012]
        first | exact ⟨rfl, rfl⟩ | exact rfl

/-! ### one move tried -/
theorem len_not {i : Int} (h : i = 2 ∨ i = 3) : (!decide (i ∈ [(2 : Int), 3])) = false := by rcases h with rfl | rfl <;> decide
theorem len_is {i : Int} (h : i < 2 ∨ 3 < i) : (!decide (i ∈ [(2 : Int), 3])) = true := by
  rw [decide_eq_false (by simp; omega)]; rfl
theorem w_okS {α : Type} {Q : α → En → Prop} {X : Str → List (Str × D) → En → Prop} {r : Rs α} {a : α} {E : En} (h : r = .ok a E) (hq : Q a E) : Wp r Q X := by rw [h]; exact hq
theorem behF_put {n : Int} {w : List Int} {a : D} {p : Int} {d : D} : behF n w a [.int p, d] = if isS a "put" = true then behF n w (.str "put") [.int p, d] else none := by
  have hs : isS (.str "put") "put" = true := by decide +kernel
  cases d with
  | int x =>
    simp only [behF, hs]
    by_cases h : isS a "put" = true
    · rw [if_pos h]; simp [h]
    · rw [if_neg h]; simp [h]
  | _ => simp only [behF]; split <;> rfl
theorem behF_long {n : Int} {w : List Int} {a b c d : D} {r : List D} : behF n w a (b :: c :: d :: r) = none := by
  cases b <;> first | rfl | (cases c <;> rfl)
theorem tryF_short {n : Int} {w : List Int} {ds : List D} (h : ds.length < 2 ∨ 3 < ds.length) : tryF n w (.tuple ds) = none := by
  match ds, h with
  | [], _ => rfl
  | [a], _ => rfl
  | [a, b], h => simp at h
  | [a, b, c], h => simp at h
  | a :: b :: c :: d :: r, _ => exact behF_long
theorem behF_nint {n : Int} {w : List Int} {a b : D} {r : List D} (h : ∀ p : Int, b = .int p → p < 0) : behF n w a (b :: r) = none := by
  cases b with
  | int p =>
    have hp := h p rfl
    match r with
    | [] => show (if 0 ≤ p then _ else none) = none; rw [if_neg (by omega)]
    | [.int x] => show (if 0 ≤ p ∧ _ then _ else none) = none; rw [if_neg (by omega)]
    | [.none] => rfl
    | [.bool _] => rfl
    | [.str _] => rfl
    | [.list _] => rfl
    | [.tuple _] => rfl
    | [.dict _] => rfl
    | _ :: _ :: _ => exact behF_long
  | _ => rfl
theorem isI_int {b : D} (h : isI b = true) : ∃ p : Int, b = .int p := by
  cases b with
  | int p => exact ⟨p, rfl⟩
  | _ => cases h
theorem sp_try {n : Int} {w : List Int} {s : D} {k : Nat} (hs : gd (k + 1) s) (hk : k < 60) (hl : w.length ≤ 1000000) :
    r_try_move [.dt (.int n), oI w, .dt s] = .ok (bo (tryF n w s)) [none, some (oI ((tryF n w s).getD w)), none] := by
  refine wp_eq (u_try_move ?_)
  unfold b_try_move
  cases s with
  | dict _ => exact hs.elim
  | tuple ds =>
    by_cases hlen : ds.length < 2 ∨ 3 < ds.length
    · array_get_dec
      rw [len_is (by omega), tryF_short hlen]
      array_get_dec
      first | exact ⟨rfl, rfl⟩ | exact rfl
    · obtain ⟨a, b, r, rfl, hr⟩ : ∃ a b r, ds = a :: b :: r ∧ (r = [] ∨ ∃ c, r = [c]) := by
        match ds, hlen with
        | [], h => simp at h
        | [a], h => simp at h
        | [a, b], _ => exact ⟨a, b, [], rfl, .inl rfl⟩
        | [a, b, c], _ => exact ⟨a, b, [c], rfl, .inr ⟨c, rfl⟩⟩
        | a :: b :: c :: d :: r, h => simp at h
      have ga : gd k a := hs.2 a (by simp)
      have gb : gd k b := hs.2 b (by simp)
      have oa := gd_okD ga (by omega)
      array_get_dec
      rw [len_not (by simp at hlen ⊢; omega)]
      array_get_dec
      refine w_atT 1 rfl rfl ?_
      array_get_dec
      rw [sp_isnum (gd_no gb)]
      cases hb : isI b with
      | false =>
        array_get_dec
        rw [show tryF n w (.tuple (a :: b :: r)) = none from behF_nint fun p e => by subst e; cases hb]
        first | exact ⟨rfl, rfl⟩ | exact rfl
      | true =>
        obtain ⟨p, rfl⟩ := isI_int hb
        array_get_dec
        refine w_atT 1 rfl rfl ?_
        array_get_dec
        refine w_iteD (fun c0 => ?_) (fun c0 => ?_)
        · array_get_dec
          rw [show tryF n w (.tuple (a :: .int p :: r)) = none from behF_nint fun p' e => by cases e; exact c0]
          first | exact ⟨rfl, rfl⟩ | exact rfl
        have hp : 0 ≤ p := by omega
        rcases hr with rfl | ⟨c, rfl⟩
        · array_get_dec
          refine w_iteD (fun q => absurd q (by simp)) (fun _ => ?_)
          array_get_dec
          refine w_atT 0 rfl rfl ?_
          array_get_dec
          refine w_eqS oa ok_take ?_
          array_get_dec
          rw [show tryF n w (.tuple [a, .int p]) = if 0 ≤ p then (if isS a "take" then takeF w p.toNat else if isS a "far" then farF w p.toNat else if isS a "near" then nearF w p.toNat else none) else none from rfl, if_pos hp]
          refine w_ite (fun q => ?_) (fun q => ?_)
          · rw [q]
            array_get_dec
            refine w_atT 1 rfl rfl ?_
            array_get_dec
            with_reducible refine w_okS (sp_take hp hl) ?_
            array_get_dec
            first | exact ⟨rfl, rfl⟩ | exact rfl
          rw [q]
          array_get_dec
          refine w_atT 0 rfl rfl ?_
          array_get_dec
          refine w_eqS oa ok_far ?_
          array_get_dec
          refine w_ite (fun q => ?_) (fun q => ?_)
          · rw [q]
            array_get_dec
            refine w_atT 1 rfl rfl ?_
            array_get_dec
            with_reducible refine w_okS (sp_far hp hl) ?_
            array_get_dec
            first | exact ⟨rfl, rfl⟩ | exact rfl
          rw [q]
          array_get_dec
          refine w_atT 0 rfl rfl ?_
          array_get_dec
          refine w_eqS oa ok_near ?_
          array_get_dec
          refine w_ite (fun q => ?_) (fun q => ?_)
          · rw [q]
            array_get_dec
            refine w_atT 1 rfl rfl ?_
            array_get_dec
            with_reducible refine w_okS (sp_near hp hl) ?_
            array_get_dec
            first | exact ⟨rfl, rfl⟩ | exact rfl
          · rw [q]
            array_get_dec
            first | exact ⟨rfl, rfl⟩ | exact rfl
        · have gc : gd k c := hs.2 c (by simp)
          array_get_dec
          refine w_iteD (fun _ => ?_) (fun q => absurd rfl q)
          array_get_dec
          refine w_atT 0 rfl rfl ?_
          array_get_dec
          refine w_eqS oa ok_put ?_
          array_get_dec
          rw [show tryF n w (.tuple [a, .int p, c]) = behF n w a [.int p, c] from rfl, behF_put]
          refine w_ite (fun q => ?_) (fun q => ?_)
          · rw [q]
            array_get_dec
            refine w_atT 1 rfl rfl ?_
            array_get_dec
            refine w_atT 2 rfl rfl ?_
            array_get_dec
            with_reducible refine w_okS (sp_put hp (gd_no gc) hl) ?_
            array_get_dec
            first | exact ⟨rfl, rfl⟩ | exact rfl
          · rw [q]
            array_get_dec
            first | exact ⟨rfl, rfl⟩ | exact rfl
  | _ =>
    array_get_dec
    first | exact ⟨rfl, rfl⟩ | exact rfl

/-! ### the last strand -/
theorem w_atL {P : D → Prop} {ds : List D} {d : D} (hd : ds.getLast? = some d) (h : P d) : WO (pIx (.list ds) (.int (-1))) P := by
  obtain ⟨v, rfl⟩ : ∃ v, ds = v ++ [d] := by
    cases ds with
    | nil => cases hd
    | cons x xs =>
      rw [List.getLast?_eq_getLast (by simp)] at hd
      have := Option.some.inj hd
      exact ⟨(x :: xs).dropLast, by rw [← this, List.dropLast_concat_getLast]⟩
  show WO (atI (v ++ [d]) (-1)) P
  unfold atI ixN
  rw [if_neg (by decide), if_pos (by simp; omega)]
  show WO (v ++ [d])[(-1 + ((v ++ [d]).length : Int)).toNat]? P
  rw [show (-1 + ((v ++ [d]).length : Int)).toNat = v.length by simp; omega]
  simp
  exact h
theorem cut_last {v : List Int} {l : Int} : cutL ((v ++ [l]).map PyData.int) none (some (-1)) = v.map .int := by
  unfold cutL HT.sIx
  simp
  rw [show (-1 + ((v.length : Int) + 1)).toNat = (v.map PyData.int).length by simp; omega, List.take_left]

def smD (m : Int) : D → Bool
  | .int x => decide ((x.natAbs : Int) < m)
  | _ => false
theorem sp_shrink {n : Int} {w : List Int} (hn : 1 ≤ n) (hl : w.length ≤ 1000000) : r_can_shrink [.dt (.int n), .dt (lI w)] = .ok (.dt (.bool (shrk n w))) [none, none] := by
  refine wp_eq (u_can_shrink ?_)
  unfold b_can_shrink
  array_get_dec
  refine w_iteD (fun c => ?_) (fun c => ?_)
  · array_get_dec
    have e : shrk n w = false := by
      unfold shrk
      cases w.getLast? with
      | none => rfl
      | some l => simp [c]
    rw [e]
    first | exact ⟨rfl, rfl⟩ | exact rfl
  array_get_dec
  by_cases hw : w = []
  · subst hw
    array_get_dec
    first | exact ⟨rfl, rfl⟩ | exact rfl
  obtain ⟨v, l, rfl⟩ : ∃ v l, w = v ++ [l] := ⟨w.dropLast, w.getLast hw, (List.dropLast_concat_getLast hw).symm⟩
  rw [show (!(List.map PyData.int (v ++ [l])).isEmpty) = true by simp]
  array_get_dec
  refine w_atL (d := .int l) ?_ ?_
  · simp
  array_get_dec
  rw [abs_i]
  have e : shrk n (v ++ [l]) = (decide ((l.natAbs : Int) = n - 1) && v.all fun x => decide ((x.natAbs : Int) < n - 1)) := by
    unfold shrk
    simp [c]
  rw [e]
  refine w_iteN (fun c1 => ?_) (fun c1 => ?_)
  · array_get_dec
    rw [decide_eq_false c1]
    first | exact ⟨rfl, rfl⟩ | exact rfl
  array_get_dec
  rw [cut_last]
  rw [decide_eq_true c1, Bool.true_and]
  refine lc_map (fun d => .dt (.bool (smD (n - 1) d))) (by simp at hl ⊢; omega) (fun d hd => ?_) ?_
  · obtain ⟨x, hx, rfl⟩ := List.mem_map.mp hd
    array_get_dec
    rw [abs_i]
    first | exact ⟨rfl, rfl⟩ | exact rfl
  · have e2 : (v.map PyData.int).map (fun d => O.dt (.bool (smD (n - 1) d))) = (((v.map fun x => decide ((x.natAbs : Int) < n - 1)).map PyData.bool).map .dt) := by
      rw [List.map_map, List.map_map, List.map_map]; rfl
    rw [e2]
    array_get_dec
    rw [List.all_map]
    first | exact ⟨rfl, rfl⟩ | exact rfl

/-! ### one step -/
theorem turnF_no {n : Int} {w : List Int} {r : List D} (h : ∀ x : Int, r ≠ [.int x]) : turnF n w r = none := by
  match r, h with
  | [], _ => rfl
  | [b], h => cases b with
    | int x => exact absurd rfl (h x)
    | _ => rfl
  | b :: _ :: _, _ => cases b <;> rfl
theorem growF_no {n : Int} {w : List Int} {r : List D} (h : ∀ x : Int, r ≠ [.int x]) : growF n w r = none := by
  match r, h with
  | [], _ => rfl
  | [b], h => cases b with
    | int x => exact absurd rfl (h x)
    | _ => rfl
  | b :: _ :: _, _ => cases b <;> rfl
theorem cut_drop {w : List Int} : cutL (w.map PyData.int) none (some (-1)) = w.dropLast.map .int := by
  by_cases hw : w = []
  · subst hw; rfl
  · obtain ⟨v, l, rfl⟩ : ∃ v l, w = v ++ [l] := ⟨w.dropLast, w.getLast hw, (List.dropLast_concat_getLast hw).symm⟩
    rw [cut_last]; simp
/-! ### the law's steps -/
def wthn (d : D) (lo hi : Int) : Bool := match d with
  | .int x => decide (lo ≤ x ∧ x ≤ hi)
  | _ => false
theorem sp_within {d : D} {lo hi : Int} (h : noDic d) : r__law_within [.dt d, .dt (.int lo), .dt (.int hi)] = .ok (.dt (.bool (wthn d lo hi))) [none, none, none] := by
  refine wp_eq (u__law_within ?_)
  unfold b__law_within
  cases d with
  | dict _ => exact h.elim
  | int x =>
    array_get_dec
    have e : wthn (.int x) lo hi = (decide (lo ≤ x) && decide (x ≤ hi)) := by simp only [wthn]; exact Bool.decide_and ..
    rw [e]
    refine w_iteD (fun c => ?_) (fun c => ?_)
    · array_get_dec
      rw [decide_eq_true c]
      first | exact ⟨rfl, rfl⟩ | exact rfl | exact ⟨rfl, trivial⟩
    · array_get_dec
      rw [decide_eq_false c]
      first | exact ⟨rfl, rfl⟩ | exact rfl | exact ⟨rfl, trivial⟩
  | _ =>
    array_get_dec
    first | exact ⟨rfl, rfl⟩ | exact rfl | exact ⟨rfl, trivial⟩
theorem cutH {w : List Int} {p : Int} (h0 : 0 ≤ p) (h1 : p ≤ w.length) : cutL (w.map PyData.int) none (some p) = (w.take p.toNat).map .int := by
  unfold cutL HT.sIx
  simp only [if_neg (show ¬ p < 0 by omega), List.drop_zero, Nat.sub_zero, List.length_map]
  rw [← List.map_take]
  congr 2
  omega
theorem cutT {w : List Int} {p : Int} (h0 : 0 ≤ p) (h1 : p ≤ w.length) : cutL (w.map PyData.int) (some p) none = (w.drop p.toNat).map .int := by
  unfold cutL HT.sIx
  simp only [if_neg (show ¬ p < 0 by omega), List.length_map]
  rw [show min p.toNat w.length = p.toNat by omega, List.take_of_length_le (by simp), List.map_drop]
theorem cutT2 {a b : Int} {t : List Int} : cutL ((a :: b :: t).map PyData.int) (some 2) none = t.map .int := by
  rw [cutT (by decide) (by simp; omega)]; rfl
theorem cutT3 {a b c : Int} {t : List Int} : cutL ((a :: b :: c :: t).map PyData.int) (some 3) none = t.map .int := by
  rw [cutT (by decide) (by simp; omega)]; rfl
theorem isS_str {a : D} (h : ∀ z, a ≠ .str z) (z : Str) : isS a z = false := by
  cases a with
  | str y => exact absurd rfl (h y)
  | _ => rfl
theorem behF_nstr {n : Int} {w : List Int} {a : D} {r : List D} (h : ∀ z, a ≠ .str z) : behF n w a r = none := by
  have e := isS_str h
  unfold behF
  split
  · simp [e]
  · simp [e]
  · rfl
def nz (w : List Int) : Prop := ∀ x ∈ w, x ≠ 0
def lO : Option (List Int) → D
  | none => .none
  | some v => lI v
theorem lO_eq {xs : List D} {v : List Int} (h : xs = v.map .int) : PyData.list xs = lO (some v) := by rw [h]; rfl
theorem wthn_int {b : D} {lo hi : Int} (h : wthn b lo hi = true) : ∃ x : Int, b = .int x ∧ lo ≤ x ∧ x ≤ hi := by
  cases b with
  | int x => exact ⟨x, rfl, of_decide_eq_true h⟩
  | _ => cases h
theorem behF_far {n : Int} {w : List Int} {a b : D} {r : List D} (h : wthn b 0 w.length = false) : behF n w a (b :: r) = none := by
  cases b with
  | int p =>
    have h : ¬ (0 ≤ p ∧ p ≤ w.length) := of_decide_eq_false h
    by_cases hp : 0 ≤ p
    · have g : w.length < p.toNat := by omega
      match r with
      | [] =>
        show (if 0 ≤ p then _ else none) = none
        rw [if_pos hp, takeF_no (by omega), farF_no (by omega), nearF_no (by omega)]
        simp
      | [.int x] =>
        show (if 0 ≤ p ∧ _ then putF n w p.toNat x else none) = none
        unfold putF
        rw [if_neg (show ¬ (p.toNat ≤ w.length ∧ _) from fun q => by omega)]
        simp
      | [.none] => rfl
      | [.bool _] => rfl
      | [.str _] => rfl
      | [.list _] => rfl
      | [.tuple _] => rfl
      | [.dict _] => rfl
      | _ :: _ :: _ => exact behF_long
    · exact behF_nint fun p' e => by cases e; omega
  | _ => rfl
theorem sp_behind {n : Int} {w : List Int} {s : D} {k : Nat} (hs : gd (k + 1) s) (hk : k < 60) (hw : nz w) (hl : w.length ≤ 1000000) :
    r__law_behind [.dt (.int n), .dt (lI w), .dt s] = .ok (.dt (lO (tryF n w s))) [none, none, none] := by
  refine wp_eq (u__law_behind ?_)
  unfold b__law_behind
  cases s with
  | dict _ => exact hs.elim
  | tuple ds =>
    match ds, hs with
    | [], hs =>
      array_get_dec
      first | exact ⟨rfl, rfl⟩ | exact rfl | exact ⟨rfl, trivial⟩
    | [a], hs =>
      array_get_dec
      first | exact ⟨rfl, rfl⟩ | exact rfl | exact ⟨rfl, trivial⟩
    | a :: b :: r, hs =>
      have ga : gd k a := hs.2 a (by simp)
      have gb : gd k b := hs.2 b (by simp)
      have oa := gd_okD ga (by omega)
      rw [show tryF n w (.tuple (a :: b :: r)) = behF n w a (b :: r) from rfl]
      array_get_dec
      refine w_iteD (fun c => absurd c (by simp; omega)) (fun _ => ?_)
      array_get_dec
      refine w_atT 0 rfl rfl ?_
      cases a with
      | dict _ => exact absurd (gd_no ga) (fun h => h)
      | str z =>
        array_get_dec
        refine w_atT 1 rfl rfl ?_
        array_get_dec
        rw [List.length_map]
        with_reducible refine w_okS (sp_within (gd_no gb)) ?_
        array_get_dec
        cases hb : wthn b 0 w.length with
        | false =>
          array_get_dec
          rw [behF_far hb]
          first | exact ⟨rfl, rfl⟩ | exact rfl | exact ⟨rfl, trivial⟩
        | true =>
          obtain ⟨p, rfl, p0, p1⟩ := wthn_int hb
          array_get_dec
          refine w_atT 1 rfl rfl ?_
          array_get_dec
          refine w_atT 1 rfl rfl ?_
          array_get_dec
          rw [cutH p0 p1, cutT p0 p1]
          have hl1 : (w.take p.toNat).length ≤ 1000000 := by simp; omega
          have hl2 : (w.drop p.toNat).length ≤ 1000000 := by simp; omega
          by_cases h3 : ∃ c, r = [c]
          · obtain ⟨c, rfl⟩ := h3
            have gc : gd k c := hs.2 c (by simp)
            have oc := gd_okD gc (by omega)
            array_get_dec
            refine w_iteD (fun _ => ?_) (fun q => absurd rfl q)
            array_get_dec
            refine w_atT 0 rfl rfl ?_
            array_get_dec
            refine w_eqS oa ok_put ?_
            array_get_dec
            rw [behF_put]
            refine w_ite (fun q => ?_) (fun q => ?_)
            · rw [q, if_pos rfl]
              array_get_dec
              refine w_atT 2 rfl rfl ?_
              array_get_dec
              with_reducible refine w_okS (sp_within (gd_no gc)) ?_
              array_get_dec
              have hs2 : isS (.str "put") "put" = true := by decide +kernel
              cases hc : wthn c (1 - n) (n - 1) with
              | false =>
                have e : behF n w (.str "put") [.int p, c] = none := by
                  cases c with
                  | int x =>
                    show (if 0 ≤ p ∧ isS (.str "put") "put" = true then putF n w p.toNat x else none) = none
                    rw [if_pos ⟨p0, hs2⟩]
                    unfold putF
                    have hc := of_decide_eq_false (show decide (1 - n ≤ x ∧ x ≤ n - 1) = false from hc)
                    rw [if_neg (by omega)]
                  | _ => rfl
                rw [e]
                array_get_dec
                refine w_iteN (fun _ => ?_) (fun q => absurd q (by simp))
                array_get_dec
                first | exact ⟨rfl, rfl⟩ | exact rfl | exact ⟨rfl, trivial⟩
              | true =>
                obtain ⟨x, rfl, x0, x1⟩ := wthn_int hc
                have e : behF n w (.str "put") [.int p, .int x] = putF n w p.toNat x := by
                  show (if 0 ≤ p ∧ isS (.str "put") "put" = true then putF n w p.toNat x else none) = _
                  rw [if_pos ⟨p0, hs2⟩]
                rw [e]
                array_get_dec
                refine w_atT 2 rfl rfl ?_
                array_get_dec
                refine w_iteN (fun q => ?_) (fun q => ?_)
                · array_get_dec
                  refine w_atT 2 rfl rfl ?_
                  array_get_dec
                  refine w_atT 2 rfl rfl ?_
                  array_get_dec
                  unfold putF
                  rw [if_pos (by omega)]
                  have e2 : (0 : Int) - x = -x := by omega
                  rw [e2]
                  first | exact ⟨congrArg O.dt (lO_eq (by simp)), rfl⟩ | exact congrArg O.dt (lO_eq (by simp))
                · array_get_dec
                  refine w_iteN (fun _ => ?_) (fun q => absurd q (by simp))
                  array_get_dec
                  unfold putF
                  rw [if_neg (by omega)]
                  first | exact ⟨rfl, rfl⟩ | exact rfl | exact ⟨rfl, trivial⟩
            · rw [q, if_neg (by simp)]
              array_get_dec
              refine w_iteN (fun _ => ?_) (fun q => absurd q (by simp))
              array_get_dec
              first | exact ⟨rfl, rfl⟩ | exact rfl | exact ⟨rfl, trivial⟩
          · by_cases hr : r = []
            · subst hr
              have eb : behF n w (.str z) [.int p] = if isS (.str z) "take" then takeF w p.toNat else if isS (.str z) "far" then farF w p.toNat else if isS (.str z) "near" then nearF w p.toNat else none := by
                show (if 0 ≤ p then _ else none) = _
                rw [if_pos p0]
              rw [eb]
              array_get_dec
              refine w_iteD (fun q => absurd q (by simp)) (fun _ => ?_)
              array_get_dec
              refine w_iteN (fun q => absurd rfl q) (fun _ => ?_)
              array_get_dec
              refine w_iteD (fun q => ?_) (fun q => ?_)
              · simp only [List.length_map, List.length_drop] at q
                array_get_dec
                rw [takeF_no (by omega), farF_no (by omega), nearF_no (by omega)]
                simp only [ite_self]
                first | exact ⟨rfl, rfl⟩ | exact rfl | exact ⟨rfl, trivial⟩
              · simp only [List.length_map, List.length_drop] at q
                obtain ⟨h, x, y, t, rfl, eh⟩ := split2 (w := w) (p := p.toNat) (by omega)
                rw [← eh, List.drop_left, List.take_left, takeF_2, farF_2]
                have nx := hw x (by simp)
                have ny := hw y (by simp)
                have hh : h.length ≤ 1000000 := by simp at hl; omega
                have ht : t.length ≤ 1000000 := by simp at hl; omega
                have c2 := cutT2 (a := x) (b := y) (t := t)
                have nfar : ∀ z2 : Str, (isS (.str z) z2 = true) → decide (z2 = "far") = false → isS (.str z) "far" = false := fun z2 h1 h2 => by
                  have e := of_decide_eq_true (show decide (z = z2) = true from h1)
                  subst e; exact h2
                have nnear : ∀ z2 : Str, (isS (.str z) z2 = true) → decide (z2 = "near") = false → isS (.str z) "near" = false := fun z2 h1 h2 => by
                  have e := of_decide_eq_true (show decide (z = z2) = true from h1)
                  subst e; exact h2
                generalize eR : (if isS (.str z) "take" = true then (if x + y = 0 then some (h ++ t) else none) else if isS (.str z) "far" = true then (if 1 < ((x.natAbs : Int) - y.natAbs).natAbs then some (h ++ y :: x :: t) else none) else if isS (.str z) "near" = true then nearF (h ++ x :: y :: t) h.length else none) = R
                array_get_dec
                refine w_atI 0 rfl rfl ?_
                array_get_dec
                refine w_atI 1 rfl rfl ?_
                array_get_dec
                refine w_atT 0 rfl rfl ?_
                array_get_dec
                refine w_eqS oa ok_take ?_
                array_get_dec
                refine w_ite (fun q1 => ?_) (fun q1 => ?_)
                · rw [if_pos q1] at eR
                  array_get_dec
                  refine w_iteD (fun c1 => ?_) (fun c1 => ?_)
                  · rw [if_pos (by omega)] at eR
                    subst eR
                    array_get_dec
                    rw [c2]
                    array_get_dec
                    first | exact ⟨congrArg O.dt (lO_eq (by simp)), rfl⟩ | exact congrArg O.dt (lO_eq (by simp))
                  · rw [if_neg (by omega)] at eR
                    subst eR
                    have n1 := nfar _ q1 (by decide +kernel)
                    have n2 := nnear _ q1 (by decide +kernel)
                    array_get_dec
                    refine w_atT 0 rfl rfl ?_
                    array_get_dec
                    refine w_eqS oa ok_far ?_
                    rw [n1]
                    array_get_dec
                    refine w_atT 0 rfl rfl ?_
                    array_get_dec
                    refine w_eqS oa ok_near ?_
                    rw [n2]
                    array_get_dec
                    first | exact ⟨rfl, rfl⟩ | exact rfl | exact ⟨rfl, trivial⟩
                rw [if_neg (by rw [q1]; simp)] at eR
                array_get_dec
                refine w_atT 0 rfl rfl ?_
                array_get_dec
                refine w_eqS oa ok_far ?_
                array_get_dec
                refine w_ite (fun q2 => ?_) (fun q2 => ?_)
                · rw [if_pos q2] at eR
                  array_get_dec
                  rw [abs_i, abs_i, abs_i]
                  refine w_iteD (fun c1 => ?_) (fun c1 => ?_)
                  · rw [if_pos (by omega)] at eR
                    subst eR
                    array_get_dec
                    rw [c2]
                    array_get_dec
                    first | exact ⟨congrArg O.dt (lO_eq (by simp)), rfl⟩ | exact congrArg O.dt (lO_eq (by simp))
                  · rw [if_neg (by omega)] at eR
                    subst eR
                    have n2 := nnear _ q2 (by decide +kernel)
                    array_get_dec
                    refine w_atT 0 rfl rfl ?_
                    array_get_dec
                    refine w_eqS oa ok_near ?_
                    rw [n2]
                    array_get_dec
                    first | exact ⟨rfl, rfl⟩ | exact rfl | exact ⟨rfl, trivial⟩
                rw [if_neg (by rw [q2]; simp)] at eR
                array_get_dec
                refine w_atT 0 rfl rfl ?_
                array_get_dec
                refine w_eqS oa ok_near ?_
                array_get_dec
                refine w_ite (fun q3 => ?_) (fun q3 => ?_)
                · rw [if_pos q3] at eR
                  array_get_dec
                  refine w_iteD (fun c1 => ?_) (fun c1 => ?_)
                  · simp only [List.length_map] at c1
                    obtain ⟨v, t, rfl⟩ : ∃ v t', t = v :: t' := by
                      cases t with
                      | nil => simp at c1
                      | cons v t => exact ⟨v, t, rfl⟩
                    have c3 := cutT3 (a := x) (b := y) (c := v) (t := t)
                    have ht2 : t.length ≤ 1000000 := by rw [List.length_cons] at ht; omega
                    rw [nearF_3] at eR
                    array_get_dec
                    refine w_atI 2 rfl rfl ?_
                    array_get_dec
                    refine w_iteD (fun c4 => ?_) (fun c4 => ?_)
                    · array_get_dec
                      refine w_iteD (fun c5 => ?_) (fun c5 => ?_)
                      · array_get_dec
                        rw [abs_i, abs_i, abs_i]
                        have c5 : (0 < x) ↔ (0 < y) := by
                          constructor <;> intro q
                          · exact of_decide_eq_true (by rw [← c5]; exact decide_eq_true q)
                          · exact of_decide_eq_true (by rw [c5]; exact decide_eq_true q)
                        refine w_iteD (fun c6 => ?_) (fun c6 => ?_)
                        · rw [if_pos (by omega)] at eR
                          subst eR
                          array_get_dec
                          rw [c3]
                          array_get_dec
                          first | exact ⟨congrArg O.dt (lO_eq (by simp)), rfl⟩ | exact congrArg O.dt (lO_eq (by simp))
                        · rw [if_neg (by omega)] at eR
                          subst eR
                          array_get_dec
                          first | exact ⟨rfl, rfl⟩ | exact rfl | exact ⟨rfl, trivial⟩
                      · have c5 : ¬ ((0 < x) ↔ (0 < y)) := fun q => c5 (by simp only [q])
                        rw [if_neg (by omega)] at eR
                        subst eR
                        array_get_dec
                        first | exact ⟨rfl, rfl⟩ | exact rfl | exact ⟨rfl, trivial⟩
                    · rw [if_neg (fun q => c4 (by omega))] at eR
                      subst eR
                      array_get_dec
                      first | exact ⟨rfl, rfl⟩ | exact rfl | exact ⟨rfl, trivial⟩
                  · simp only [List.length_map] at c1
                    rw [nearF_no (by simp only [List.length_append, List.length_cons] at c1 ⊢; omega)] at eR
                    subst eR
                    array_get_dec
                    first | exact ⟨rfl, rfl⟩ | exact rfl | exact ⟨rfl, trivial⟩
                · rw [if_neg (by rw [q3]; simp)] at eR
                  subst eR
                  array_get_dec
                  first | exact ⟨rfl, rfl⟩ | exact rfl | exact ⟨rfl, trivial⟩
            · obtain ⟨c, d, r, rfl⟩ : ∃ c d r', r = c :: d :: r' := by
                match r, hr, h3 with
                | [], h, _ => exact absurd rfl h
                | [c], _, h => exact absurd ⟨c, rfl⟩ h
                | c :: d :: r, _, _ => exact ⟨c, d, r, rfl⟩
              rw [behF_long]
              array_get_dec
              refine w_iteD (fun q => absurd q (by simp; omega)) (fun _ => ?_)
              array_get_dec
              refine w_iteN (fun _ => ?_) (fun q => absurd q (by simp; omega))
              array_get_dec
              first | exact ⟨rfl, rfl⟩ | exact rfl | exact ⟨rfl, trivial⟩
      | _ =>
        array_get_dec
        rw [behF_nstr (fun z => by simp)]
        first | exact ⟨rfl, rfl⟩ | exact rfl | exact ⟨rfl, trivial⟩
  | _ =>
    array_get_dec
    first | exact ⟨rfl, rfl⟩ | exact rfl | exact ⟨rfl, trivial⟩

/-! ### lists of ints, compared -/
theorem eqv_ints : ∀ xs ys : List Int, PyData.eqv (.list (xs.map .int)) (.list (ys.map .int)) = decide (xs = ys)
  | [], [] => by simp [PyData.eqv, PyData.eqvAll]
  | [], y :: ys => by simp [PyData.eqv, PyData.eqvAll]
  | x :: xs, [] => by simp [PyData.eqv, PyData.eqvAll]
  | x :: xs, y :: ys => by
    have ih := eqv_ints xs ys
    unfold PyData.eqv at ih ⊢
    rw [List.map_cons, List.map_cons]
    unfold PyData.eqvAll
    rw [ih, eqv_I]
    by_cases h1 : x = y
    · by_cases h2 : xs = ys <;> simp [h1, h2]
    · simp [h1]
theorem w_eqL {P : D → Prop} {xs ys : List Int} (h1 : okD (.list (xs.map .int)) = true) (h2 : okD (.list (ys.map .int)) = true) (h : P (.bool (decide (xs = ys)))) : WO (pEq (.list (xs.map .int)) (.list (ys.map .int))) P := by
  rw [wo_eqD, eqv_ints]; exact ⟨⟨h1, h2⟩, h⟩
theorem okL_ints (ns : List Int) : okD (.list (ns.map .int)) = true := by
  obtain ⟨h1, h2, h3⟩ := shp_list (ds := ns.map PyData.int) (k := 1) fun e he => by
    obtain ⟨x, _, rfl⟩ := List.mem_map.mp he
    exact ⟨by simp [PyData.canLay0], by simp [PyData.depth], by simp [plainD]⟩
  unfold okD SeqAt.shaped
  simp only [Bool.and_eq_true, decide_eq_true_eq]
  exact ⟨⟨by simp [PyData.canLay0, h1], by simp [PyData.depth]; omega⟩, by simp [plainD, h3]⟩
def heldL (m : Int) (w : List Int) : List Int := (((List.range w.length).filter fun k => decide (((w.getD k 0).natAbs : Int) = m)).map fun k => ((k : Nat) : Int))
theorem heldL_last {m : Int} {v : List Int} {l : Int} (hv : ∀ x ∈ v, (x.natAbs : Int) ≤ m) : heldL m (v ++ [l]) = [((v.length : Nat) : Int)] ↔ ((l.natAbs : Int) = m ∧ (v.all fun x => decide ((x.natAbs : Int) < m)) = true) := by
  have e0 : ((List.range v.length).filter fun k => decide ((((v ++ [l]).getD k 0).natAbs : Int) = m)) = (List.range v.length).filter fun k => decide (((v.getD k 0).natAbs : Int) = m) := by
    refine List.filter_congr fun k hk => ?_
    have hk := List.mem_range.mp hk
    simp [List.getD_eq_getElem?_getD, List.getElem?_append_left hk]
  have e1 : heldL m (v ++ [l]) = heldL m v ++ if (l.natAbs : Int) = m then [((v.length : Nat) : Int)] else [] := by
    unfold heldL
    rw [List.length_append, List.length_singleton, List.range_succ, List.filter_append, e0, List.map_append]
    congr 1
    by_cases h : (l.natAbs : Int) = m <;> simp [h]
  have e2 : heldL m v = [] ↔ (v.all fun x => decide ((x.natAbs : Int) < m)) = true := by
    unfold heldL
    rw [List.map_eq_nil_iff, List.filter_eq_nil_iff, List.all_eq_true]
    constructor
    · intro h x hx
      obtain ⟨k, hk, e⟩ := List.mem_iff_getElem.mp hx
      have := h k (List.mem_range.mpr hk)
      rw [List.getD_eq_getElem?_getD, List.getElem?_eq_getElem hk, Option.getD_some, e] at this
      have b := hv x hx
      simp at this
      exact decide_eq_true (by omega)
    · intro h k hk
      have hk := List.mem_range.mp hk
      rw [List.getD_eq_getElem?_getD, List.getElem?_eq_getElem hk, Option.getD_some]
      have := of_decide_eq_true (h v[k] (List.getElem_mem hk))
      simp
      omega
  have e3 : ∀ x ∈ heldL m v, x < (v.length : Int) := fun x hx => by
    unfold heldL at hx
    obtain ⟨k, hk, rfl⟩ := List.mem_map.mp hx
    have := List.mem_range.mp (List.mem_filter.mp hk).1
    omega
  rw [e1, ← e2]
  constructor
  · intro h
    by_cases hl : (l.natAbs : Int) = m
    · rw [if_pos hl] at h
      cases hh : heldL m v with
      | nil => exact ⟨hl, rfl⟩
      | cons x xs => rw [hh] at h; simp at h
    · rw [if_neg hl, List.append_nil] at h
      have := e3 (v.length : Int) (by rw [h]; simp)
      omega
  · rintro ⟨hl, hh⟩
    rw [hh, if_pos hl]; rfl

/-! ### the law's step -/
def stD : Option (Int × List Int) → D
  | none => .none
  | some (m, v) => .tuple [.int m, lI v]
theorem stD_eq {m m' : Int} {v : List Int} {xs : List D} (h0 : m = m') (h : xs = v.map .int) : PyData.tuple [.int m, .list xs] = stD (some (m', v)) := by rw [h, h0]; rfl
def Wd2 (n : Int) (w : List Int) : Prop := ∀ x ∈ w, x ≠ 0 ∧ (x.natAbs : Int) < n
theorem stepF_nstr {n : Int} {w : List Int} {a : D} {r : List D} (h : ∀ z, a ≠ .str z) : stepF n w (.tuple (a :: r)) = none := by
  have e := isS_str h
  rw [show stepF n w (.tuple (a :: r)) = if isS a "turn" then turnF n w r else if isS a "grow" then growF n w r else if isS a "shrink" then shrF n w r else (behF n w a r).map fun v => (n, v) from rfl]
  rw [e, e, e, behF_nstr h]
  simp
theorem w_eqL1 {P : D → Prop} {xs : List Int} {y : Int} (h : P (.bool (decide (xs = [y])))) : WO (pEq (.list (xs.map .int)) (.list [.int y])) P := w_eqL (ys := [y]) (okL_ints _) (okL_ints _) h
theorem sp_held {n : Int} {w : List Int} {E : En} (hE : ∃ d e f g, E = [some (.dt (.int n)), some (.dt (lI w)), d, e, f, g, none]) (hl : w.length ≤ 1000000) :
    mLc [6] (mRng rng1 (mArgD (mCallD cLen (mArgD (mVar 1) mNilA)) mNilA)) (bName 6) (mB (m2 pEq (mCallD cAbs (mArgD (m2 pIx (mVar 1) (mVar 6)) mNilA)) (m2 pSub (mVar 0) (mC (.int 1))))) (mDt (mVar 6)) E = .ok (oI (heldL (n - 1) w)) E := by
  obtain ⟨d, e, f, g, rfl⟩ := hE
  refine wp_eq (?_)
  array_get_dec
  rw [List.length_map, Int.toNat_natCast]
  refine lc_at (fun i acc E => acc = (((((List.range i).filter fun k => decide (((w.getD k 0).natAbs : Int) = n - 1)).map fun k => ((k : Nat) : Int)).map PyData.int).map .dt) ∧ E = [some (.dt (.int n)), some (.dt (lI w)), d, e, f, g, none]) ⟨rfl, rfl⟩ (by rw [rangeD_len]; omega) ?_ ?_
  · rintro i x acc E hd hle ⟨rfl, rfl⟩
    have hi : i < w.length := by have := (List.getElem?_eq_some_iff.mp hd).1; rwa [rangeD_len] at this
    have e2 : x = .int (i : Nat) := by
      unfold rangeD at hd
      rw [List.getElem?_map, List.getElem?_range hi] at hd
      have := (Option.some.inj hd).symm
      rw [this]; simp
    subst e2
    have hw : w[i]? = some (w.getD i 0) := by rw [List.getD_eq_getElem?_getD, List.getElem?_eq_getElem hi]; rfl
    array_get_dec
    refine w_atI i rfl hw ?_
    array_get_dec
    rw [abs_i]
    rw [List.range_succ, List.filter_append]
    refine w_iteD (fun c => ?_) (fun c => ?_)
    · array_get_dec
      refine ⟨?_, rfl⟩
      rw [List.filter_cons_of_pos (by simpa using c)]
      simp
    · array_get_dec
      refine ⟨?_, rfl⟩
      rw [List.filter_cons_of_neg (by simpa using c)]
      simp
  · rintro acc E ⟨rfl, rfl⟩
    rw [rangeD_len]
    exact ⟨rfl, rfl⟩
theorem shrk_held {n : Int} {w : List Int} (hn : 1 < n) (hw : Wd2 n w) : (heldL (n - 1) w = [(w.length : Int) - 1]) ↔ shrk n w = true := by
  by_cases h0 : w = []
  · subst h0
    constructor
    · intro h; cases h
    · intro h; cases h
  obtain ⟨v, l, rfl⟩ : ∃ v l, w = v ++ [l] := ⟨w.dropLast, w.getLast h0, (List.dropLast_concat_getLast h0).symm⟩
  have e : shrk n (v ++ [l]) = (decide ((l.natAbs : Int) = n - 1) && v.all fun x => decide ((x.natAbs : Int) < n - 1)) := by
    unfold shrk
    simp [show n ≠ 1 by omega]
  rw [e, List.length_append, List.length_singleton, show (((v.length + 1 : Nat) : Int) - 1) = ((v.length : Nat) : Int) by omega, heldL_last fun x hx => by have := (hw x (by simp [hx])).2; omega]
  rw [Bool.and_eq_true, decide_eq_true_eq]
theorem heldL_len (m : Int) (w : List Int) : (heldL m w).length ≤ w.length := by
  unfold heldL
  rw [List.length_map]
  refine Nat.le_trans (List.length_filter_le ..) ?_
  simp
theorem sp_stepped {n : Int} {w : List Int} {s : D} {k : Nat} (hs : gd (k + 1) s) (hk : k < 60) (hn : 1 ≤ n) (hn8 : n ≤ 1000) (hw : Wd2 n w) (hl : w.length ≤ 1000000) :
    r__law_stepped [.dt (.int n), .dt (lI w), .dt s] = .ok (.dt (stD (stepF n w s))) [none, none, none] := by
  refine wp_eq (u__law_stepped ?_)
  unfold b__law_stepped
  cases s with
  | dict _ => exact hs.elim
  | tuple ds =>
    cases ds with
    | nil =>
      array_get_dec
      first | exact ⟨rfl, rfl⟩ | exact rfl | exact ⟨rfl, trivial⟩
    | cons a r =>
      have ga : gd k a := hs.2 a (by simp)
      have oa := gd_okD ga (by omega)
      array_get_dec
      refine w_iteD (fun c => absurd c (by simp; omega)) (fun _ => ?_)
      array_get_dec
      refine w_atT 0 rfl rfl ?_
      cases a with
      | dict _ => exact absurd (gd_no ga) (fun h => h)
      | str z =>
        have tr := sp_behind hs hk (fun x hx => (hw x hx).1) hl (n := n)
        rw [show tryF n w (.tuple (.str z :: r)) = behF n w (.str z) r from rfl] at tr
        generalize eR : stepF n w (.tuple (.str z :: r)) = R
        rw [show stepF n w (.tuple (.str z :: r)) = if isS (.str z) "turn" then turnF n w r else if isS (.str z) "grow" then growF n w r else if isS (.str z) "shrink" then shrF n w r else (behF n w (.str z) r).map fun v => (n, v) from rfl] at eR
        array_get_dec
        refine w_atT 0 rfl rfl ?_
        array_get_dec
        refine w_eqS oa ok_turn ?_
        array_get_dec
        refine w_ite (fun q1 => ?_) (fun q1 => ?_)
        · rw [if_pos q1] at eR
          array_get_dec
          refine w_iteD (fun c => ?_) (fun c => ?_)
          · obtain ⟨b, rfl⟩ : ∃ b, r = [b] := by
              match r, c with
              | [b], _ => exact ⟨b, rfl⟩
              | [], c => simp at c
              | _ :: _ :: _, c => simp at c; omega
            have gb : gd k b := hs.2 b (by simp)
            array_get_dec
            refine w_atT 1 rfl rfl ?_
            array_get_dec
            with_reducible refine w_okS (sp_within (gd_no gb)) ?_
            array_get_dec
            cases hb : wthn b (1 - n) (n - 1) with
            | false =>
              array_get_dec
              have e : turnF n w [b] = none := by
                cases b with
                | int x =>
                  show (if x ≠ 0 ∧ (x.natAbs : Int) < n then _ else none) = none
                  have hb := of_decide_eq_false (show decide (1 - n ≤ x ∧ x ≤ n - 1) = false from hb)
                  rw [if_neg (by omega)]
                | _ => rfl
              rw [e] at eR
              subst eR
              first | exact ⟨rfl, rfl⟩ | exact rfl | exact ⟨rfl, trivial⟩
            | true =>
              obtain ⟨x, rfl, x0, x1⟩ := wthn_int hb
              rw [show turnF n w [.int x] = if x ≠ 0 ∧ (x.natAbs : Int) < n then some (n, [-x] ++ w ++ [x]) else none from rfl] at eR
              array_get_dec
              refine w_atT 1 rfl rfl ?_
              array_get_dec
              refine w_iteN (fun q => ?_) (fun q => ?_)
              · rw [if_pos (by omega)] at eR
                subst eR
                array_get_dec
                refine w_atT 1 rfl rfl ?_
                array_get_dec
                refine w_atT 1 rfl rfl ?_
                array_get_dec
                first | exact ⟨congrArg O.dt (stD_eq rfl (by simp)), rfl⟩ | exact congrArg O.dt (stD_eq rfl (by simp))
              · rw [if_neg (by omega)] at eR
                subst eR
                array_get_dec
                first | exact ⟨rfl, rfl⟩ | exact rfl | exact ⟨rfl, trivial⟩
          · rw [turnF_no fun x e => c (by rw [e]; rfl)] at eR
            subst eR
            array_get_dec
            first | exact ⟨rfl, rfl⟩ | exact rfl | exact ⟨rfl, trivial⟩
        rw [if_neg (by rw [q1]; simp)] at eR
        array_get_dec
        refine w_atT 0 rfl rfl ?_
        array_get_dec
        refine w_eqS oa ok_grow ?_
        array_get_dec
        refine w_ite (fun q2 => ?_) (fun q2 => ?_)
        · rw [if_pos q2] at eR
          array_get_dec
          refine w_iteD (fun c => ?_) (fun c => ?_)
          · obtain ⟨b, rfl⟩ : ∃ b, r = [b] := by
              match r, c with
              | [b], _ => exact ⟨b, rfl⟩
              | [], c => simp at c
              | _ :: _ :: _, c => simp at c; omega
            have gb : gd k b := hs.2 b (by simp)
            array_get_dec
            refine w_atT 1 rfl rfl ?_
            array_get_dec
            with_reducible refine w_okS (sp_within (gd_no gb)) ?_
            array_get_dec
            cases hb : wthn b (-1) 1 with
            | false =>
              array_get_dec
              have e : growF n w [b] = none := by
                cases b with
                | int x =>
                  show (if x.natAbs = 1 then _ else none) = none
                  have hb := of_decide_eq_false (show decide (-1 ≤ x ∧ x ≤ 1) = false from hb)
                  rw [if_neg (by omega)]
                | _ => rfl
              rw [e] at eR
              subst eR
              first | exact ⟨rfl, rfl⟩ | exact rfl | exact ⟨rfl, trivial⟩
            | true =>
              obtain ⟨x, rfl, x0, x1⟩ := wthn_int hb
              rw [show growF n w [.int x] = if x.natAbs = 1 then some (n + 1, w ++ [x * n]) else none from rfl] at eR
              array_get_dec
              refine w_atT 1 rfl rfl ?_
              array_get_dec
              refine w_iteN (fun q => ?_) (fun q => ?_)
              · rw [if_pos (by omega)] at eR
                subst eR
                array_get_dec
                refine w_atT 1 rfl rfl ?_
                array_get_dec
                try (refine ⟨.inr (by omega), ?_⟩; array_get_dec)
                rw [Int.mul_comm n x]
                first | exact ⟨congrArg O.dt (stD_eq rfl (by simp)), rfl⟩ | exact congrArg O.dt (stD_eq rfl (by simp))
              · rw [if_neg (by omega)] at eR
                subst eR
                array_get_dec
                first | exact ⟨rfl, rfl⟩ | exact rfl | exact ⟨rfl, trivial⟩
          · rw [growF_no fun x e => c (by rw [e]; rfl)] at eR
            subst eR
            array_get_dec
            first | exact ⟨rfl, rfl⟩ | exact rfl | exact ⟨rfl, trivial⟩
        rw [if_neg (by rw [q2]; simp)] at eR
        array_get_dec
        refine w_atT 0 rfl rfl ?_
        array_get_dec
        refine w_eqS oa ok_shrink ?_
        array_get_dec
        refine w_ite (fun q3 => ?_) (fun q3 => ?_)
        · rw [if_pos q3] at eR
          with_reducible refine w_seq ?_
          with_reducible refine w_set ?_
          with_reducible refine w_fz ?_
          with_reducible refine w_okS (sp_held ⟨_, _, _, _, rfl⟩ hl) ?_
          have hh := heldL_len (n - 1) w
          array_get_dec
          refine w_iteD (fun c => ?_) (fun c => ?_)
          · have : r = [] := by
              cases r with
              | nil => rfl
              | cons _ _ => simp at c; omega
            subst this
            rw [show shrF n w [] = if shrk n w = true then some (n - 1, w.dropLast) else none from rfl] at eR
            array_get_dec
            refine w_iteD (fun c1 => ?_) (fun c1 => ?_)
            · array_get_dec
              rw [List.length_map]
              with_reducible refine w_eqL1 ?_
              array_get_dec
              refine w_iteD (fun c2 => ?_) (fun c2 => ?_)
              · rw [if_pos ((shrk_held c1 hw).mp c2)] at eR
                subst eR
                array_get_dec
                first | exact ⟨congrArg O.dt (stD_eq rfl cut_drop), rfl⟩ | exact congrArg O.dt (stD_eq rfl cut_drop)
              · rw [if_neg fun q => c2 ((shrk_held c1 hw).mpr q)] at eR
                subst eR
                array_get_dec
                first | exact ⟨rfl, rfl⟩ | exact rfl | exact ⟨rfl, trivial⟩
            · have n1 : n = 1 := by omega
              have e : shrk n w = false := by
                unfold shrk
                cases w.getLast? with
                | none => rfl
                | some l => simp [n1]
              rw [if_neg (by rw [e]; simp)] at eR
              subst eR
              array_get_dec
              first | exact ⟨rfl, rfl⟩ | exact rfl | exact ⟨rfl, trivial⟩
          · have e : shrF n w r = none := by
              cases r with
              | nil => exact absurd rfl c
              | cons _ _ => rfl
            rw [e] at eR
            subst eR
            array_get_dec
            first | exact ⟨rfl, rfl⟩ | exact rfl | exact ⟨rfl, trivial⟩
        rw [if_neg (by rw [q3]; simp)] at eR
        array_get_dec
        with_reducible refine w_okS tr ?_
        array_get_dec
        cases hb : behF n w (.str z) r with
        | none =>
          rw [hb] at eR
          subst eR
          array_get_dec
          first | exact ⟨rfl, rfl⟩ | exact rfl | exact ⟨rfl, trivial⟩
        | some v =>
          rw [hb] at eR
          subst eR
          rw [show lO (some v) = lI v from rfl]
          array_get_dec
          first | exact ⟨rfl, rfl⟩ | exact rfl | exact ⟨rfl, trivial⟩
      | _ =>
        array_get_dec
        rw [stepF_nstr (fun z => by simp)]
        first | exact ⟨rfl, rfl⟩ | exact rfl | exact ⟨rfl, trivial⟩
  | _ =>
    array_get_dec
    first | exact ⟨rfl, rfl⟩ | exact rfl | exact ⟨rfl, trivial⟩

/-! ### one step -/
theorem sp_step {n : Int} {w : List Int} {s : D} {k : Nat} (hs : gd (k + 1) s) (hk : k < 60) (hn : 1 ≤ n) (hn8 : n ≤ 1000) (hl : w.length ≤ 1000000) :
    r_step_behind [.dt (.int n), .dt (lI w), .dt s] = .ok (.dt (stD (stepF n w s))) [none, none, none] := by
  refine wp_eq (u_step_behind ?_)
  unfold b_step_behind
  cases s with
  | dict _ => exact hs.elim
  | tuple ds =>
    cases ds with
    | nil =>
      array_get_dec
      first | exact ⟨rfl, rfl⟩ | exact rfl
    | cons a r =>
      have ga : gd k a := hs.2 a (by simp)
      have oa := gd_okD ga (by omega)
      rw [show stepF n w (.tuple (a :: r)) = if isS a "turn" then turnF n w r else if isS a "grow" then growF n w r else if isS a "shrink" then shrF n w r else (behF n w a r).map fun v => (n, v) from rfl]
      array_get_dec
      refine w_ifF rfl ?_
      array_get_dec
      refine w_atT 0 rfl rfl ?_
      array_get_dec
      refine w_eqS oa ok_turn ?_
      array_get_dec
      refine w_ite (fun q => ?_) (fun q => ?_)
      · rw [q, if_pos rfl]
        array_get_dec
        refine w_iteD (fun c => ?_) (fun c => ?_)
        · obtain ⟨b, rfl⟩ : ∃ b, r = [b] := by
            match r, c with
            | [b], _ => exact ⟨b, rfl⟩
            | [], c => simp at c
            | _ :: _ :: _, c => simp at c; omega
          have gb : gd k b := hs.2 b (by simp)
          array_get_dec
          refine w_atT 1 rfl rfl ?_
          array_get_dec
          rw [sp_isletter (gd_no gb)]
          cases hb : okL n b with
          | false =>
            array_get_dec
            have e : turnF n w [b] = none := by
              cases b with
              | int x =>
                show (if x ≠ 0 ∧ (x.natAbs : Int) < n then _ else none) = none
                rw [if_neg]
                intro q
                simp only [okL] at hb
                exact absurd q (of_decide_eq_false hb)
              | _ => rfl
            rw [e]
            first | exact ⟨rfl, rfl⟩ | exact rfl
          | true =>
            cases b with
            | int x =>
              array_get_dec
              refine w_atT 1 rfl rfl ?_
              array_get_dec
              refine w_atT 1 rfl rfl ?_
              array_get_dec
              have e : turnF n w [.int x] = some (n, [-x] ++ w ++ [x]) := by
                show (if x ≠ 0 ∧ (x.natAbs : Int) < n then _ else none) = _
                rw [if_pos]
                simp only [okL] at hb
                exact of_decide_eq_true hb
              rw [e]
              first | exact ⟨congrArg O.dt (stD_eq rfl (by simp)), rfl⟩ | exact congrArg O.dt (stD_eq rfl (by simp))
            | _ => cases hb
        · array_get_dec
          rw [turnF_no fun x e => c (by rw [e]; rfl)]
          first | exact ⟨rfl, rfl⟩ | exact rfl
      rw [q, if_neg (by simp)]
      array_get_dec
      refine w_atT 0 rfl rfl ?_
      array_get_dec
      refine w_eqS oa ok_grow ?_
      array_get_dec
      refine w_ite (fun q => ?_) (fun q => ?_)
      · rw [q, if_pos rfl]
        array_get_dec
        refine w_iteD (fun c => ?_) (fun c => ?_)
        · obtain ⟨b, rfl⟩ : ∃ b, r = [b] := by
            match r, c with
            | [b], _ => exact ⟨b, rfl⟩
            | [], c => simp at c
            | _ :: _ :: _, c => simp at c; omega
          have gb : gd k b := hs.2 b (by simp)
          array_get_dec
          refine w_atT 1 rfl rfl ?_
          array_get_dec
          rw [sp_isnum (gd_no gb)]
          cases hb : isI b with
          | false =>
            array_get_dec
            rw [growF_no fun x e => by cases e; cases hb]
            first | exact ⟨rfl, rfl⟩ | exact rfl
          | true =>
            obtain ⟨x, rfl⟩ := isI_int hb
            array_get_dec
            refine w_atT 1 rfl rfl ?_
            array_get_dec
            rw [abs_i]
            have e : growF n w [.int x] = if x.natAbs = 1 then some (n + 1, w ++ [x * n]) else none := rfl
            rw [e]
            refine w_iteD (fun c1 => ?_) (fun c1 => ?_)
            · array_get_dec
              refine w_atT 1 rfl rfl ?_
              array_get_dec
              try (refine ⟨.inl (by omega), ?_⟩; array_get_dec)
              rw [if_pos (by omega)]
              first | exact ⟨congrArg O.dt (stD_eq rfl (by simp)), rfl⟩ | exact congrArg O.dt (stD_eq rfl (by simp))
            · array_get_dec
              rw [if_neg (by omega)]
              first | exact ⟨rfl, rfl⟩ | exact rfl
        · array_get_dec
          rw [growF_no fun x e => c (by rw [e]; rfl)]
          first | exact ⟨rfl, rfl⟩ | exact rfl
      rw [q, if_neg (by simp)]
      array_get_dec
      refine w_atT 0 rfl rfl ?_
      array_get_dec
      refine w_eqS oa ok_shrink ?_
      array_get_dec
      refine w_ite (fun q => ?_) (fun q => ?_)
      · rw [q, if_pos rfl]
        array_get_dec
        refine w_iteD (fun c => ?_) (fun c => ?_)
        · have : r = [] := by
            cases r with
            | nil => rfl
            | cons _ _ => simp at c; omega
          subst this
          array_get_dec
          with_reducible refine w_okS (sp_shrink hn hl) ?_
          array_get_dec
          rw [show shrF n w [] = if shrk n w = true then some (n - 1, w.dropLast) else none from rfl]
          refine w_ite (fun q => ?_) (fun q => ?_)
          · rw [q]
            array_get_dec
            first | exact ⟨congrArg O.dt (stD_eq rfl cut_drop), rfl⟩ | exact congrArg O.dt (stD_eq rfl cut_drop)
          · rw [q]
            array_get_dec
            first | exact ⟨rfl, rfl⟩ | exact rfl
        · array_get_dec
          have e : shrF n w r = none := by
            cases r with
            | nil => exact absurd rfl c
            | cons _ _ => rfl
          rw [e]
          first | exact ⟨rfl, rfl⟩ | exact rfl
      rw [q, if_neg (by simp)]
      array_get_dec
      with_reducible refine w_okS (sp_try hs hk hl) ?_
      array_get_dec
      rw [show tryF n w (.tuple (a :: r)) = behF n w a r from rfl]
      cases behF n w a r with
      | none =>
        array_get_dec
        first | exact ⟨rfl, rfl⟩ | exact rfl
      | some v =>
        rw [show bo (some v) = O.dt (.bool true) from rfl, show (some v).getD w = v from rfl]
        array_get_dec
        first | exact ⟨rfl, rfl⟩ | exact rfl
  | _ =>
    array_get_dec
    first | exact ⟨rfl, rfl⟩ | exact rfl

/-! ### what the law draws -/
def GL (k : Nat) (ds : List D) : Prop := ∀ e ∈ ds, gd k e
theorem GL.nil {k : Nat} : GL k [] := fun e he => by cases he
theorem GL.cons {k : Nat} {d : D} {ds : List D} (h : gd k d) (g : GL k ds) : GL k (d :: ds) := fun e he => by
  rcases List.mem_cons.mp he with rfl | he
  · exact h
  · exact g e he
theorem GL.app {k : Nat} {ds es : List D} (h : GL k ds) (g : GL k es) : GL k (ds ++ es) := fun e he => by
  rcases List.mem_append.mp he with he | he
  · exact h e he
  · exact g e he
theorem GL.mono {k : Nat} {ds : List D} (h : GL k ds) : GL (k + 1) ds := fun e he => gd_mono k e (h e he)
theorem gT {k : Nat} {ds : List D} (h : ds.length ≤ 16777216) (g : GL k ds) : gd (k + 1) (.tuple ds) := ⟨h, g⟩
theorem gLs {k : Nat} {ds : List D} (h : ds.length ≤ 16777216) (g : GL k ds) : gd (k + 1) (.list ds) := ⟨h, g⟩
theorem VD.w2 {n : Int} {ds : List D} (h : VD n ds) : ∃ w : List Int, ds = w.map .int ∧ Wd2 n w ∧ w.length = ds.length := by
  obtain ⟨w, rfl, hw⟩ := h.ints
  exact ⟨w, rfl, hw, by simp⟩
theorem VD.one {n x : Int} (h1 : x ≠ 0) (h2 : (x.natAbs : Int) < n) : VD n [.int x] := VD.cons h1 h2 VD.nil
theorem sgn_ok {n i s : Int} (hs : s = 1 ∨ s = -1) (h1 : 1 ≤ i) (h2 : i < n) : s * i ≠ 0 ∧ ((s * i).natAbs : Int) < n := by rcases hs with rfl | rfl <;> constructor <;> omega
theorem sgn_neg {n i s : Int} (hs : s = 1 ∨ s = -1) (h1 : 1 ≤ i) (h2 : i < n) : 0 - s * i ≠ 0 ∧ ((0 - s * i).natAbs : Int) < n := by rcases hs with rfl | rfl <;> constructor <;> omega
theorem sp_rich {o : O} {n m : Int} (h : PoolO o) (hn : 1 ≤ n) (hn8 : n ≤ 8) (h0 : 0 ≤ m) (hm : m ≤ 8) :
    Wp (r__law_rich [o, .dt (.int n), .dt (.int m)]) (fun r es => ∃ ds o', r = .dt (.list ds) ∧ es = [some o', none, none] ∧ VD n ds ∧ ds.length ≤ 24 ∧ PoolO o') XF := by
  refine u__law_rich ?_
  unfold b__law_rich
  array_get_dec
  have cnt : (m * if decide (1 < n) = true then 1 else 0) = if 1 < n then m else 0 := by by_cases c : 1 < n <;> simp [c]
  rw [cnt]
  try (refine ⟨by split <;> omega, ?_⟩; array_get_dec)
  refine for_rng (fun i E => ∃ ds o', E = [some o', some (.dt (.int n)), some (.dt (.int m)), some (.dt (.list ds)), none, none, none, none, none, none, none] ∧ VD n ds ∧ ds.length ≤ 3 * i ∧ PoolO o') ⟨[], o, rfl, VD.nil, by simp, h⟩ ?_ ?_
  · rintro i E hi ⟨ds, o1, rfl, g1, g2, g3⟩
    have n1 : 1 < n := by
      by_cases c : 1 < n
      · exact c
      · rw [if_neg c] at hi; simp at hi
    have i8 : i < 8 := by rw [if_pos n1] at hi; omega
    array_get_dec
    refine (sp_pick g3 (by decide)).monoF ?_
    rintro r es ⟨kd, o2, rfl, rfl, k0, k1, h2⟩
    array_get_dec
    refine (sp_pick h2 (by decide)).monoF ?_
    rintro r es ⟨v, o3, rfl, rfl, v0, v1, h3⟩
    array_get_dec
    refine sign_at v0 v1 fun s hs => ?_
    array_get_dec
    refine (sp_pick h3 (by decide)).monoF ?_
    rintro r es ⟨u1, o4, rfl, rfl, u10, u11, h4⟩
    array_get_dec
    refine (sp_pick h4 (by decide)).monoF ?_
    rintro r es ⟨u2, o5, rfl, rfl, u20, u21, h5⟩
    array_get_dec
    have bi := fmod_b u1 (m := n - 1) (by omega)
    have bj := fmod_b u2 (m := n - 1) (by omega)
    generalize ei : 1 + u1.fmod (n - 1) = a
    generalize ej : 1 + u2.fmod (n - 1) = b
    have cn2 : (if decide (a = n - 1) = true then (1 : Int) else 0) = if a = n - 1 then 1 else 0 := by by_cases c : a = n - 1 <;> simp [c]
    rw [cn2]
    generalize ec : (if a + 1 - 2 * (if a = n - 1 then 1 else 0) > 1 then a + 1 - 2 * (if a = n - 1 then 1 else 0) else 1) = c
    have a1 : 1 ≤ a ∧ a < n := by omega
    have b1 : 1 ≤ b ∧ b < n := by omega
    have c1 : 1 ≤ c ∧ c < n := by
      by_cases q : a = n - 1
      · rw [if_pos q] at ec
        split at ec <;> omega
      · rw [if_neg q] at ec
        split at ec <;> omega
    have pa := sgn_ok hs a1.1 a1.2
    have pb := sgn_ok hs b1.1 b1.2
    have pc := sgn_ok hs c1.1 c1.2
    have qa := sgn_neg hs a1.1 a1.2
    have qb := sgn_neg hs b1.1 b1.2
    have qc := sgn_neg hs c1.1 c1.2
    refine w_atAll k0 (by show kd < 8; exact k1) fun d hd => ?_
    have hd2 : ∃ es, d = .list es ∧ VD n es ∧ es.length ≤ 3 := by
      simp only [List.mem_append, List.mem_cons, List.not_mem_nil, or_false] at hd
      rcases hd with (rfl | rfl | rfl | rfl | rfl) | rfl | rfl | rfl
      · exact ⟨_, rfl, VD.one pa.1 pa.2, by simp⟩
      · exact ⟨_, rfl, VD.cons pa.1 pa.2 (VD.one qa.1 qa.2), by simp⟩
      · exact ⟨_, rfl, VD.cons pa.1 pa.2 (VD.one pb.1 pb.2), by simp⟩
      · exact ⟨_, rfl, VD.cons pa.1 pa.2 (VD.cons pc.1 pc.2 (VD.one pa.1 pa.2)), by simp⟩
      · exact ⟨_, rfl, VD.cons pa.1 pa.2 (VD.cons qc.1 qc.2 (VD.one pa.1 pa.2)), by simp⟩
      · exact ⟨_, rfl, VD.cons pa.1 pa.2 (VD.cons pc.1 pc.2 (VD.one qa.1 qa.2)), by simp⟩
      · exact ⟨_, rfl, VD.cons pa.1 pa.2 (VD.cons pb.1 pb.2 (VD.one pa.1 pa.2)), by simp⟩
      · exact ⟨_, rfl, VD.cons pa.1 pa.2 (VD.one qb.1 qb.2), by simp⟩
    clear hd
    obtain ⟨es, rfl, e1, e2⟩ := hd2
    array_get_dec
    exact ⟨_, _, rfl, g1.app e1, by simp; omega, h5⟩
  · rintro E ⟨ds, o1, rfl, g1, g2, g3⟩
    array_get_dec
    refine ⟨_, _, rfl, rfl, g1, ?_, g3⟩
    split at g2 <;> omega
theorem w_addT {P : D → Prop} {x : D} {xs ys : List D} (hl : xs.length + 1 + ys.length ≤ 16777216) (h : P (.tuple (x :: xs ++ ys))) : WO (pAdd (.tuple (x :: xs)) (.tuple ys)) P := by
  show WO (if xs.length + 1 + ys.length ≤ 16777216 then some (PyData.tuple (x :: xs ++ ys)) else none) P
  rw [if_pos hl]; exact h
/-! ### rows of steps -/
theorem Wd2.sub {n : Int} {w v : List Int} (h : Wd2 n w) (k : ∀ x ∈ v, x ∈ w) : Wd2 n v := fun x hx => h x (k x hx)
theorem behF_ok {n : Int} {w u : List Int} {a : D} {r : List D} (hw : Wd2 n w) (e : behF n w a r = some u) : Wd2 n u := by
  unfold behF at e
  split at e
  · next p =>
    have ht : ∀ x ∈ w.take p.toNat, x ∈ w := fun x hx => List.mem_of_mem_take hx
    have hd : ∀ x ∈ w.drop p.toNat, x ∈ w := fun x hx => List.mem_of_mem_drop hx
    split at e
    · split at e
      · unfold takeF at e
        split at e
        · next hq =>
          split at e
          · cases e
            refine hw.sub fun x hx => ?_
            rcases List.mem_append.mp hx with hx | hx
            · exact ht x hx
            · exact hd x (by rw [hq]; simp [hx])
          · cases e
        · cases e
      · split at e
        · unfold farF at e
          split at e
          · next hq =>
            split at e
            · cases e
              refine hw.sub fun x hx => ?_
              rcases List.mem_append.mp hx with hx | hx
              · exact ht x hx
              · exact hd x (by
                  rw [hq]
                  simp only [List.mem_cons] at hx ⊢
                  rcases hx with h | h | h
                  · exact .inr (.inl h)
                  · exact .inl h
                  · exact .inr (.inr h))
            · cases e
          · cases e
        · split at e
          · unfold nearF at e
            split at e
            · next hq =>
              split at e
              · cases e
                refine hw.sub fun x hx => ?_
                rcases List.mem_append.mp hx with hx | hx
                · exact ht x hx
                · exact hd x (by
                    rw [hq]
                    simp only [List.mem_cons] at hx ⊢
                    rcases hx with h | h | h | h
                    · exact .inr (.inl h)
                    · exact .inl h
                    · exact .inr (.inl h)
                    · exact .inr (.inr (.inr h)))
              · cases e
            · cases e
          · cases e
    · cases e
  · next p x =>
    split at e
    · unfold putF at e
      split at e
      · next hc =>
        cases e
        intro y hy
        rcases List.mem_append.mp hy with hy | hy
        · rcases List.mem_append.mp hy with hy | hy
          · exact hw y (List.mem_of_mem_take hy)
          · simp only [List.mem_cons, List.not_mem_nil, or_false] at hy
            rcases hy with rfl | rfl <;> constructor <;> omega
        · exact hw y (List.mem_of_mem_drop hy)
      · cases e
    · cases e
  · cases e
theorem stepF_ok {n : Int} {w : List Int} {s : D} {m : Int} {v : List Int} (hn : 1 ≤ n) (hw : Wd2 n w) (h : stepF n w s = some (m, v)) : 1 ≤ m ∧ Wd2 m v := by
  unfold stepF at h
  split at h
  · next a r =>
    split at h
    · unfold turnF at h
      split at h
      · split at h
        · next hc =>
          cases h
          refine ⟨hn, fun y hy => ?_⟩
          rcases List.mem_append.mp hy with hy | hy
          · rcases List.mem_append.mp hy with hy | hy
            · rw [List.mem_singleton.mp hy]; constructor <;> omega
            · exact hw y hy
          · rw [List.mem_singleton.mp hy]; exact hc
        · cases h
      · cases h
    · split at h
      · unfold growF at h
        split at h
        · next x =>
          split at h
          · next hc =>
            cases h
            refine ⟨by omega, fun y hy => ?_⟩
            rcases List.mem_append.mp hy with hy | hy
            · have := hw y hy; constructor <;> omega
            · rw [List.mem_singleton.mp hy]
              have : x = 1 ∨ x = -1 := by omega
              rcases this with rfl | rfl <;> constructor <;> omega
          · cases h
        · cases h
      · split at h
        · unfold shrF at h
          split at h
          · split at h
            · next hc =>
              cases h
              unfold shrk at hc
              split at hc
              · rw [Bool.and_eq_true, decide_eq_true_eq, List.all_eq_true] at hc
                refine ⟨by omega, fun y hy => ?_⟩
                have h1 := of_decide_eq_true (hc.2 y hy)
                exact ⟨(hw y (List.dropLast_subset _ hy)).1, h1⟩
              · cases hc
            · cases h
          · cases h
        · cases e : behF n w a r with
          | none => rw [e] at h; cases h
          | some u => rw [e] at h; cases h; exact ⟨hn, behF_ok hw e⟩
  · cases h
def stp1 (q : Int × List Int) (s : D) : Option (Int × List Int) := match stepF q.1 q.2 s with
  | none => none
  | some (m, v) => if 8 < m ∨ 400 < v.length then none else some (m, v)
def leadF (q : Int × List Int) : List D → Option (Int × List Int)
  | [] => some q
  | s :: r => (stp1 q s).bind fun q' => leadF q' r
theorem leadF_app (q : Int × List Int) (xs ys : List D) : leadF q (xs ++ ys) = (leadF q xs).bind fun q' => leadF q' ys := by
  induction xs generalizing q with
  | nil => rfl
  | cons s r ih =>
    show (stp1 q s).bind (fun q' => leadF q' (r ++ ys)) = ((stp1 q s).bind fun q' => leadF q' r).bind fun q' => leadF q' ys
    cases stp1 q s with
    | none => rfl
    | some q' => exact ih q'
/-- what a row in good order keeps -/
def GoodQ (q : Int × List Int) : Prop := 1 ≤ q.1 ∧ q.1 ≤ 8 ∧ Wd2 q.1 q.2 ∧ q.2.length ≤ 400
theorem stp1_ok {q q' : Int × List Int} {s : D} (h : GoodQ q) (e : stp1 q s = some q') : GoodQ q' := by
  unfold stp1 at e
  cases hs : stepF q.1 q.2 s with
  | none => rw [hs] at e; cases e
  | some p =>
    rw [hs] at e
    obtain ⟨m, v⟩ := p
    simp only at e
    split at e
    · cases e
    · next hc =>
      cases e
      obtain ⟨h1, h2⟩ := stepF_ok h.1 h.2.2.1 hs
      exact ⟨h1, by show m ≤ 8; omega, h2, by show v.length ≤ 400; omega⟩
theorem leadF_ok {q q' : Int × List Int} {ss : List D} (h : GoodQ q) (e : leadF q ss = some q') : GoodQ q' := by
  induction ss generalizing q with
  | nil => cases e; exact h
  | cons s r ih =>
    have e : ((stp1 q s).bind fun q' => leadF q' r) = some q' := e
    cases hs : stp1 q s with
    | none => rw [hs] at e; cases e
    | some p => rw [hs] at e; exact ih (stp1_ok h hs) e
def leadB (n : Int) (w : List Int) (m : Int) (o : List Int) : D → Bool
  | .list ss => match leadF (n, w) ss with
    | some (a, v) => decide (a = m ∧ v = o)
    | none => false
  | _ => false
theorem leadB_list {n m : Int} {w o : List Int} {ss : List D} : leadB n w m o (.list ss) = match leadF (n, w) ss with
  | some (a, v) => decide (a = m ∧ v = o)
  | none => false := rfl
theorem take_snoc {ss : List D} {i : Nat} {d : D} (h : ss[i]? = some d) : ss.take (i + 1) = ss.take i ++ [d] := by rw [List.take_succ, h]; rfl
theorem leadF_stop {q p : Int × List Int} {ss : List D} {i : Nat} {d : D} (h : ss[i]? = some d) (e : leadF q (ss.take i) = some p) (f : stp1 p d = none) : leadF q ss = none := by
  have hl : i < ss.length := (List.getElem?_eq_some_iff.mp h).1
  have e1 : ss = ss.take (i + 1) ++ ss.drop (i + 1) := (List.take_append_drop _ _).symm
  rw [e1, leadF_app, take_snoc h, leadF_app, e]
  show ((leadF p [d]).bind _) = none
  show (((stp1 p d).bind fun q' => leadF q' []).bind _) = none
  rw [f]; rfl
theorem leadF_next {q p p' : Int × List Int} {ss : List D} {i : Nat} {d : D} (h : ss[i]? = some d) (e : leadF q (ss.take i) = some p) (f : stp1 p d = some p') : leadF q (ss.take (i + 1)) = some p' := by
  rw [take_snoc h, leadF_app, e]
  show ((stp1 p d).bind fun q' => leadF q' []) = some p'
  rw [f]; rfl
theorem eqv_pair {a m : Int} {v o : List Int} : PyData.eqv (.tuple [.int a, lI v]) (.tuple [.int m, lI o]) = decide (a = m ∧ v = o) := by
  unfold PyData.eqv PyData.eqvAll
  unfold PyData.eqvAll
  unfold PyData.eqvAll
  rw [eqv_I, eqv_ints]
  by_cases h1 : a = m <;> by_cases h2 : v = o <;> simp [h1, h2]
theorem okD_pair (a : Int) (v : List Int) : okD (.tuple [.int a, lI v]) = true := by
  have h := okL_ints v
  unfold okD SeqAt.shaped at h ⊢
  simp only [Bool.and_eq_true, decide_eq_true_eq] at h ⊢
  obtain ⟨⟨h1, h2⟩, h3⟩ := h
  have hd : (PyData.list (v.map .int)).depth ≤ 2 := by
    obtain ⟨_, g, _⟩ := shp_list (ds := v.map PyData.int) (k := 1) fun e he => by
      obtain ⟨x, _, rfl⟩ := List.mem_map.mp he
      exact ⟨by simp [PyData.canLay0], by simp [PyData.depth], by simp [plainD]⟩
    simp [PyData.depth]; omega
  refine ⟨⟨?_, ?_⟩, ?_⟩
  · simp [PyData.canLay0, PyData.canLayAll0] at h1 ⊢; exact h1
  · simp [PyData.depth, PyData.depthAll] at hd ⊢; omega
  · simp [plainD, plainDs] at h3 ⊢; exact h3
theorem w_eqP {P : D → Prop} {a m : Int} {v o : List Int} (h : P (.bool (decide (a = m ∧ v = o)))) : WO (pEq (.tuple [.int a, lI v]) (.tuple [.int m, lI o])) P := by
  rw [wo_eqD, eqv_pair]; exact ⟨⟨okD_pair a v, okD_pair m o⟩, h⟩
theorem sp_lead {n m : Int} {w o : List Int} {val : D} (hq : GoodQ (n, w)) (hv : gd 8 val) : r_lead_close [.dt (.int n), .dt (lI w), .dt (.int m), .dt (lI o), .dt val] = .ok (.dt (.bool (leadB n w m o val))) [none, none, none, none, none] := by
  refine wp_eq (u_lead_close ?_)
  unfold b_lead_close
  cases val with
  | dict _ => exact hv.elim
  | list ss =>
    array_get_dec
    refine for_at (fun i E => ∃ a v, leadF (n, w) (ss.take i) = some (a, v) ∧ E = [some (.dt (.int n)), some (.dt (lI w)), some (.dt (.int m)), some (.dt (lI o)), some (.dt (.list ss)), some (.dt (.tuple [.int a, lI v])), none]) ⟨n, w, rfl, rfl⟩ ?_ ?_
    · rintro i d E hd ⟨a, v, hl, rfl⟩
      have gq : 1 ≤ a ∧ a ≤ 8 ∧ Wd2 a v ∧ v.length ≤ 400 := leadF_ok hq hl
      have gdd : gd 7 d := hv.2 d (List.mem_of_getElem? hd)
      have g8 := gq.2.1
      have gl := gq.2.2.2
      array_get_dec
      refine w_atT 0 rfl rfl ?_
      array_get_dec
      refine w_atT 1 rfl rfl ?_
      array_get_dec
      with_reducible refine w_okS (sp_step gdd (by decide) gq.1 (by omega) (by omega)) ?_
      have es : stp1 (a, v) d = match stepF a v d with
        | none => none
        | some (m, v) => if 8 < m ∨ 400 < v.length then none else some (m, v) := rfl
      cases hs : stepF a v d with
      | none =>
        rw [hs] at es
        rw [show stD none = PyData.none from rfl]
        array_get_dec
        have : leadB n w m o (.list ss) = false := by
          rw [leadB_list]
          rw [leadF_stop hd hl es]
        rw [this]
        first | exact ⟨rfl, rfl⟩ | exact rfl | exact ⟨rfl, trivial⟩
      | some p =>
        obtain ⟨a', v'⟩ := p
        rw [hs] at es
        simp only at es
        rw [show stD (some (a', v')) = PyData.tuple [.int a', lI v'] from rfl]
        array_get_dec
        refine w_atT 0 rfl rfl ?_
        array_get_dec
        refine w_iteD (fun c => ?_) (fun c => ?_)
        · rw [if_pos (.inl c)] at es
          have : leadB n w m o (.list ss) = false := by
            rw [leadB_list]
            rw [leadF_stop hd hl es]
          rw [this]
          array_get_dec
          first | exact ⟨rfl, rfl⟩ | exact rfl | exact ⟨rfl, trivial⟩
        array_get_dec
        refine w_atT 1 rfl rfl ?_
        array_get_dec
        rw [List.length_map]
        refine w_iteD (fun c2 => ?_) (fun c2 => ?_)
        · rw [if_pos (.inr (by omega))] at es
          have : leadB n w m o (.list ss) = false := by
            rw [leadB_list]
            rw [leadF_stop hd hl es]
          rw [this]
          array_get_dec
          first | exact ⟨rfl, rfl⟩ | exact rfl | exact ⟨rfl, trivial⟩
        · rw [if_neg (by omega)] at es
          array_get_dec
          exact ⟨a', v', leadF_next hd hl es, rfl⟩
    · rintro E ⟨a, v, hl, rfl⟩
      rw [List.take_length] at hl
      array_get_dec
      refine w_eqP ?_
      have : leadB n w m o (.list ss) = decide (a = m ∧ v = o) := by
        rw [leadB_list]
        rw [hl]
      rw [this]
      array_get_dec
      first | exact ⟨rfl, rfl⟩ | exact rfl | exact ⟨rfl, trivial⟩
  | _ =>
    array_get_dec
    first | exact ⟨rfl, rfl⟩ | exact rfl | exact ⟨rfl, trivial⟩
theorem sp_leads {n m : Int} {w o : List Int} {val : D} (hq : GoodQ (n, w)) (hv : gd 8 val) : Wp (r__law_leads [.dt (.int n), .dt (lI w), .dt (.int m), .dt (lI o), .dt val]) (fun r es => r = .dt (.bool (leadB n w m o val)) ∧ es = [none, none, none, none, none]) XF := by
  refine u__law_leads ?_
  unfold b__law_leads
  cases val with
  | dict _ => exact hv.elim
  | list ss =>
    array_get_dec
    refine for_at (fun i E => ∃ a v, leadF (n, w) (ss.take i) = some (a, v) ∧ E = [some (.dt (.int a)), some (.dt (lI v)), some (.dt (.int m)), some (.dt (lI o)), some (.dt (.list ss)), none, none]) ⟨n, w, rfl, rfl⟩ ?_ ?_
    · rintro i d E hd ⟨a, v, hl, rfl⟩
      have gq : 1 ≤ a ∧ a ≤ 8 ∧ Wd2 a v ∧ v.length ≤ 400 := leadF_ok hq hl
      have gdd : gd 7 d := hv.2 d (List.mem_of_getElem? hd)
      have g8 := gq.2.1
      have gl := gq.2.2.2
      array_get_dec
      with_reducible refine w_okS (sp_stepped gdd (by decide) gq.1 (by omega) gq.2.2.1 (by omega)) ?_
      have es : stp1 (a, v) d = match stepF a v d with
        | none => none
        | some (m, v) => if 8 < m ∨ 400 < v.length then none else some (m, v) := rfl
      cases hs : stepF a v d with
      | none =>
        rw [hs] at es
        rw [show stD none = PyData.none from rfl]
        array_get_dec
        have : leadB n w m o (.list ss) = false := by
          rw [leadB_list]
          rw [leadF_stop hd hl es]
        rw [this]
        first | exact ⟨rfl, rfl⟩ | exact rfl | exact ⟨rfl, trivial⟩
      | some p =>
        obtain ⟨a', v'⟩ := p
        rw [hs] at es
        simp only at es
        rw [show stD (some (a', v')) = PyData.tuple [.int a', lI v'] from rfl]
        array_get_dec
        refine w_atT 0 rfl rfl ?_
        array_get_dec
        refine w_iteD (fun c => ?_) (fun c => ?_)
        · rw [if_pos (.inl c)] at es
          have : leadB n w m o (.list ss) = false := by
            rw [leadB_list]
            rw [leadF_stop hd hl es]
          rw [this]
          array_get_dec
          first | exact ⟨rfl, rfl⟩ | exact rfl | exact ⟨rfl, trivial⟩
        array_get_dec
        refine w_atT 1 rfl rfl ?_
        array_get_dec
        rw [List.length_map]
        refine w_iteD (fun c2 => ?_) (fun c2 => ?_)
        · rw [if_pos (.inr (by omega))] at es
          have : leadB n w m o (.list ss) = false := by
            rw [leadB_list]
            rw [leadF_stop hd hl es]
          rw [this]
          array_get_dec
          first | exact ⟨rfl, rfl⟩ | exact rfl | exact ⟨rfl, trivial⟩
        · rw [if_neg (by omega)] at es
          array_get_dec
          exact ⟨a', v', leadF_next hd hl es, rfl⟩
    · rintro E ⟨a, v, hl, rfl⟩
      rw [List.take_length] at hl
      have hb : leadB n w m o (.list ss) = decide (a = m ∧ v = o) := by
        rw [leadB_list]
        rw [hl]
      rw [hb]
      array_get_dec
      refine w_iteD (fun c => ?_) (fun c => ?_)
      · array_get_dec
        refine w_eqL (okL_ints _) (okL_ints _) ?_
        array_get_dec
        have : decide (a = m ∧ v = o) = decide (v = o) := by simp [c]
        rw [this]
        first | exact ⟨rfl, rfl⟩ | exact rfl | exact ⟨rfl, trivial⟩
      · array_get_dec
        have : decide (a = m ∧ v = o) = false := by simp [c]
        rw [this]
        first | exact ⟨rfl, rfl⟩ | exact rfl | exact ⟨rfl, trivial⟩
  | _ =>
    array_get_dec
    first | exact ⟨rfl, rfl⟩ | exact rfl | exact ⟨rfl, trivial⟩

/-! ### the judge -/
theorem are_ok {n w m o val : D} {b : Bool} (h1 : r_check_word [.dt n, .dt w] = .ok (.dt .none) [none, none]) (h2 : r_check_word [.dt m, .dt o] = .ok (.dt .none) [none, none])
    (h3 : r_lead_close [.dt n, .dt w, .dt m, .dt o, .dt val] = .ok (.dt (.bool b)) [none, none, none, none, none]) : r_are_close_steps [.dt n, .dt w, .dt m, .dt o, .dt val] = .ok (.dt (.bool b)) [none, none, none, none, none] := by
  refine wp_eq (u_are_close_steps ?_)
  unfold b_are_close_steps
  array_get_dec
  with_reducible refine w_okS h1 ?_
  array_get_dec
  with_reducible refine w_okS h2 ?_
  array_get_dec
  with_reducible refine w_okS h3 ?_
  array_get_dec
  first | exact ⟨rfl, rfl⟩ | exact rfl | exact ⟨rfl, trivial⟩
theorem are_exc1 {n w m o val : D} {c : Str} {fs : List (Str × D)} (h1 : r_check_word [.dt n, .dt w] = .exc c fs [none, none]) : r_are_close_steps [.dt n, .dt w, .dt m, .dt o, .dt val] = .exc c fs [none, none, none, none, none] := by
  refine wp_eqX (u_are_close_steps ?_)
  unfold b_are_close_steps
  array_get_dec
  rw [h1]
  array_get_dec
  first | exact ⟨rfl, rfl, rfl⟩ | exact rfl | exact ⟨rfl, rfl, trivial⟩
theorem are_exc2 {n w m o val : D} {c : Str} {fs : List (Str × D)} (h1 : r_check_word [.dt n, .dt w] = .ok (.dt .none) [none, none]) (h2 : r_check_word [.dt m, .dt o] = .exc c fs [none, none]) : r_are_close_steps [.dt n, .dt w, .dt m, .dt o, .dt val] = .exc c fs [none, none, none, none, none] := by
  refine wp_eqX (u_are_close_steps ?_)
  unfold b_are_close_steps
  array_get_dec
  with_reducible refine w_okS h1 ?_
  array_get_dec
  rw [h2]
  array_get_dec
  first | exact ⟨rfl, rfl, rfl⟩ | exact rfl | exact ⟨rfl, rfl, trivial⟩
theorem told_ok {n w m o val : D} {b : Bool} (h : r_are_close_steps [.dt n, .dt w, .dt m, .dt o, .dt val] = .ok (.dt (.bool b)) [none, none, none, none, none]) : r__law_told [.dt n, .dt w, .dt m, .dt o, .dt val] = .ok (.dt (.tuple [.str "told", .bool b])) [none, none, none, none, none] := by
  refine wp_eq (u__law_told ?_)
  unfold b__law_told
  refine w_try ?_
  array_get_dec
  with_reducible refine w_okS h ?_
  array_get_dec
  first | exact ⟨rfl, rfl⟩ | exact rfl | exact ⟨rfl, trivial⟩
theorem told_bad {n w m o val : D} {c : Str} {fs : List (Str × D)} {e : Er} (he : erX e = some (c, fs)) (h : r_are_close_steps [.dt n, .dt w, .dt m, .dt o, .dt val] = .exc c fs [none, none, none, none, none]) : r__law_told [.dt n, .dt w, .dt m, .dt o, .dt val] = .ok (.dt (refD e)) [none, none, none, none, none] := by
  obtain ⟨k1, k2, k3⟩ := ref_x he
  refine wp_eq (u__law_told ?_)
  unfold b__law_told
  refine w_try ?_
  array_get_dec
  rw [h]
  array_get_dec
  rw [k1]
  array_get_dec
  split
  · unfold refR
    simp only [k3, k2]
    array_get_dec
    first | exact ⟨rfl, rfl⟩ | exact rfl | exact ⟨rfl, trivial⟩
  · next h => exact absurd (Nat.le_of_ble_eq_true rfl) h
theorem erD_ne {e : Er} (h : e ≠ .ok) : erD e = .tuple [.str (nmE e), kpE e] := by
  cases e with
  | ok => exact absurd rfl h
  | _ => rfl
theorem gd_upto {d : D} {a b : Nat} (h : gd a d) (hab : a ≤ b) : gd b d := by
  induction b with
  | zero => have : a = 0 := by omega
            subst this; exact h
  | succ b ih =>
    by_cases e : a = b + 1
    · subst e; exact h
    · exact gd_mono b d (ih (by omega))
theorem gd_told {b : Bool} : gd 9 (.tuple [.str "told", .bool b]) := ⟨Nat.le_of_ble_eq_true rfl, fun e he => by
  rcases List.mem_cons.mp he with rfl | he
  · exact ok_told
  · rw [List.mem_singleton.mp he]; trivial⟩
theorem sp_right {n w m o val : D} (hn : gd 5 n) (hw : gd 5 w) (hm : gd 5 m) (ho : gd 5 o) (hv : gd 8 val) : r__law_is_right [.dt n, .dt w, .dt m, .dt o, .dt val] = .ok (.dt (.bool true)) [none, none, none, none, none] := by
  have wl : ∀ ds, w = .list ds → ds.length ≤ 16777216 := fun ds e => by subst e; exact hw.1
  have ol : ∀ ds, o = .list ds → ds.length ≤ 16777216 := fun ds e => by subst e; exact ho.1
  have fe := sp_first (gd_no hn) (gd_E hw) wl
  have fe2 := sp_first (gd_no hm) (gd_E ho) ol
  have w8 : gd 8 w := gd_upto hw (by decide)
  have o8 : gd 8 o := gd_upto ho (by decide)
  have cw := sp_copy 8 w w8
  have co := sp_copy 8 o o8
  have cv := sp_copy 8 val hv
  have gh : gd 9 (.list [w, o, val]) := ⟨Nat.le_of_ble_eq_true rfl, fun e he => by
    simp only [List.mem_cons, List.not_mem_nil, or_false] at he
    rcases he with rfl | rfl | rfl
    · exact w8
    · exact o8
    · exact hv⟩
  have sh := sp_same 9 _ gh
  -- what is due, what is told
  have key : ∀ T : D, gd 9 T → r__law_told [.dt n, .dt w, .dt m, .dt o, .dt val] = .ok (.dt T) [none, none, none, none, none] →
      (Wp ((mSeq (mSet 5 (mFz (mCall r__law_first_error (mArgD (mVar 0) (mArgD (mVar 1) (mArgD (mC (.int 400)) mNilA))))))
        (mSeq (mIfS (mB (m2 pIs (mVar 5) (mC .none))) (mSet 5 (mFz (mCall r__law_first_error (mArgD (mVar 2) (mArgD (mVar 3) (mArgD (mC (.int 400)) mNilA)))))) mNx)
        (mIfS (mB (m2 pIsNot (mVar 5) (mC .none))) (mSet 5 (mDisp .tuple (mArgD (mC (.str "refused")) (mArgD (mDisp .list (mArgD (m2 pIx (mVar 5) (mC (.int 0))) mNilA)) (mArgD (m2 pIx (mVar 5) (mC (.int 1))) mNilA))))) (mSet 5 (mDisp .tuple (mArgD (mC (.str "told")) (mArgD (mFz (mCall r__law_leads (mArgD (mVar 0) (mArgD (mVar 1) (mArgD (mVar 2) (mArgD (mVar 3) (mArgD (mVar 4) mNilA))))))) mNilA)))))))
        [some (.dt n), some (.dt w), some (.dt m), some (.dt o), some (.dt val), none, none, none]) (fun oo E => oo = .nx ∧ E = [some (.dt n), some (.dt w), some (.dt m), some (.dt o), some (.dt val), some (.dt T), none, none]) XF) →
      r__law_is_right [.dt n, .dt w, .dt m, .dt o, .dt val] = .ok (.dt (.bool true)) [none, none, none, none, none] := fun T gT_ ht hd => by
    have sT := sp_same 9 T gT_
    refine wp_eq (u__law_is_right ?_)
    unfold b__law_is_right
    have cut : ∀ {a b c d : M Out} {E : En} {Q : Out → En → Prop} {X : Str → List (Str × D) → En → Prop}, Wp (mSeq (mSeq a (mSeq b c)) d E) Q X → Wp (mSeq a (mSeq b (mSeq c d)) E) Q X := fun {a b c d E Q X} h => by
      rw [wp_seq] at h
      rw [wp_seq] at h
      rw [wp_seq]
      refine Wp.mono h (fun oo E1 h1 => ?_) fun _ _ _ h => h
      cases oo with
      | nx =>
        replace h1 : Wp (mSeq b c E1) _ _ := h1
        show Wp (mSeq b (mSeq c d) E1) Q X
        rw [wp_seq] at h1
        rw [wp_seq]
        refine Wp.mono h1 (fun oo2 E2 h2 => ?_) fun _ _ _ h => h
        cases oo2 with
        | nx =>
          replace h2 : Wp (c E2) _ _ := h2
          show Wp (mSeq c d E2) Q X
          rw [wp_seq]
          exact h2
        | _ => exact h2
      | _ => exact h1
    refine cut (seq_to hd fun E hE => ?_)
    subst hE
    array_get_dec
    with_reducible refine w_okS cw ?_
    array_get_dec
    with_reducible refine w_okS co ?_
    array_get_dec
    with_reducible refine w_okS cv ?_
    array_get_dec
    refine w_atD 0 rfl rfl ?_
    array_get_dec
    refine w_atD 1 rfl rfl ?_
    array_get_dec
    refine w_atD 2 rfl rfl ?_
    array_get_dec
    with_reducible refine w_okS ht ?_
    array_get_dec
    with_reducible refine w_okS sT ?_
    array_get_dec
    with_reducible refine w_okS sh ?_
    array_get_dec
    first | exact ⟨rfl, rfl⟩ | exact rfl | exact ⟨rfl, trivial⟩
  by_cases e1 : er n w = .ok
  · have hc1 := chk_ok (gd_no hn) (gd_E hw) e1
    rw [e1] at fe
    by_cases e2 : er m o = .ok
    · have hc2 := chk_ok (gd_no hm) (gd_E ho) e2
      rw [e2] at fe2
      obtain ⟨n', ws, rfl, rfl, a1, a8, av, al⟩ := er_inv e1
      obtain ⟨m', os, rfl, rfl, b1, b8, bv, bl⟩ := er_inv e2
      have gq : GoodQ ((n' : Int), ws) := ⟨by show (1 : Int) ≤ n'; omega, by show (n' : Int) ≤ 8; omega, fun x hx => by have := av x hx; constructor <;> omega, al⟩
      refine key (.tuple [.str "told", .bool (leadB n' ws m' os val)]) gd_told (told_ok (are_ok hc1 hc2 (sp_lead gq hv))) ?_
      array_get_dec
      with_reducible refine w_okS fe ?_
      rw [show erD .ok = PyData.none from rfl]
      array_get_dec
      with_reducible refine w_okS fe2 ?_
      rw [show erD .ok = PyData.none from rfl]
      array_get_dec
      refine (sp_leads gq hv).monoF ?_
      rintro r es ⟨rfl, rfl⟩
      array_get_dec
      first | exact ⟨rfl, rfl⟩ | exact rfl | exact ⟨rfl, trivial⟩
    · have hx : ∃ c fs, erX (er m o) = some (c, fs) := by
        cases e : er m o with
        | ok => exact absurd e e2
        | _ => exact ⟨_, _, rfl⟩
      obtain ⟨c, fs, hx⟩ := hx
      have hc2 := chk_exc (gd_no hm) (gd_E ho) hx
      rw [erD_ne e2] at fe2
      refine key (refD (er m o)) (gd_upto (gd_ref _) (by decide)) (told_bad hx (are_exc2 hc1 hc2)) ?_
      array_get_dec
      with_reducible refine w_okS fe ?_
      rw [show erD .ok = PyData.none from rfl]
      array_get_dec
      with_reducible refine w_okS fe2 ?_
      array_get_dec
      refine w_atT 0 rfl rfl ?_
      array_get_dec
      refine w_atT 1 rfl rfl ?_
      array_get_dec
      first | exact ⟨rfl, rfl⟩ | exact rfl | exact ⟨rfl, trivial⟩
  · have hx : ∃ c fs, erX (er n w) = some (c, fs) := by
      cases e : er n w with
      | ok => exact absurd e e1
      | _ => exact ⟨_, _, rfl⟩
    obtain ⟨c, fs, hx⟩ := hx
    have hc1 := chk_exc (gd_no hn) (gd_E hw) hx
    rw [erD_ne e1] at fe
    refine key (refD (er n w)) (gd_upto (gd_ref _) (by decide)) (told_bad hx (are_exc1 hc1)) ?_
    array_get_dec
    with_reducible refine w_okS fe ?_
    array_get_dec
    refine w_atT 0 rfl rfl ?_
    array_get_dec
    refine w_atT 1 rfl rfl ?_
    array_get_dec
    first | exact ⟨rfl, rfl⟩ | exact rfl | exact ⟨rfl, trivial⟩

/-- a step as the law draws it: a name, whole numbers -/
def StepI (d : D) : Prop := ∃ (z : Str) (r : List Int), d = .tuple (.str z :: r.map .int) ∧ r.length ≤ 2 ∧ okD (.str z) = true
theorem StepI.gl {d : D} (h : StepI d) : ∃ z r, d = .tuple (.str z :: r) ∧ r.length ≤ 2 ∧ GL 1 (.str z :: r) := by
  obtain ⟨z, r, rfl, h1, h2⟩ := h
  refine ⟨z, _, rfl, by simpa using h1, GL.cons (show okD _ = true from h2) fun e he => ?_⟩
  obtain ⟨x, _, rfl⟩ := List.mem_map.mp he
  trivial
theorem StepI.gd2 {d : D} (h : StepI d) : gd 2 d := by
  obtain ⟨z, r, rfl, h1, h2⟩ := h.gl
  exact gT (by simp; omega) h2
def nmS : D → Str
  | .str z => z
  | _ => ""
def nmI : D → Int
  | .int y => y
  | _ => 0
theorem sp_some {o : O} {n : Int} {w : List Int} (h : PoolO o) (hn : 1 ≤ n) (hw : nz w) (hl : w.length ≤ 400) :
    Wp (r__law_some_step [o, .dt (.int n), .dt (lI w)]) (fun r es => ∃ d o', r = .dt d ∧ es = [some o', none, none] ∧ StepI d ∧ PoolO o') XF := by
  refine u__law_some_step ?_
  unfold b__law_some_step
  array_get_dec
  refine (sp_pick h (by decide)).monoF ?_
  rintro r es ⟨kd, o1, rfl, rfl, k0, k1, h1⟩
  array_get_dec
  refine (sp_pick h1 (by decide)).monoF ?_
  rintro r es ⟨v, o2, rfl, rfl, v0, v1, h2⟩
  array_get_dec
  refine sign_at v0 v1 fun s hs => ?_
  array_get_dec
  refine (sp_pick h2 (by decide)).monoF ?_
  rintro r es ⟨i, o3, rfl, rfl, i0, i1, h3⟩
  array_get_dec
  refine (sp_pick h3 (by decide)).monoF ?_
  rintro r es ⟨a1, o4, rfl, rfl, a10, a11, h4⟩
  array_get_dec
  refine (sp_pick h4 (by decide)).monoF ?_
  rintro r es ⟨a2, o5, rfl, rfl, a20, a21, h5⟩
  array_get_dec
  generalize (1 + i.fmod (if n - 1 > 1 then n - 1 else 1)) * s = x
  rw [List.length_map]
  have hp := fmod_b (a1 * 60 + a2) (m := (w.length : Int) + 1) (by omega)
  generalize (a1 * 60 + a2).fmod ((w.length : Int) + 1) = at_ at hp
  refine w_iteD (fun c => ?_) (fun c => ?_)
  · array_get_dec
    exact ⟨_, _, rfl, rfl, ⟨"turn", [x], rfl, by simp, ok_turn⟩, h5⟩
  array_get_dec
  refine w_iteD (fun c => ?_) (fun c => ?_)
  · array_get_dec
    exact ⟨_, _, rfl, rfl, ⟨"grow", [s], rfl, by simp, ok_grow⟩, h5⟩
  array_get_dec
  refine w_iteD (fun c => ?_) (fun c => ?_)
  · array_get_dec
    exact ⟨_, _, rfl, rfl, ⟨"shrink", [], rfl, by simp, ok_shrink⟩, h5⟩
  array_get_dec
  refine w_iteD (fun c => ?_) (fun c => ?_)
  · array_get_dec
    exact ⟨_, _, rfl, rfl, ⟨"put", [at_, x], rfl, by simp, ok_put⟩, h5⟩
  array_get_dec
  refine w_atAll (by omega) (by show kd - 8 < 4; omega) fun nm hnm => ?_
  have gnm : nm = .str (nmS nm) ∧ okD (.str (nmS nm)) = true := by
    simp only [List.mem_cons, List.not_mem_nil, or_false] at hnm
    rcases hnm with rfl | rfl | rfl | rfl
    · exact ⟨rfl, ok_take⟩
    · exact ⟨rfl, ok_far⟩
    · exact ⟨rfl, ok_near⟩
    · exact ⟨rfl, ok_near⟩
  have g3 : gd 3 nm := by rw [gnm.1]; exact gnm.2
  array_get_dec
  rw [List.length_map, Int.toNat_natCast]
  refine lc_at (fun i acc E => ∃ held : List Int, acc = (held.map PyData.int).map .dt ∧ held.length ≤ i ∧ E = [some o5, some (.dt (.int n)), some (.dt (lI w)), some (.dt nm), none, some (.dt (.int kd)), some (.dt (.int s)), some (.dt (.int x)), some (.dt (.int at_)), none]) ⟨[], rfl, by simp, rfl⟩ (by rw [rangeD_len]; omega) ?_ ?_
  · rintro i d acc E hd hle ⟨held, rfl, hh, rfl⟩
    have e2 : ∃ j : Int, d = .int j := by
      unfold rangeD at hd
      rw [List.getElem?_map] at hd
      cases e : (List.range w.length)[i]? with
      | none => rw [e] at hd; cases hd
      | some q => rw [e] at hd; exact ⟨_, (Option.some.inj hd).symm⟩
    obtain ⟨j, rfl⟩ := e2
    array_get_dec
    have gs : gd 4 (.tuple [nm, .int j]) := gT (Nat.le_of_ble_eq_true rfl) (GL.cons g3 (GL.cons trivial GL.nil))
    with_reducible refine w_okS (sp_behind gs (by decide) hw (by omega)) ?_
    array_get_dec
    cases tryF n w (.tuple [nm, .int j]) with
    | none =>
      rw [show lO none = PyData.none from rfl]
      array_get_dec
      exact ⟨held, rfl, by omega, rfl⟩
    | some u =>
      rw [show lO (some u) = lI u from rfl]
      array_get_dec
      exact ⟨held ++ [j], by simp, by simp; omega, rfl⟩
  · rintro acc E ⟨held, rfl, hh, rfl⟩
    rw [rangeD_len] at hh
    array_get_dec
    try (refine ⟨by simp; omega, ?_⟩; array_get_dec)
    rw [List.length_map]
    have hq := fmod_b at_ (m := if (held.length : Int) > 1 then (held.length : Int) else 1) (by split <;> omega)
    refine w_atAll hq.1 (by have := hq.2; simp only [List.length_append, List.length_map, List.length_cons, List.length_nil]; split at this <;> omega) fun d hd => ?_
    have gd3 : d = .int (nmI d) := by
      rcases List.mem_append.mp hd with hd | hd
      · obtain ⟨y, _, rfl⟩ := List.mem_map.mp hd
        rfl
      · rw [List.mem_singleton.mp hd]; rfl
    array_get_dec
    exact ⟨_, _, rfl, rfl, ⟨nmS nm, [nmI d], by rw [gnm.1, gd3]; rfl, by simp, gnm.2⟩, h5⟩

theorem sp_closerow {o : O} {n k : Int} {w : List Int} (h : PoolO o) (hq : GoodQ (n, w)) (h0 : 0 ≤ k) (hk : k ≤ 30) :
    Wp (r__law_close_row [o, .dt (.int n), .dt (lI w), .dt (.int k)]) (fun r es => ∃ ss m v o', r = .dt (.tuple [.list ss, .int m, lI v]) ∧ es = [some o', none, none, none] ∧ leadF (n, w) ss = some (m, v) ∧ ss.length ≤ 30 ∧ (∀ s ∈ ss, StepI s) ∧ PoolO o') XF := by
  refine u__law_close_row ?_
  unfold b__law_close_row
  array_get_dec
  refine for_rng (fun i E => ∃ ss m v o', E = [some o', some (.dt (.int m)), some (.dt (lI v)), some (.dt (.int k)), some (.lst (ss.map .dt)), none, none, none] ∧ leadF (n, w) ss = some (m, v) ∧ ss.length ≤ i ∧ (∀ s ∈ ss, StepI s) ∧ PoolO o') ⟨[], n, w, o, rfl, rfl, by simp, by simp, h⟩ ?_ ?_
  · rintro i E hi ⟨ss, m, v, o1, rfl, g1, g2, g3, g4⟩
    have gq : 1 ≤ m ∧ m ≤ 8 ∧ Wd2 m v ∧ v.length ≤ 400 := leadF_ok hq g1
    refine w_bName ?_
    iterate 5 refine w_stES ?_
    refine w_stE0 ?_
    refine seq_to (R := fun E => ∃ o2 s, E = [some o2, some (.dt (.int m)), some (.dt (lI v)), some (.dt (.int k)), some (.lst (ss.map .dt)), some (.dt (.int (0 + (i : Nat)))), some (.dt s), none] ∧ StepI s ∧ PoolO o2) ?_ ?_
    · array_get_dec
      refine (sp_some g4 gq.1 (fun x hx => (gq.2.2.1 x hx).1) (by omega)).monoF ?_
      rintro r es ⟨s, o2, rfl, rfl, hs, h2⟩
      array_get_dec
      exact ⟨_, _, rfl, hs, h2⟩
    rintro E ⟨o2, s, rfl, hs, h2⟩
    have gs := hs.gd2
    have st := sp_stepped (k := 1) gs (by decide) gq.1 (by omega) gq.2.2.1 (by omega)
    refine seq_eq (E1 := [some o2, some (.dt (.int m)), some (.dt (lI v)), some (.dt (.int k)), some (.lst (ss.map .dt)), some (.dt (.int (0 + (i : Nat)))), some (.dt s), some (.dt (stD (stepF m v s)))]) (wp_eq (by
      array_get_dec
      with_reducible refine w_okS st ?_
      array_get_dec
      first | exact ⟨rfl, rfl⟩ | exact rfl)) ?_
    cases hf : stepF m v s with
    | none =>
      rw [show stD none = PyData.none from rfl]
      array_get_dec
      exact ⟨_, _, _, _, rfl, g1, by omega, g3, h2⟩
    | some q =>
      obtain ⟨m', v'⟩ := q
      rw [show stD (some (m', v')) = PyData.tuple [.int m', lI v'] from rfl]
      array_get_dec
      refine w_atT 0 rfl rfl ?_
      array_get_dec
      refine w_iteD (fun c => ?_) (fun c => ?_)
      · array_get_dec
        refine w_atT 1 rfl rfl ?_
        array_get_dec
        rw [List.length_map]
        refine w_iteD (fun c2 => ?_) (fun c2 => ?_)
        · array_get_dec
          have e1 : stp1 (m, v) s = some (m', v') := by
            unfold stp1
            rw [hf]
            simp only
            rw [if_neg (by omega)]
          refine ⟨ss ++ [s], m', v', _, rfl, ?_, by simp; omega, fun s' hs' => ?_, h2⟩
          · rw [leadF_app, g1]
            show ((stp1 (m, v) s).bind fun q' => leadF q' []) = _
            rw [e1]; rfl
          · rcases List.mem_append.mp hs' with hs' | hs'
            · exact g3 s' hs'
            · rw [List.mem_singleton.mp hs']; exact hs
        · array_get_dec
          exact ⟨_, _, _, _, rfl, g1, by omega, g3, h2⟩
      · array_get_dec
        exact ⟨_, _, _, _, rfl, g1, by omega, g3, h2⟩
  · rintro E ⟨ss, m, v, o1, rfl, g1, g2, g3, g4⟩
    array_get_dec
    exact ⟨_, _, _, _, rfl, rfl, g1, by omega, g3, g4⟩

/-! ### other rows, other words -/
theorem w_slT {P : D → Prop} {xs : List D} {lo hi : Option Int} (h : P (.tuple (cutL xs lo hi))) : WO (pSl (.tuple xs) lo hi) P := by
  show WO (if HT.sIx xs.length 0 lo = 0 ∧ HT.sIx xs.length xs.length hi = xs.length then some (PyData.tuple xs) else some (.tuple (cutL xs lo hi))) P
  split
  · next c =>
    have e : cutL xs lo hi = xs := by
      unfold cutL
      rw [c.1, c.2]; simp
    rw [e] at h; exact h
  · exact h
theorem w_atT2 {P : D → Prop} {ds : List D} {i : Int} {d : D} (hd : atI ds i = some d) (h : P d) : WO (pIx (.tuple ds) (.int i)) P := by
  show WO (atI ds i) P
  rw [hd]; exact h
theorem GL.cut {k : Nat} {ds : List D} {lo hi : Option Int} (h : GL k ds) : GL k (cutL ds lo hi) := fun e he => h e (cutL_sub he)
theorem GL.up {a b : Nat} {ds : List D} (h : GL a ds) (hab : a ≤ b) : GL b ds := fun e he => gd_upto (h e he) hab
theorem GL.ints {k : Nat} (w : List Int) : GL (k + 1) (w.map .int) := fun e he => by
  obtain ⟨x, _, rfl⟩ := List.mem_map.mp he
  trivial
theorem sp_changed {o : O} {n : D} {st : D} (h : PoolO o) (hs : StepI st) : Wp (r__law_changed [o, .dt n, .dt st]) (fun r es => ∃ d o', r = .dt d ∧ es = [some o', none, none] ∧ gd 4 d ∧ PoolO o') XF := by
  have g2 := hs.gd2
  obtain ⟨z, r, rfl, hr, okz⟩ := hs
  have gz : gd 1 (.str z) := okz
  have g3 : gd 3 (.tuple (.str z :: r.map .int)) := gd_upto g2 (by decide)
  refine u__law_changed ?_
  unfold b__law_changed
  refine seq_to (R := fun E => ∃ o1 kd, E = [some o1, some (.dt n), some (.dt (.tuple (.str z :: r.map .int))), some (.dt (.int kd))] ∧ 0 ≤ kd ∧ kd < 9 ∧ PoolO o1) ?_ ?_
  · array_get_dec
    refine (sp_pick h (by decide)).monoF ?_
    rintro r es ⟨v, o1, rfl, rfl, v0, v1, h1⟩
    array_get_dec
    exact ⟨_, _, rfl, v0, v1, h1⟩
  rintro E ⟨o1, kd, rfl, k0, k9, h1⟩
  -- the last two kinds, and the mixed ones
  have tail : Wp ((mSeq (mIfS (mB (m2 pEq (mVar 3) (mC (.int 5)))) (mRetD (m2 pAdd (mDisp .tuple (mArgD (m2 pIx (mDisp .list (mArgD (mC (.str "turn")) (mArgD (mC (.str "grow")) (mArgD (mC (.str "take")) (mArgD (mC (.str "far")) (mArgD (mC (.str "near")) (mArgD (mC (.str "put")) mNilA))))))) (mFz (mCall r__law_pick (mArgS 0 (mArgD (mC (.int 6)) mNilA))))) mNilA)) (mSl (mVar 2) (mPart (mC (.int 1))) mNoPart))) mNx)
      (mSeq (mIfS (mB (m2 pEq (mVar 3) (mC (.int 6)))) (mRetD (mDisp .tuple (mArgD (mC (.str "shrink")) mNilA))) mNx)
      (mRetD (m2 pIx (mDisp .list (mArgD (mFz (mCallO cList (mArgD (mVar 2) mNilA))) (mArgD (m2 pAdd (mVar 2) (mDisp .tuple (mArgD (mC (.int 1)) mNilA))) (mArgD (mSl (mVar 2) mNoPart (mPart (m1 pNeg (mC (.int 1))))) (mArgD (mC .none) (mArgD (mDisp .tuple (mArgD (mVar 2) mNilA)) (mArgD (mDisp .tuple (mArgD (mC (.str "grow")) (mArgD (mC (.int 1)) mNilA))) mNilA))))))) (mFz (mCall r__law_pick (mArgS 0 (mArgD (mC (.int 6)) mNilA)))))))) [some o1, some (.dt n), some (.dt (.tuple (.str z :: r.map .int))), some (.dt (.int kd))])
      (finQ [true, false, false] fun r es => ∃ d o', r = .dt d ∧ es = [some o', none, none] ∧ gd 4 d ∧ PoolO o') (fun c fs E => WE (keepE [true, false, false] E) fun F => XF c fs F) := by
    have ga : GL 1 (PyData.str z :: r.map .int) := GL.cons gz (GL.ints r)
    have hlen : (PyData.str z :: r.map PyData.int).length ≤ 3 := by simp; omega
    have hc1 : (cutL (PyData.str z :: r.map PyData.int) (some 1) none).length ≤ 3 := Nat.le_trans cutL_len hlen
    have hc2 : (cutL (PyData.str z :: r.map PyData.int) none (some (-1))).length ≤ 3 := Nat.le_trans cutL_len hlen
    array_get_dec
    refine w_iteD (fun c => ?_) (fun c => ?_)
    · array_get_dec
      refine (sp_pick h1 (by decide)).monoF ?_
      rintro r2 es ⟨v, o2, rfl, rfl, v0, v1, h2⟩
      array_get_dec
      have gall : GL 1 [PyData.str "turn", .str "grow", .str "take", .str "far", .str "near", .str "put"] := by
        repeat' (first | exact GL.nil | refine GL.cons ?_ ?_ | (show okD _ = true; decide +kernel))
      refine w_atAll v0 v1 fun d hd => ?_
      have gdd := gall d hd
      array_get_dec
      refine w_slT ?_
      array_get_dec
      refine w_addT (by simp only [List.length_nil]; omega) ?_
      array_get_dec
      have gr : GL 1 (d :: [] ++ cutL (PyData.str z :: r.map PyData.int) (some 1) none) := GL.cons gdd ga.cut
      exact ⟨_, _, rfl, rfl, gT (by simp; omega) (gr.up (by decide)), h2⟩
    array_get_dec
    refine w_iteD (fun c => ?_) (fun c => ?_)
    · array_get_dec
      exact ⟨_, _, rfl, rfl, gT (Nat.le_of_ble_eq_true rfl) (GL.cons (show okD _ = true from ok_shrink) GL.nil), h1⟩
    array_get_dec
    refine w_addT (by simp; omega) ?_
    array_get_dec
    refine w_slT ?_
    array_get_dec
    refine (sp_pick h1 (by decide)).monoF ?_
    rintro r2 es ⟨v, o2, rfl, rfl, v0, v1, h2⟩
    array_get_dec
    have e1 : gd 4 (.list (PyData.str z :: r.map .int)) := gLs (by omega) (ga.up (by decide))
    have e2 : gd 4 (.tuple (PyData.str z :: r.map .int ++ [PyData.int 1])) := gT (by simp; omega) ((ga.app (GL.cons (k := 1) (d := .int 1) trivial GL.nil)).up (by decide))
    have e3 : gd 4 (.tuple (cutL (PyData.str z :: r.map .int) none (some (-1)))) := gT (by omega) (ga.cut.up (by decide))
    have e4 : gd 4 (.tuple [.tuple (PyData.str z :: r.map .int)]) := gT (Nat.le_of_ble_eq_true rfl) (GL.cons g3 GL.nil)
    have e5 : gd 4 (.tuple [.str "grow", .int 1]) := gT (Nat.le_of_ble_eq_true rfl) (GL.cons (show okD _ = true from ok_grow) (GL.cons trivial GL.nil))
    refine w_atAll v0 v1 fun d hd => ?_
    have gdd : gd 4 d := by
      simp only [List.mem_cons, List.not_mem_nil, or_false] at hd
      rcases hd with hd | hd | hd | hd | hd | hd
      · rw [hd]; exact e1
      · rw [hd]; exact e2
      · rw [hd]; exact e3
      · rw [hd]; trivial
      · rw [hd]; exact e4
      · rw [hd]; exact e5
    array_get_dec
    exact ⟨_, _, rfl, rfl, gdd, h2⟩
  match r, hr, tail with
  | [], _, tail =>
    refine seq_eq (E1 := [some o1, some (.dt n), some (.dt (.tuple [.str z])), some (.dt (.int kd))]) (wp_eq ?_) ?_
    · array_get_dec
      refine w_iteD (fun c => ?_) (fun c => ?_)
      · array_get_dec
        first | exact ⟨rfl, rfl⟩ | exact rfl
      · array_get_dec
        first | exact ⟨rfl, rfl⟩ | exact rfl
    refine seq_eq (E1 := [some o1, some (.dt n), some (.dt (.tuple [.str z])), some (.dt (.int kd))]) (wp_eq ?_) tail
    · array_get_dec
      refine w_iteD (fun c => ?_) (fun c => ?_)
      · array_get_dec
        first | exact ⟨rfl, rfl⟩ | exact rfl
      · array_get_dec
        first | exact ⟨rfl, rfl⟩ | exact rfl
  | x :: s, hr, tail =>
    have hr2 : s.length ≤ 1 := by simp at hr; omega
    have hc0 : (cutL (PyData.str z :: (x :: s).map PyData.int) (some 2) none).length ≤ 3 := Nat.le_trans cutL_len (by simp; omega)
    have ga : GL 1 (PyData.str z :: (x :: s).map .int) := GL.cons gz (GL.ints _)
    have hl : s = [] ∨ ∃ y, s = [y] := by
      match s, hr2 with
      | [], _ => exact .inl rfl
      | [y], _ => exact .inr ⟨y, rfl⟩
      | _ :: _ :: _, h => simp at h
    have fin : ∀ r : O, (∃ d, r = .dt d ∧ gd 4 d) → finQ [true, false, false] (fun r es => ∃ d o', r = .dt d ∧ es = [some o', none, none] ∧ gd 4 d ∧ PoolO o') (.rt r) [some o1, some (.dt n), some (.dt (.tuple (.str z :: (x :: s).map .int))), some (.dt (.int kd))] := fun r hr => by
      obtain ⟨d, rfl, hd⟩ := hr
      exact ⟨d, o1, rfl, rfl, hd, h1⟩
    refine seq_same (G := fun r => ∃ d, r = .dt d ∧ gd 4 d) ?_ (seq_same (G := fun r => ∃ d, r = .dt d ∧ gd 4 d) ?_ tail fin) fin
    · array_get_dec
      refine w_iteD (fun c => ?_) (fun c => ?_)
      · array_get_dec
        refine w_iteD (fun c2 => ?_) (fun c2 => absurd (by simp only [List.length_cons, List.length_map]; omega) c2)
        array_get_dec
        refine w_atT 0 rfl rfl ?_
        array_get_dec
        refine w_atT 1 rfl rfl ?_
        array_get_dec
        refine w_atAll (by omega) (by show kd < 3; omega) fun d hd => ?_
        have hdi : d = .int (nmI d) := by
          simp only [List.mem_cons, List.not_mem_nil, or_false] at hd
          rcases hd with hd | hd | hd <;> rw [hd] <;> rfl
        rw [hdi]
        array_get_dec
        refine w_slT ?_
        refine w_addT (by simp only [List.length_cons, List.length_nil]; omega) ?_
        array_get_dec
        have gr : GL 1 (PyData.str z :: [PyData.int (x + nmI d)] ++ cutL (PyData.str z :: (x :: s).map PyData.int) (some 2) none) := GL.cons gz (GL.cons (d := .int (x + nmI d)) trivial ga.cut)
        exact .inr ⟨_, rfl, _, rfl, gT (by simp only [List.length_append, List.length_cons, List.length_nil]; omega) (gr.up (by decide))⟩
      · array_get_dec
        exact .inl rfl
    · array_get_dec
      refine w_iteD (fun c => ?_) (fun c => ?_)
      · array_get_dec
        refine w_iteD (fun c2 => ?_) (fun c2 => absurd (by simp only [List.length_cons, List.length_map]; omega) c2)
        array_get_dec
        refine w_slT ?_
        rcases hl with hl | ⟨y, hl⟩
        · rw [hl]
          rw [show cutL (PyData.str z :: List.map PyData.int [x]) none (some (-1)) = [PyData.str z] from rfl]
          array_get_dec
          refine w_atT2 (d := .int x) (by rfl) ?_
          array_get_dec
          refine w_addT (by simp) ?_
          array_get_dec
          exact .inr ⟨_, rfl, _, rfl, gT (Nat.le_of_ble_eq_true rfl) ((GL.cons gz (GL.cons (k := 1) (d := .int (0 - x)) trivial GL.nil)).up (by decide))⟩
        · rw [hl]
          rw [show cutL (PyData.str z :: List.map PyData.int [x, y]) none (some (-1)) = [PyData.str z, .int x] from rfl]
          array_get_dec
          refine w_atT2 (d := .int y) (by rfl) ?_
          array_get_dec
          refine w_addT (by simp) ?_
          array_get_dec
          exact .inr ⟨_, rfl, _, rfl, gT (Nat.le_of_ble_eq_true rfl) ((GL.cons gz (GL.cons (k := 1) (d := .int x) trivial (GL.cons (k := 1) (d := .int (0 - y)) trivial GL.nil))).up (by decide))⟩
      · array_get_dec
        exact .inl rfl


theorem GL.stepI {ss : List D} (h : ∀ s ∈ ss, StepI s) : GL 2 ss := fun e he => (h e he).gd2
theorem sp_otherrow {o : O} {n : Int} {w : List Int} {ss : List D} {kd : Int} (h : PoolO o) (hs : ∀ s ∈ ss, StepI s) (hl : ss.length ≤ 30) (hw : w.length ≤ 400) :
    Wp (r__law_other_row [o, .dt (.int n), .dt (lI w), .dt (.list ss), .dt (.int kd)]) (fun r es => ∃ d o', r = .dt d ∧ es = [some o', none, none, none, none] ∧ gd 8 d ∧ PoolO o') XF := by
  have gs : GL 4 ss := (GL.stepI hs).up (by decide)
  have cl : ∀ lo hi, (cutL ss lo hi).length ≤ 30 := fun lo hi => Nat.le_trans cutL_len hl
  have fin : ∀ (xs : List D), GL 4 xs → xs.length ≤ 1000 → gd 8 (.list xs) := fun xs g l => gd_upto (gLs (by omega) g) (by decide)
  refine u__law_other_row ?_
  unfold b__law_other_row
  refine seq_to (R := fun E => ∃ o1 at_, E = [some o1, some (.dt (.int n)), some (.dt (lI w)), some (.dt (.list ss)), some (.dt (.int kd)), some (.dt (.int at_)), none] ∧ 0 ≤ at_ ∧ at_ ≤ ss.length ∧ PoolO o1) ?_ ?_
  · array_get_dec
    refine (sp_pick h (by decide)).monoF ?_
    rintro r es ⟨v, o1, rfl, rfl, v0, v1, h1⟩
    array_get_dec
    have := fmod_b v (m := (ss.length : Int) + 1) (by omega)
    exact ⟨_, _, rfl, this.1, by omega, h1⟩
  rintro E ⟨o1, at_, rfl, a0, a1, h1⟩
  refine seq_to (R := fun E => ∃ o1 s, E = [some o1, some (.dt (.int n)), some (.dt (lI w)), some (.dt (.list ss)), some (.dt (.int kd)), some (.dt (.int at_)), some (.dt (.int s))] ∧ PoolO o1) ?_ ?_
  · array_get_dec
    refine (sp_pick h1 (by decide)).monoF ?_
    rintro r es ⟨v, o1, rfl, rfl, v0, v1, h1⟩
    array_get_dec
    refine sign_at v0 v1 fun s hs => ?_
    array_get_dec
    exact ⟨_, _, rfl, h1⟩
  clear h1
  rintro E ⟨o1, s, rfl, h1⟩
  have q1 := cl none (some at_)
  have q2 := cl (some (at_ + 1)) none
  have q3 := cl none (some (at_ + 1))
  have q4 := cl (some at_) none
  have q5 := cl (some (at_ + 1)) (some (at_ + 2))
  have q6 := cl (some at_) (some (at_ + 1))
  have q7 := cl (some (at_ + 2)) none
  array_get_dec
  refine w_iteD (fun c => ?_) (fun c => ?_)
  · array_get_dec
    exact ⟨_, _, rfl, rfl, fin _ (gs.cut.app gs.cut) (by simp only [List.length_append]; omega), h1⟩
  array_get_dec
  refine w_iteD (fun c => ?_) (fun c => ?_)
  · array_get_dec
    exact ⟨_, _, rfl, rfl, fin _ (gs.cut.app gs.cut) (by simp only [List.length_append]; omega), h1⟩
  array_get_dec
  refine w_iteD (fun c => ?_) (fun c => ?_)
  · array_get_dec
    exact ⟨_, _, rfl, rfl, fin _ (((gs.cut.app gs.cut).app gs.cut).app gs.cut) (by simp only [List.length_append]; omega), h1⟩
  refine w_seq ?_
  refine w_ifS ?_
  refine Wp.mono (Q := fun k E1 => E1 = [some o1, some (.dt (.int n)), some (.dt (lI w)), some (.dt (.list ss)), some (.dt (.int kd)), some (.dt (.int at_)), some (.dt (.int s))] ∧ (k = true → at_ < ss.length)) (X := XF) ?_ ?_ (fun _ _ _ h => h.elim)
  · array_get_dec
    refine w_iteD (fun c => ?_) (fun c => ?_)
    · array_get_dec
      first | exact ⟨rfl, fun q => of_decide_eq_true q⟩ | exact fun q => of_decide_eq_true q
    · array_get_dec
      first | exact ⟨rfl, fun q => by cases q⟩ | exact fun q => by cases q
  rintro k E1 ⟨rfl, hk⟩
  refine w_ite (fun q => ?_) (fun q => ?_)
  · have ha := hk q
    have hd : ss[at_.toNat]? = some (ss[at_.toNat]'(by omega)) := List.getElem?_eq_getElem (by omega)
    have hst := hs _ (List.mem_of_getElem? hd)
    array_get_dec
    refine w_atD at_.toNat (by omega) hd ?_
    array_get_dec
    refine (sp_changed h1 hst).monoF ?_
    rintro r es ⟨d, o2, rfl, rfl, gdd, h2⟩
    array_get_dec
    exact ⟨_, _, rfl, rfl, fin _ ((gs.cut.app (GL.cons gdd GL.nil)).app gs.cut) (by simp only [List.length_append, List.length_cons, List.length_nil]; omega), h2⟩
  array_get_dec
  refine w_iteD (fun c => ?_) (fun c => ?_)
  · array_get_dec
    exact ⟨_, _, rfl, rfl, fin _ ((gs.cut.app (by repeat' (first | exact GL.nil | refine GL.cons ?_ ?_ | refine gT (Nat.le_of_ble_eq_true rfl) ?_ | refine gLs (Nat.le_of_ble_eq_true rfl) ?_ | exact trivial | (show okD _ = true; decide +kernel)))).app gs.cut) (by simp only [List.length_append, List.length_cons, List.length_nil]; omega), h1⟩
  array_get_dec
  refine w_iteD (fun c => ?_) (fun c => ?_)
  · array_get_dec
    exact ⟨_, _, rfl, rfl, fin _ ((gs.cut.app (by repeat' (first | exact GL.nil | refine GL.cons ?_ ?_ | refine gT (Nat.le_of_ble_eq_true rfl) ?_ | refine gLs (Nat.le_of_ble_eq_true rfl) ?_ | exact trivial | (show okD _ = true; decide +kernel)))).app gs.cut) (by simp only [List.length_append, List.length_cons, List.length_nil]; omega), h1⟩
  array_get_dec
  refine w_iteD (fun c => ?_) (fun c => ?_)
  · array_get_dec
    exact ⟨_, _, rfl, rfl, fin _ (GL.app (by repeat' (first | exact GL.nil | refine GL.cons ?_ ?_ | refine gT (Nat.le_of_ble_eq_true rfl) ?_ | refine gLs (Nat.le_of_ble_eq_true rfl) ?_ | exact trivial | (show okD _ = true; decide +kernel))) gs) (by simp only [List.length_append, List.length_cons, List.length_nil]; omega), h1⟩
  array_get_dec
  refine w_iteD (fun c => ?_) (fun c => ?_)
  · array_get_dec
    exact ⟨_, _, rfl, rfl, fin _ (gs.app (by repeat' (first | exact GL.nil | refine GL.cons ?_ ?_ | refine gT (Nat.le_of_ble_eq_true rfl) ?_ | refine gLs (Nat.le_of_ble_eq_true rfl) ?_ | exact trivial | (show okD _ = true; decide +kernel)))) (by simp only [List.length_append, List.length_cons, List.length_nil]; omega), h1⟩
  array_get_dec
  refine (sp_pick h1 (by decide)).monoF ?_
  rintro r es ⟨v, o2, rfl, rfl, v0, v1, h2⟩
  array_get_dec
  have e1 : gd 8 (.list ss.reverse) := fin _ (fun e he => gs e (List.mem_reverse.mp he)) (by simp; omega)
  have e2 : gd 8 (.list (cutL ss none (some at_))) := fin _ gs.cut (by omega)
  have e3 : gd 8 (.tuple ss) := gd_upto (gT (by omega) gs) (by decide)
  have e4 : gd 8 (.list [.list ss]) := gd_upto (gLs (Nat.le_of_ble_eq_true rfl) (GL.cons (gLs (by omega) gs) GL.nil)) (by decide)
  have gall : GL 8 [PyData.list ss.reverse, .list (cutL ss none (some at_)), .tuple ss, .list [.list ss], .none, .bool true, .str "shrink", .int at_, .list [.none], .list [.list []], .list [.tuple []], .tuple []] := by
    refine GL.cons e1 (GL.cons e2 (GL.cons e3 (GL.cons e4 ?_)))
    repeat' (first | exact GL.nil | refine GL.cons ?_ ?_ | refine gT (Nat.le_of_ble_eq_true rfl) ?_ | refine gLs (Nat.le_of_ble_eq_true rfl) ?_ | exact trivial | (show okD _ = true; decide +kernel))
  refine w_atAll v0 v1 fun d hd => ?_
  have gdd := gall d hd
  array_get_dec
  exact ⟨_, _, rfl, rfl, gdd, h2⟩
theorem sp_otherword {o : O} {n : Int} {w : List Int} (h : PoolO o) (hn : 1 ≤ n) (hw : w.length ≤ 400) :
    Wp (r__law_other_word [o, .dt (.int n), .dt (lI w)]) (fun r es => ∃ d o', r = .dt d ∧ es = [some o', none, none] ∧ gd 5 d ∧ PoolO o') XF := by
  have gs : GL 4 (w.map PyData.int) := GL.ints w
  have hw2 : (w.map PyData.int).length ≤ 400 := by simpa using hw
  have cl : ∀ lo hi, (cutL (w.map PyData.int) lo hi).length ≤ 400 := fun lo hi => Nat.le_trans cutL_len hw2
  have fin : ∀ (xs : List D), GL 4 xs → xs.length ≤ 10000 → gd 5 (.list xs) := fun xs g l => gLs (by omega) g
  refine u__law_other_word ?_
  unfold b__law_other_word
  refine seq_to (R := fun E => ∃ o1 at_ lt, E = [some o1, some (.dt (.int n)), some (.dt (lI w)), none, some (.dt (.int at_)), some (.dt (.int lt))] ∧ 0 ≤ at_ ∧ PoolO o1) ?_ ?_
  · array_get_dec
    refine (sp_pick h (by decide)).monoF ?_
    rintro r es ⟨v, o1, rfl, rfl, v0, v1, h1⟩
    array_get_dec
    refine (sp_pick h1 (by decide)).monoF ?_
    rintro r es ⟨u, o2, rfl, rfl, u0, u1, h2⟩
    array_get_dec
    have := fmod_b v (m := ((w.map PyData.int).length : Int) + 1) (by omega)
    exact ⟨_, _, _, rfl, this.1, h2⟩
  rintro E ⟨o1, at_, lt, rfl, a0, h1⟩
  refine seq_to (R := fun E => ∃ o1 kd, E = [some o1, some (.dt (.int n)), some (.dt (lI w)), some (.dt (.int kd)), some (.dt (.int at_)), some (.dt (.int lt))] ∧ PoolO o1) ?_ ?_
  · array_get_dec
    refine (sp_pick h1 (by decide)).monoF ?_
    rintro r es ⟨v, o1, rfl, rfl, v0, v1, h1⟩
    array_get_dec
    exact ⟨_, _, rfl, h1⟩
  clear h1
  rintro E ⟨o1, kd, rfl, h1⟩
  have q1 := cl none (some at_)
  have q2 := cl (some (at_ + 1)) none
  have q3 := cl (some 1) none
  have q4 := cl none (some 1)
  have last : Wp (mRetD (m2 pAdd (mSl (mVar 2) (mPart (mC (.int 1))) mNoPart) (mSl (mVar 2) mNoPart (mPart (mC (.int 1))))) [some o1, some (.dt (.int n)), some (.dt (lI w)), some (.dt (.int kd)), some (.dt (.int at_)), some (.dt (.int lt))]) (finQ [true, false, false] fun r es => ∃ d o', r = .dt d ∧ es = [some o', none, none] ∧ gd 5 d ∧ PoolO o') (fun c fs E => WE (keepE [true, false, false] E) fun F => XF c fs F) := by
    array_get_dec
    exact ⟨_, _, rfl, rfl, fin _ (gs.cut.app gs.cut) (by simp only [List.length_append]; omega), h1⟩
  have fin2 : ∀ r : O, (∃ d, r = .dt d ∧ gd 5 d) → finQ [true, false, false] (fun r es => ∃ d o', r = .dt d ∧ es = [some o', none, none] ∧ gd 5 d ∧ PoolO o') (.rt r) [some o1, some (.dt (.int n)), some (.dt (lI w)), some (.dt (.int kd)), some (.dt (.int at_)), some (.dt (.int lt))] := fun r hr => by
    obtain ⟨d, rfl, hd⟩ := hr
    exact ⟨d, o1, rfl, rfl, hd, h1⟩
  refine seq_same (G := fun r => ∃ d, r = .dt d ∧ gd 5 d) ?_ (seq_same (G := fun r => ∃ d, r = .dt d ∧ gd 5 d) ?_ (seq_same (G := fun r => ∃ d, r = .dt d ∧ gd 5 d) ?_ last fin2) fin2) fin2
  · array_get_dec
    refine w_iteD (fun c => ?_) (fun c => ?_)
    · array_get_dec
      refine w_iteD (fun c2 => ?_) (fun c2 => ?_)
      · rw [List.length_map] at c2
        have hd : w[at_.toNat]? = some (w[at_.toNat]'(by omega)) := List.getElem?_eq_getElem (by omega)
        array_get_dec
        refine w_atI at_.toNat (by omega) hd ?_
        array_get_dec
        exact .inr ⟨_, rfl, _, rfl, fin _ ((gs.cut.app (GL.cons (d := .int (0 - w[at_.toNat]'(by omega))) trivial GL.nil)).app gs.cut) (by simp only [List.length_append, List.length_cons, List.length_nil]; omega)⟩
      · array_get_dec
        exact .inl rfl
    · array_get_dec
      exact .inl rfl
  · array_get_dec
    refine w_iteD (fun c => ?_) (fun c => ?_)
    · array_get_dec
      exact .inr ⟨_, rfl, _, rfl, fin _ (gs.cut.app gs.cut) (by simp only [List.length_append]; omega)⟩
    · array_get_dec
      exact .inl rfl
  · array_get_dec
    refine w_iteD (fun c => ?_) (fun c => ?_)
    · array_get_dec
      refine w_iteD (fun c2 => ?_) (fun c2 => ?_)
      · array_get_dec
        refine w_iteD (fun c3 => ?_) (fun c3 => ?_)
        · array_get_dec
          exact .inr ⟨_, rfl, _, rfl, fin _ (gs.app (GL.cons (d := .int lt) trivial GL.nil)) (by simp only [List.length_append, List.length_cons, List.length_nil]; omega)⟩
        · array_get_dec
          exact .inl rfl
      · array_get_dec
        exact .inl rfl
    · array_get_dec
      exact .inl rfl


theorem law_true0 (ns : List Int) (hn : ns.length ≤ 63) : ∃ es, r_law [sD ns] = .ok (.dt (.bool true)) es := by
  suffices h : Wp (r_law [sD ns]) (fun r es => r = .dt (.bool true)) XF by
    cases e : r_law [sD ns] with
    | ok r es => rw [e] at h; exact ⟨es, by rw [show r = _ from h]⟩
    | exc _ _ _ => rw [e] at h; exact h.elim
    | no => rw [e] at h; exact h.elim
  refine u_law ?_
  unfold b_law
  refine seq_to (R := fun E => ∃ o, E = [some (sD ns), some o, none, none, none, none, none, none, none, none, none, none] ∧ PoolO o) ?_ ?_
  · array_get_dec
    refine (sp_stream ns hn).monoF ?_
    rintro r es ⟨rfl, h0⟩
    array_get_dec
    exact ⟨_, rfl, h0⟩
  rintro E ⟨o, rfl, h0⟩
  refine seq_to (R := fun E => ∃ o, ∃ n : Int, E = [some (sD ns), some o, some (.dt (.int n)), none, none, none, none, none, none, none, none, none] ∧ 1 ≤ n ∧ n ≤ 8 ∧ PoolO o) ?_ ?_
  · array_get_dec
    refine (sp_pick h0 (by decide)).monoF ?_
    rintro r es ⟨v, o1, rfl, rfl, v0, v1, h1⟩
    array_get_dec
    refine w_atAll v0 v1 fun d hd => ?_
    have hd2 : ∃ n : Int, d = .int n ∧ 1 ≤ n ∧ n ≤ 8 := by
      simp only [List.mem_cons, List.not_mem_nil, or_false] at hd
      rcases hd with rfl | rfl | rfl | rfl | rfl | rfl | rfl | rfl <;> exact ⟨_, rfl, by decide, by decide⟩
    clear hd
    obtain ⟨n, rfl, n1, n8⟩ := hd2
    array_get_dec
    exact ⟨_, _, rfl, n1, n8, h1⟩
  rintro E ⟨o, n, rfl, n1, n8, h0⟩
  have gn : gd 5 (.int n) := trivial
  refine seq_to (R := fun E => ∃ o ds, E = [some (sD ns), some o, some (.dt (.int n)), some (.dt (.list ds)), none, none, none, none, none, none, none, none] ∧ VD n ds ∧ ds.length ≤ 24 ∧ PoolO o) ?_ ?_
  · array_get_dec
    refine (sp_pick h0 (by decide)).monoF ?_
    rintro r es ⟨v, o1, rfl, rfl, v0, v1, h1⟩
    array_get_dec
    refine (sp_rich h1 n1 n8 v0 (by omega)).monoF ?_
    rintro r es ⟨ds, o2, rfl, rfl, d1, d2, h2⟩
    array_get_dec
    exact ⟨_, _, rfl, d1, d2, h2⟩
  rintro E ⟨o, ds, rfl, d1, d2, h0⟩
  refine seq_to (R := fun E => ∃ o ds, E = [some (sD ns), some o, some (.dt (.int n)), some (.dt (.list ds)), none, none, none, none, none, none, none, none] ∧ VD n ds ∧ ds.length ≤ 400 ∧ PoolO o) ?_ ?_
  · array_get_dec
    refine (sp_pick h0 (by decide)).monoF ?_
    rintro r es ⟨v, o1, rfl, rfl, v0, v1, h1⟩
    array_get_dec
    refine w_iteD (fun c => ?_) (fun c => ?_)
    · array_get_dec
      refine w_iteD (fun c2 => ?_) (fun c2 => ?_)
      · array_get_dec
        refine (sp_pick h1 (by decide)).monoF ?_
        rintro r es ⟨u, o2, rfl, rfl, u0, u1, h2⟩
        array_get_dec
        have bx : (if n - 2 > 1 then n - 2 else 1) ≠ 0 ∧ ((if n - 2 > 1 then n - 2 else 1).natAbs : Int) < n := by split <;> omega
        generalize (if n - 2 > 1 then n - 2 else 1) = x at bx
        rw [rep_flat]
        try (refine ⟨by simp; omega, ?_⟩; array_get_dec)
        refine ⟨_, _, rfl, VD.app (fun d hd => ⟨x, (List.mem_replicate.mp hd).2, bx.1, bx.2⟩) d1, by simp; omega, h2⟩
      · array_get_dec
        exact ⟨_, _, rfl, d1, by omega, h1⟩
    · array_get_dec
      exact ⟨_, _, rfl, d1, by omega, h1⟩
  clear h0 d1 d2
  rintro E ⟨o, ds, rfl, d1, d2, h0⟩
  obtain ⟨w, rfl, w2, wl⟩ := d1.w2
  have gds : gd 5 (.list (w.map PyData.int)) := gd_VD d1 (by omega) 3
  have gq : GoodQ (n, w) := ⟨n1, n8, w2, by show w.length ≤ 400; omega⟩
  refine seq_to (R := fun E => ∃ o ss m v, E = [some (sD ns), some o, some (.dt (.int n)), some (.dt (lI w)), none, none, none, none, none, some (.dt (.list ss)), some (.dt (.int m)), some (.dt (lI v))] ∧ leadF (n, w) ss = some (m, v) ∧ ss.length ≤ 30 ∧ (∀ s ∈ ss, StepI s) ∧ PoolO o) ?_ ?_
  · array_get_dec
    refine (sp_pick h0 (by decide)).monoF ?_
    rintro r es ⟨k, o1, rfl, rfl, k0, k1, h1⟩
    array_get_dec
    refine (sp_closerow h1 gq k0 (by omega)).monoF ?_
    rintro r es ⟨ss, m, v, o2, rfl, rfl, g1, g2, g3, h2⟩
    array_get_dec
    exact ⟨_, _, _, _, rfl, g1, g2, g3, h2⟩
  clear h0
  rintro E ⟨o, ss, m, v, rfl, g1, g2, g3, h0⟩
  have gq2 : 1 ≤ m ∧ m ≤ 8 ∧ Wd2 m v ∧ v.length ≤ 400 := leadF_ok gq g1
  have gm : gd 5 (.int m) := trivial
  have gv : gd 5 (lI v) := gd_lI (by omega)
  have gss : gd 8 (.list ss) := gd_upto (gLs (by omega) (GL.stepI g3)) (by decide)
  have vdv : VD m (v.map .int) := VD.of gq2.2.2.1
  have hlead : leadB n w m v (.list ss) = true := by
    rw [leadB_list, g1]
    simp
  refine seq_to (R := fun E => E = [some (sD ns), some o, some (.dt (.int n)), some (.dt (lI w)), none, none, none, none, none, some (.dt (.list ss)), some (.dt (.int m)), some (.dt (lI v))]) ?_ ?_
  · array_get_dec
    refine (sp_leads gq gss).monoF ?_
    rintro r es ⟨rfl, rfl⟩
    rw [hlead]
    array_get_dec
    with_reducible refine w_okS (sp_right gn gds gm gv gss) ?_
    array_get_dec
    first | exact ⟨rfl, rfl⟩ | exact rfl
  rintro E rfl
  refine seq_to (R := fun E => ∃ o, E = [some (sD ns), some o, some (.dt (.int n)), some (.dt (lI w)), none, none, none, none, none, some (.dt (.list ss)), some (.dt (.int m)), some (.dt (lI v))] ∧ PoolO o) ?_ ?_
  · array_get_dec
    refine for_rng (fun i E => ∃ o, E = [some (sD ns), some o, some (.dt (.int n)), some (.dt (lI w)), none, none, none, none, none, some (.dt (.list ss)), some (.dt (.int m)), some (.dt (lI v))] ∧ PoolO o) ⟨_, rfl, h0⟩ ?_ ?_
    · rintro i E hi ⟨o1, rfl, h1⟩
      array_get_dec
      refine (sp_otherrow h1 g3 g2 (by omega)).monoF ?_
      rintro r es ⟨d, o2, rfl, rfl, gdd, h2⟩
      array_get_dec
      with_reducible refine w_okS (sp_right gn gds gm gv gdd) ?_
      array_get_dec
      exact ⟨_, rfl, h2⟩
    · rintro E ⟨o1, rfl, h1⟩
      array_get_dec
      exact ⟨_, rfl, h1⟩
  clear h0
  rintro E ⟨o, rfl, h0⟩
  refine seq_to (R := fun E => ∃ o, E = [some (sD ns), some o, some (.dt (.int n)), some (.dt (lI w)), none, none, none, none, none, some (.dt (.list ss)), some (.dt (.int m)), some (.dt (lI v))] ∧ PoolO o) ?_ ?_
  · array_get_dec
    refine for_rng (fun i E => ∃ o, E = [some (sD ns), some o, some (.dt (.int n)), some (.dt (lI w)), none, none, none, none, none, some (.dt (.list ss)), some (.dt (.int m)), some (.dt (lI v))] ∧ PoolO o) ⟨_, rfl, h0⟩ ?_ ?_
    · rintro i E hi ⟨o1, rfl, h1⟩
      array_get_dec
      refine (sp_otherword h1 gq2.1 gq2.2.2.2).monoF ?_
      rintro r es ⟨d, o2, rfl, rfl, gdd, h2⟩
      array_get_dec
      with_reducible refine w_okS (sp_right gn gds gm gdd gss) ?_
      array_get_dec
      exact ⟨_, rfl, h2⟩
    · rintro E ⟨o1, rfl, h1⟩
      array_get_dec
      exact ⟨_, rfl, h1⟩
  clear h0
  rintro E ⟨o, rfl, h0⟩
  have g0 : gd 8 (.list []) := gd_upto (gLs (k := 1) (Nat.le_of_ble_eq_true rfl) GL.nil) (by decide)
  refine seq_to (R := fun E => E = [some (sD ns), some o, some (.dt (.int n)), some (.dt (lI w)), none, none, none, none, none, some (.dt (.list ss)), some (.dt (.int m)), some (.dt (lI v))]) ?_ ?_
  · array_get_dec
    refine for_rng (fun i E => E = [some (sD ns), some o, some (.dt (.int n)), some (.dt (lI w)), none, none, none, none, none, some (.dt (.list ss)), some (.dt (.int m)), some (.dt (lI v))]) rfl ?_ ?_
    · rintro i E hi rfl
      have gk : gd 5 (.int (1 + (i : Nat))) := trivial
      array_get_dec
      with_reducible refine w_okS (sp_right gn gds gk gv gss) ?_
      array_get_dec
      with_reducible refine w_okS (sp_right gn gds gk gds g0) ?_
      array_get_dec
      first | exact ⟨rfl, rfl⟩ | exact rfl
    · rintro E rfl
      array_get_dec
      first | exact ⟨rfl, rfl⟩ | exact rfl
  rintro E rfl
  refine seq_to (R := fun E => ∃ o val, E = [some (sD ns), some o, some (.dt (.int n)), some (.dt (lI w)), none, none, none, some (.dt val), none, some (.dt (.list ss)), some (.dt (.int m)), some (.dt (lI v))] ∧ gd 8 val ∧ PoolO o) ?_ ?_
  · array_get_dec
    refine (sp_pick h0 (by decide)).monoF ?_
    rintro r es ⟨u, o1, rfl, rfl, u0, u1, h1⟩
    array_get_dec
    have gall : GL 8 [PyData.list ss, .none, .list [], .list [.none]] := by
      refine GL.cons gss ?_
      repeat' (first | exact GL.nil | refine GL.cons ?_ ?_ | refine gT (Nat.le_of_ble_eq_true rfl) ?_ | refine gLs (Nat.le_of_ble_eq_true rfl) ?_ | exact trivial | (show okD _ = true; decide +kernel))
    refine w_atAll u0 u1 fun d hd => ?_
    have gdd := gall d hd
    array_get_dec
    exact ⟨_, _, rfl, gdd, h1⟩
  clear h0
  rintro E ⟨o, val, rfl, gval, h0⟩
  have lv : (v.map PyData.int).length ≤ 400 := by simpa using gq2.2.2.2
  refine seq_to (R := fun E => ∃ o, E = [some (sD ns), some o, some (.dt (.int n)), some (.dt (lI w)), none, none, none, some (.dt val), none, some (.dt (.list ss)), some (.dt (.int m)), some (.dt (lI v))] ∧ PoolO o) ?_ ?_
  · array_get_dec
    refine (sp_bad h0 d1 d2).monoF ?_
    rintro r es ⟨b1, o1, rfl, rfl, gb1, h1⟩
    array_get_dec
    refine (sp_bad h1 vdv lv).monoF ?_
    rintro r es ⟨b2, o2, rfl, rfl, gb2, h2⟩
    array_get_dec
    with_reducible refine w_okS (sp_right gn gb1 gm gb2 gval) ?_
    array_get_dec
    exact ⟨_, rfl, h2⟩
  clear h0
  rintro E ⟨o, rfl, h0⟩
  refine seq_to (R := fun E => ∃ o, E = [some (sD ns), some o, some (.dt (.int n)), some (.dt (lI w)), none, none, none, some (.dt val), none, some (.dt (.list ss)), some (.dt (.int m)), some (.dt (lI v))] ∧ PoolO o) ?_ ?_
  · array_get_dec
    refine (sp_bad h0 vdv lv).monoF ?_
    rintro r es ⟨b1, o1, rfl, rfl, gb1, h1⟩
    array_get_dec
    with_reducible refine w_okS (sp_right gn gds gm gb1 gval) ?_
    array_get_dec
    refine (sp_bad h1 d1 d2).monoF ?_
    rintro r es ⟨b2, o2, rfl, rfl, gb2, h2⟩
    array_get_dec
    with_reducible refine w_okS (sp_right gn gb2 gm gv gval) ?_
    array_get_dec
    exact ⟨_, rfl, h2⟩
  clear h0
  rintro E ⟨o, rfl, h0⟩
  refine seq_to (R := fun E => ∃ o sd, E = [some (sD ns), some o, some (.dt (.int n)), some (.dt (lI w)), none, none, none, some (.dt val), some (.dt sd), some (.dt (.list ss)), some (.dt (.int m)), some (.dt (lI v))] ∧ gd 5 sd ∧ PoolO o) ?_ ?_
  · array_get_dec
    refine (sp_pick h0 (by decide)).monoF ?_
    rintro r es ⟨u, o1, rfl, rfl, u0, u1, h1⟩
    array_get_dec
    have gall : GL 5 [PyData.int 0, .int 9, .bool true, .none, .str "2", .list [.int 2]] := by
      repeat' (first | exact GL.nil | refine GL.cons ?_ ?_ | refine gT (Nat.le_of_ble_eq_true rfl) ?_ | refine gLs (Nat.le_of_ble_eq_true rfl) ?_ | exact trivial | (show okD _ = true; decide +kernel))
    refine w_atAll u0 u1 fun d hd => ?_
    have gdd := gall d hd
    array_get_dec
    exact ⟨_, _, rfl, gdd, h1⟩
  clear h0
  rintro E ⟨o, sd, rfl, gs, h0⟩
  array_get_dec
  with_reducible refine w_okS (sp_right gs gds gm gv gval) ?_
  array_get_dec
  with_reducible refine w_okS (sp_right gn gds gs gv gval) ?_
  array_get_dec
  with_reducible refine w_okS (sp_right gn gds gm gv gss) ?_
  array_get_dec
  rfl

end Lf
theorem PySem.Challenge.cw_braidyard_k85_whole_rows_of_steps_are_ju_holds : PySem.Challenge.rw_braidyard_k85_whole_rows_of_steps_are_ju.Holds :=
  Lf.head85 fun ns h => Lf.law_true0 ns h
