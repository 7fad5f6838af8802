import PyProof.Rows.All
import Wide.All
import OpenK.AllK
import Wide.FinOn
import HandS.ForMost
import HandS.ForExc
import HandS.Deep
import HandS.IsInst
import HandS.TupAny
import HandS.TupMul
import HandS.Style
import HandS.Wide
import HandS.Rev
import HandS.Conv
import HandS.Star
import HandS.TupLen
import HandS.Strs
import HandS.Small
import HandS.CallSlots
import HandS.WordsExc
import PyProof.MeetsSeq
import PySem.Challenge.RW_hatspassed_k64_brace_break
set_option Elab.async false
set_option linter.all false
set_option maxRecDepth 100000
set_option autoImplicit false
set_option maxHeartbeats 4000000
/-! Sim0: plain values D, results, the relation between a def's slots and heap and a plain environment. -/
namespace Sim
open PySem L2

/-- plain values -/
inductive D where
  | non | bl (b : Bool) | int (i : Int) | str (x : Str)
  | tup (xs : List D) | lst (xs : List D)
  | dI (kvs : List (Int × D)) | dT (kvs : List (List Int × D))
  | tab (rows : D) (kinds : Int)
  | scr (ns : List Int)

inductive Err where
  | stuck
  | exc (c : Str) (x : Option (Str × D))
abbrev Res (α : Type) := Except Err α
abbrev stk {α : Type} : Res α := .error .stuck

/-- what a name holds: a value that nobody changes any more, or a list | dict of the def's own -/
inductive Sl where
  | val (d : D)
  | own (d : D)
abbrev Nv := List (Option Sl)
abbrev Ex := Nv → Res D
inductive Fl where
  | nx | bk | ct | rt (d : D)
abbrev Sx := Nv → Res (Fl × Nv)

abbrev Mg := Str → Option Value
/-- the module's names, the program, the world -/
structure Gm where
  mg : Mg
  P : Program
  w : World
  K : PySem.W.Frag
abbrev _root_.L2.Cx.gm (X : Cx) : Gm := ⟨X.mg, X.prog, X.w, X.K⟩
/-! ### the relation -/
/-- a dict whose keys are tuples of ints: its keys, the tuples' addresses, its values -/
def TdAt (P : Program) (w : World) (a : Addr) (xs : List (List Int × Addr × V)) (h : Heap) : Prop :=
  xs.length ≤ sizeLine ∧ (a == sysModules) = false ∧ ∃ ys : List (List Key × Addr × Value), Paired (fun (p : List Int × Addr × V) (q : List Key × Addr × Value) => p.1.map Sum.inl = q.1 ∧ p.2.1 = q.2.1 ∧ RelV p.2.2 q.2.2) xs ys ∧
    ∃ o es ep, h.get? a = some o ∧ o.ExactDict ∧ o.data = .dict es ep ∧ es.toList = ys.map (entryOfKey (tupleKind (mixKind P w))) ∧ (ys.map (·.1)).Nodup
def tdO (g : Gm) (a : Addr) (xs : List (List Int × Addr × V)) : HO := .ext (TdAt g.P g.w a xs)
mutual
inductive Dt (mg : Gm) (F : Hp) : V → D → Prop
  | non : Dt mg F .non .non
  | bl (b : Bool) : Dt mg F (.bl b) (.bl b)
  | int (i : Int) : Dt mg F (.int i) (.int i)
  | str (x : Str) : Dt mg F (.str x) (.str x)
  | tup {a : Addr} {o : Obj} {vs : List V} {ds : List D} : F a = some (.frz o (.tup vs)) → o.dict = none → Dts mg F vs ds → Dt mg F (.ref a) (.tup ds)
  | lst {a : Addr} {vs : List V} {ds : List D} : F a = some (.lst vs) → Dts mg F vs ds → Dt mg F (.ref a) (.lst ds)
  | dI {a : Addr} {ks : List (Key × V)} {kvs : List (Int × D)} : F a = some (.dK ks) → DkI mg F ks kvs → Dt mg F (.ref a) (.dI kvs)
  | dT {a : Addr} {ks : List (List Int × Addr × V)} {kvs : List (List Int × D)} : F a = some (tdO mg a ks) → DkT mg F ks kvs → Dt mg F (.ref a) (.dT kvs)
  | tab {a C dx : Addr} {v : V} {d : D} {k : Int} : mg.mg "Table" = some (.ref C) → F a = some (.ins C dx [("rows", v), ("kinds", .int k)]) → Dt mg F v d → Dt mg F (.ref a) (.tab d k)
  | scr {a : Addr} {ns : List Int} : SqL mg.K F a (ns.map V.int) → Dt mg F (.ref a) (.scr ns)
inductive Dts (mg : Gm) (F : Hp) : List V → List D → Prop
  | nil : Dts mg F [] []
  | cons {v : V} {vs : List V} {d : D} {ds : List D} : Dt mg F v d → Dts mg F vs ds → Dts mg F (v :: vs) (d :: ds)
inductive DkI (mg : Gm) (F : Hp) : List (Key × V) → List (Int × D) → Prop
  | nil : DkI mg F [] []
  | cons {i : Int} {v : V} {ks : List (Key × V)} {d : D} {kvs : List (Int × D)} : Dt mg F v d → DkI mg F ks kvs → DkI mg F ((Sum.inl i, v) :: ks) ((i, d) :: kvs)
inductive DkT (mg : Gm) (F : Hp) : List (List Int × Addr × V) → List (List Int × D) → Prop
  | nil : DkT mg F [] []
  | cons {k : List Int} {b : Addr} {o : Obj} {v : V} {ks : List (List Int × Addr × V)} {d : D} {kvs : List (List Int × D)} : F b = some (.frz o (.tup (k.map V.int))) → o.dict = none → Dt mg F v d → DkT mg F ks kvs → DkT mg F ((k, b, v) :: ks) ((k, d) :: kvs)
end

/-- inclusion of heaps -/
def Sub (H H' : Hp) : Prop := ∀ a o, H a = some o → H' a = some o
theorem Sub.refl (H : Hp) : Sub H H := fun _ _ h => h
theorem Sub.trans {H H1 H2 : Hp} (a : Sub H H1) (b : Sub H1 H2) : Sub H H2 := fun x o h => b x o (a x o h)
theorem Sub.new {H : Hp} {p : Addr} {o : HO} (h : H p = none) : Sub H (upd H p o) := fun a u e => by
  rw [upd_ne (ne_of_none e h)]
  exact e
theorem Sub.noneOf {H H' : Hp} {p : Addr} (e : Sub H H') (h : H' p = none) : H p = none := by
  cases h1 : H p with
  | none => rfl
  | some o => rw [e p o h1] at h; cases h
theorem Sub.updBoth {H H' : Hp} {p : Addr} {o : HO} (e : Sub H H') : Sub (upd H p o) (upd H' p o) := fun a u h => by
  by_cases ha : a = p
  · subst ha; rw [upd_same] at h ⊢; exact h
  · rw [upd_ne ha] at h ⊢; exact e a u h
/-- an object that H does not know may change -/
theorem Sub.mut {H H' : Hp} {p : Addr} {o : HO} (e : Sub H H') (h : H p = none) : Sub H (L2.upd H' p o) := fun a u ha => by
  rw [upd_ne (ne_of_none ha h)]
  exact e a u ha

theorem sqL_mono {K : PySem.W.Frag} {F F' : Hp} {a : Addr} {xs : List V} (s : Sub F F') (h : SqL K F a xs) : SqL K F' a xs := by
  rcases h with (h | ⟨o, h⟩) | h
  · exact .inl (.inl (s _ _ h))
  · exact .inl (.inr ⟨o, s _ _ h⟩)
  · exact .inr h
mutual
theorem Dt.mono {mg : Gm} {F F' : Hp} (s : Sub F F') : ∀ {v : V} {d : D}, Dt mg F v d → Dt mg F' v d
  | _, _, .non => .non
  | _, _, .bl b => .bl b
  | _, _, .int i => .int i
  | _, _, .str x => .str x
  | _, _, .tup h e q => .tup (s _ _ h) e (Dts.mono s q)
  | _, _, .lst h q => .lst (s _ _ h) (Dts.mono s q)
  | _, _, .dI h q => .dI (s _ _ h) (DkI.mono s q)
  | _, _, .dT h q => .dT (s _ _ h) (DkT.mono s q)
  | _, _, .tab m h q => .tab m (s _ _ h) (Dt.mono s q)
  | _, _, .scr h => .scr (sqL_mono s h)
theorem Dts.mono {mg : Gm} {F F' : Hp} (s : Sub F F') : ∀ {vs : List V} {ds : List D}, Dts mg F vs ds → Dts mg F' vs ds
  | _, _, .nil => .nil
  | _, _, .cons h q => .cons (Dt.mono s h) (Dts.mono s q)
theorem DkI.mono {mg : Gm} {F F' : Hp} (s : Sub F F') : ∀ {ks : List (Key × V)} {kvs : List (Int × D)}, DkI mg F ks kvs → DkI mg F' ks kvs
  | _, _, .nil => .nil
  | _, _, .cons h q => .cons (Dt.mono s h) (DkI.mono s q)
theorem DkT.mono {mg : Gm} {F F' : Hp} (s : Sub F F') : ∀ {ks : List (List Int × Addr × V)} {kvs : List (List Int × D)}, DkT mg F ks kvs → DkT mg F' ks kvs
  | _, _, .nil => .nil
  | _, _, .cons hb e h q => .cons (s _ _ hb) e (Dt.mono s h) (DkT.mono s q)
end

section
variable {mg : Gm} {F F' : Hp}
theorem Dts.length : ∀ {vs : List V} {ds : List D}, Dts mg F vs ds → vs.length = ds.length
  | _, _, .nil => rfl
  | _, _, .cons _ q => by simp [Dts.length q]
theorem Dts.get : ∀ {vs : List V} {ds : List D} {i : Nat} {d : D}, Dts mg F vs ds → ds[i]? = some d → ∃ v, vs[i]? = some v ∧ Dt mg F v d
  | _, _, _, _, .nil, e => by simp at e
  | _, _, 0, _, .cons h _, e => by simp at e; subst e; exact ⟨_, rfl, h⟩
  | _, _, i + 1, d, .cons _ q, e => by
    obtain ⟨v, h1, h2⟩ := Dts.get (i := i) (d := d) q (by simpa using e)
    exact ⟨v, by simpa using h1, h2⟩
theorem Dts.append : ∀ {vs ws : List V} {ds es : List D}, Dts mg F vs ds → Dts mg F ws es → Dts mg F (vs ++ ws) (ds ++ es)
  | _, _, _, _, .nil, q => q
  | _, _, _, _, .cons h r, q => .cons h (Dts.append r q)
theorem Dts.take : ∀ {vs : List V} {ds : List D} (n : Nat), Dts mg F vs ds → Dts mg F (vs.take n) (ds.take n)
  | _, _, 0, _ => .nil
  | _, _, _ + 1, .nil => .nil
  | _, _, n + 1, .cons h q => .cons h (Dts.take n q)
theorem Dts.drop : ∀ {vs : List V} {ds : List D} (n : Nat), Dts mg F vs ds → Dts mg F (vs.drop n) (ds.drop n)
  | _, _, 0, q => q
  | _, _, _ + 1, .nil => .nil
  | _, _, n + 1, .cons _ q => Dts.drop n q
theorem Dts.set {v : V} {d : D} (h : Dt mg F v d) : ∀ {vs : List V} {ds : List D} (i : Nat), Dts mg F vs ds → Dts mg F (vs.set i v) (ds.set i d)
  | _, _, _, .nil => .nil
  | _, _, 0, .cons _ q => .cons h q
  | _, _, i + 1, .cons r q => .cons r (Dts.set h i q)
theorem Dts.eraseIdx : ∀ {vs : List V} {ds : List D} (i : Nat), Dts mg F vs ds → Dts mg F (vs.eraseIdx i) (ds.eraseIdx i)
  | _, _, _, .nil => .nil
  | _, _, 0, .cons _ q => q
  | _, _, i + 1, .cons h q => .cons h (Dts.eraseIdx i q)
theorem Dts.reverse : ∀ {vs : List V} {ds : List D}, Dts mg F vs ds → Dts mg F vs.reverse ds.reverse
  | _, _, .nil => .nil
  | _, _, .cons h q => by
    rw [List.reverse_cons, List.reverse_cons]
    exact (Dts.reverse q).append (.cons h .nil)
theorem Dts.rep {vs : List V} {ds : List D} (h : Dts mg F vs ds) : ∀ n : Nat, Dts mg F (List.replicate n vs).flatten (List.replicate n ds).flatten
  | 0 => .nil
  | n + 1 => by
    rw [List.replicate_succ, List.replicate_succ, List.flatten_cons, List.flatten_cons]
    exact h.append (Dts.rep h n)
theorem Dts.dropLast {vs : List V} {ds : List D} (h : Dts mg F vs ds) : Dts mg F vs.dropLast ds.dropLast := by
  rw [List.dropLast_eq_take, List.dropLast_eq_take, h.length]
  exact h.take _
theorem Dts.ints : ∀ {vs : List V} {ns : List Int}, Dts mg F vs (ns.map D.int) → vs = ns.map V.int
  | _, [], h => by cases h; rfl
  | _, n :: ns, h => by
    cases h with
    | cons h q =>
      cases h
      rw [Dts.ints q]
      rfl
theorem Dts.of_ints : ∀ {ns : List Int}, Dts mg F (ns.map V.int) (ns.map D.int)
  | [] => .nil
  | _ :: _ => .cons (.int _) Dts.of_ints
theorem Dts.bls : ∀ {vs : List V} {bs : List Bool}, Dts mg F vs (bs.map D.bl) → vs = bs.map V.bl
  | _, [], h => by cases h; rfl
  | _, n :: ns, h => by
    cases h with
    | cons h q =>
      cases h
      rw [Dts.bls q]
      rfl
theorem DkI.length : ∀ {ks : List (Key × V)} {kvs : List (Int × D)}, DkI mg F ks kvs → ks.length = kvs.length
  | _, _, .nil => rfl
  | _, _, .cons _ q => by simp [DkI.length q]
theorem DkT.length : ∀ {ks : List (List Int × Addr × V)} {kvs : List (List Int × D)}, DkT mg F ks kvs → ks.length = kvs.length
  | _, _, .nil => rfl
  | _, _, .cons _ _ _ q => by simp [DkT.length q]
end

/-- a list | dict at a, its items frozen -/
inductive OwnAt (mg : Gm) (F H : Hp) (a : Addr) : D → Prop
  | lst {vs : List V} {ds : List D} : H a = some (.lst vs) → Dts mg F vs ds → OwnAt mg F H a (.lst ds)
  | dI {ks : List (Key × V)} {kvs : List (Int × D)} : H a = some (.dK ks) → DkI mg F ks kvs → OwnAt mg F H a (.dI kvs)
  | dT {ks : List (List Int × Addr × V)} {kvs : List (List Int × D)} : H a = some (tdO mg a ks) → DkT mg F ks kvs → OwnAt mg F H a (.dT kvs)
theorem OwnAt.mono {mg : Gm} {F F' H H' : Hp} {a : Addr} {d : D} (s : Sub F F') (e : H' a = H a) (h : OwnAt mg F H a d) : OwnAt mg F' H' a d := by
  cases h with
  | lst h q => exact .lst (e.trans h) (q.mono s)
  | dI h q => exact .dI (e.trans h) (q.mono s)
  | dT h q => exact .dT (e.trans h) (q.mono s)
theorem OwnAt.some {mg : Gm} {F H : Hp} {a : Addr} {d : D} (h : OwnAt mg F H a d) : ∃ o, H a = some o := by
  cases h with
  | lst h q => exact ⟨_, h⟩
  | dI h q => exact ⟨_, h⟩
  | dT h q => exact ⟨_, h⟩
theorem OwnAt.mut {mg : Gm} {F H : Hp} {a : Addr} {d : D} (h : OwnAt mg F H a d) : Mut (H a) := by
  cases h with
  | lst h q => rw [h]; trivial
  | dI h q => rw [h]; trivial
  | dT h q => rw [h]; trivial
/-- frozen: read from F -/
theorem OwnAt.dt {mg : Gm} {F : Hp} {a : Addr} {d : D} (h : OwnAt mg F F a d) : Dt mg F (.ref a) d := by
  cases h with
  | lst h q => exact .lst h q
  | dI h q => exact .dI h q
  | dT h q => exact .dT h q
/-- an operand: frozen, or a list | dict of the def's own -/
inductive DtO (mg : Gm) (F H : Hp) : V → D → Prop
  | val {v : V} {d : D} : Dt mg F v d → DtO mg F H v d
  | own {a : Addr} {d : D} : OwnAt mg F H a d → DtO mg F H (.ref a) d

/-- what a slot holds -/
inductive SlAt (mg : Gm) (B F H : Hp) : V → Sl → Prop
  | val {v : V} {d : D} : Dt mg F v d → SlAt mg B F H v (.val d)
  | own {a : Addr} {d : D} : OwnAt mg F H a d → F a = none → B a = none → SlAt mg B F H (.ref a) (.own d)

structure Rel (mg : Gm) (B F H : Hp) (σ : St) (ρ : Nv) : Prop where
  len : ρ.length = σ.length
  bh : Sub B H
  fh : Sub F H
  sl : ∀ (i : Nat) (s : Sl), ρ[i]? = some (some s) → ∃ v, σ[i]? = some (some v) ∧ SlAt mg B F H v s
  ap : ∀ (i j : Nat) (d e : D) (a : Addr), i ≠ j → ρ[i]? = some (some (.own d)) → ρ[j]? = some (some (.own e)) → σ[i]? = some (some (.ref a)) → σ[j]? ≠ some (some (.ref a))

/-- heap and frozen part grow; what is newly frozen is new -/
structure Grow (F H F' H' : Hp) : Prop where
  hh : Sub H H'
  ff : Sub F F'
  fh : Sub F' H'
  nw : ∀ a o, F' a = some o → F a = none → H a = none
theorem Grow.refl {F H : Hp} (h : Sub F H) : Grow F H F H := ⟨.refl _, .refl _, h, fun _ _ a b => by rw [a] at b; cases b⟩
theorem Grow.trans {F H F1 H1 F2 H2 : Hp} (a : Grow F H F1 H1) (b : Grow F1 H1 F2 H2) : Grow F H F2 H2 :=
  ⟨a.hh.trans b.hh, a.ff.trans b.ff, b.fh, fun x o h2 h0 => by
    cases h1 : F1 x with
    | some u => exact a.nw x u h1 h0
    | none => exact a.hh.noneOf (b.nw x o h2 h1)⟩
/-- a new frozen object -/
theorem Grow.new {F H : Hp} {p : Addr} {o : HO} (fh : Sub F H) (h : H p = none) : Grow F H (upd F p o) (upd H p o) :=
  ⟨.new h, .new (fh.noneOf h), fh.updBoth, fun a u h1 h2 => by
    by_cases e : a = p
    · subst e; exact h
    · rw [upd_ne e, h2] at h1; cases h1⟩
/-- a new object that is not frozen (yet) -/
theorem Grow.newO {F H : Hp} {p : Addr} {o : HO} (fh : Sub F H) (h : H p = none) : Grow F H F (upd H p o) :=
  ⟨.new h, .refl _, fh.trans (.new h), fun a u h1 h2 => by rw [h1] at h2; cases h2⟩
/-- only H grows -/
theorem Grow.h {F H H' : Hp} (fh : Sub F H) (s : Sub H H') : Grow F H F H' := ⟨s, .refl _, fh.trans s, fun a u h1 h2 => by rw [h1] at h2; cases h2⟩
/-- freeze a new object -/
theorem Grow.freeze {F H F' H' : Hp} {p : Addr} {o : HO} (g : Grow F H F' H') (h : H p = none) (h' : H' p = some o) (hf : F' p = none) : Grow F H (upd F' p o) H' :=
  ⟨g.hh, g.ff.trans (.new hf), fun a u e => by
    by_cases ha : a = p
    · subst ha; rw [upd_same] at e; cases e; exact h'
    · rw [upd_ne ha] at e; exact g.fh a u e, fun a u h1 h2 => by
    by_cases ha : a = p
    · subst ha; exact h
    · rw [upd_ne ha] at h1; exact g.nw a u h1 h2⟩

section
variable {mg : Gm} {B F H F' H' : Hp} {σ : St} {ρ : Nv}
theorem SlAt.grow {v : V} {s : Sl} (g : Grow F H F' H') (h : SlAt mg B F H v s) : SlAt mg B F' H' v s := by
  cases h with
  | val h => exact .val (h.mono g.ff)
  | own h f b =>
    obtain ⟨o, e⟩ := h.some
    refine .own (h.mono g.ff ?_) ?_ b
    · rw [e]; exact g.hh _ _ e
    · rename_i a d
      cases q : F' a with
      | none => rfl
      | some u => rw [g.nw _ _ q f] at e; cases e
theorem Rel.grow (r : Rel mg B F H σ ρ) (g : Grow F H F' H') : Rel mg B F' H' σ ρ :=
  ⟨r.len, r.bh.trans g.hh, g.fh, fun i s e => let ⟨v, h1, h2⟩ := r.sl i s e; ⟨v, h1, h2.grow g⟩, r.ap⟩
theorem Rel.start (fh : Sub F H) {vs : List V} {ds : List D} (q : Dts mg F vs ds) (n : Nat) : Rel mg H F H (vs.map some ++ List.replicate n none) (ds.map (fun d => some (.val d)) ++ List.replicate n none) := by
  refine ⟨by simp [q.length], .refl _, fh, fun i s e => ?_, fun i j d e a _ h1 => ?_⟩
  · by_cases hi : i < ds.length
    · rw [List.getElem?_append_left (by simpa using hi), List.getElem?_map] at e
      cases hd : ds[i]? with
      | none => rw [hd] at e; cases e
      | some d =>
        rw [hd] at e
        simp only [Option.map_some, Option.some.injEq] at e
        subst e
        obtain ⟨v, hv, r⟩ := q.get hd
        refine ⟨v, ?_, .val r⟩
        rw [List.getElem?_append_left (by simpa [q.length] using hi), List.getElem?_map, hv]
        rfl
    · rw [List.getElem?_append_right (by simpa using hi), List.getElem?_replicate] at e
      split at e <;> cases e
  · by_cases hi : i < ds.length
    · rw [List.getElem?_append_left (by simpa using hi), List.getElem?_map] at h1
      cases hd : ds[i]? with
      | none => rw [hd] at h1; cases h1
      | some d => rw [hd] at h1; simp at h1
    · rw [List.getElem?_append_right (by simpa using hi), List.getElem?_replicate] at h1
      split at h1 <;> cases h1
/-- a slot is given a frozen value -/
theorem Rel.set {v : V} {d : D} (r : Rel mg B F H σ ρ) (h : Dt mg F v d) (i : Nat) : Rel mg B F H (σ.set i (some v)) (ρ.set i (some (.val d))) := by
  refine ⟨by simp [r.len], r.bh, r.fh, fun j s e => ?_, fun j k x y a hjk h1 h2 h3 => ?_⟩
  · by_cases hj : i = j
    · subst hj
      by_cases hl : i < ρ.length
      · rw [List.getElem?_set_self hl] at e
        simp only [Option.some.injEq] at e
        subst e
        exact ⟨v, by rw [List.getElem?_set_self (by rw [← r.len]; exact hl)], .val h⟩
      · rw [List.getElem?_eq_none (by simpa using hl)] at e; cases e
    · rw [List.getElem?_set_ne hj] at e
      obtain ⟨w, h1, h2⟩ := r.sl j s e
      exact ⟨w, by rw [List.getElem?_set_ne hj]; exact h1, h2⟩
  · have hj : i ≠ j := by
      rintro rfl
      by_cases hl : i < ρ.length
      · rw [List.getElem?_set_self hl] at h1; simp at h1
      · rw [List.getElem?_eq_none (by simpa using hl)] at h1; cases h1
    have hk : i ≠ k := by
      rintro rfl
      by_cases hl : i < ρ.length
      · rw [List.getElem?_set_self hl] at h2; simp at h2
      · rw [List.getElem?_eq_none (by simpa using hl)] at h2; cases h2
    rw [List.getElem?_set_ne hj] at h1 h3
    rw [List.getElem?_set_ne hk] at h2 ⊢
    exact r.ap j k x y a hjk h1 h2 h3
/-- .. a new list | dict of its own -/
theorem Rel.setOwn {a : Addr} {d : D} (r : Rel mg B F H σ ρ) (h : OwnAt mg F H a d) (hf : F a = none) (hb : B a = none) (nw : ∀ (j : Nat) (x : D), ρ[j]? = some (some (.own x)) → σ[j]? ≠ some (some (.ref a))) (i : Nat) :
    Rel mg B F H (σ.set i (some (.ref a))) (ρ.set i (some (.own d))) := by
  have key : ∀ (j : Nat) (s : Sl), (ρ.set i (some (.own d)))[j]? = some (some s) → i ≠ j → ρ[j]? = some (some s) := fun j s e hj => by
    rw [List.getElem?_set_ne hj] at e; exact e
  refine ⟨by simp [r.len], r.bh, r.fh, fun j s e => ?_, fun j k x y b hjk h1 h2 h3 h4 => ?_⟩
  · by_cases hj : i = j
    · subst hj
      by_cases hl : i < ρ.length
      · rw [List.getElem?_set_self hl] at e
        simp only [Option.some.injEq] at e
        subst e
        exact ⟨_, by rw [List.getElem?_set_self (by rw [← r.len]; exact hl)], .own h hf hb⟩
      · rw [List.getElem?_eq_none (by simpa using hl)] at e; cases e
    · obtain ⟨w, h1, h2⟩ := r.sl j s (key j s e hj)
      exact ⟨w, by rw [List.getElem?_set_ne hj]; exact h1, h2⟩
  · by_cases hj : i = j
    · subst hj
      have hk : i ≠ k := hjk
      have hl : i < σ.length := by
        rcases Nat.lt_or_ge i σ.length with q | q
        · exact q
        · rw [List.getElem?_eq_none (by simpa using q)] at h3; cases h3
      rw [List.getElem?_set_self hl] at h3
      simp only [Option.some.injEq, V.ref.injEq] at h3
      subst h3
      rw [List.getElem?_set_ne hk] at h4
      exact nw k y (key k _ h2 hk) h4
    · by_cases hk : i = k
      · subst hk
        have hl : i < σ.length := by
          rcases Nat.lt_or_ge i σ.length with q | q
          · exact q
          · rw [List.getElem?_eq_none (by simpa using q)] at h4; cases h4
        rw [List.getElem?_set_self hl] at h4
        simp only [Option.some.injEq, V.ref.injEq] at h4
        subst h4
        rw [List.getElem?_set_ne hj] at h3
        exact nw j x (key j _ h1 hj) h3
      · rw [List.getElem?_set_ne hj] at h3
        rw [List.getElem?_set_ne hk] at h4
        exact r.ap j k x y b hjk (key j _ h1 hj) (key k _ h2 hk) h3 h4
/-- a slot's value forgotten -/
theorem Rel.forget (r : Rel mg B F H σ ρ) (i : Nat) : Rel mg B F H σ (ρ.set i none) := by
  have key : ∀ (j : Nat) (s : Sl), (ρ.set i none)[j]? = some (some s) → ρ[j]? = some (some s) := fun j s e => by
    by_cases hj : i = j
    · subst hj
      by_cases hl : i < ρ.length
      · rw [List.getElem?_set_self hl] at e; simp at e
      · rw [List.getElem?_eq_none (by simpa using hl)] at e; cases e
    · rw [List.getElem?_set_ne hj] at e; exact e
  exact ⟨by simp [r.len], r.bh, r.fh, fun j s e => r.sl j s (key j s e), fun j k x y a hjk h1 h2 h3 => r.ap j k x y a hjk (key _ _ h1) (key _ _ h2) h3⟩
end
end Sim

/-! SimT: tuples that are known whole; dicts with keys that are such tuples. -/
namespace Sim
open PySem L2 PySem.Spec PyProof.Rows

/-- a new tuple -/
abbrev nwT (H : Hp) (xs : List V) (Q : VK) : Prop := ∀ (p : Addr) (o : Obj), o.dict = none → H p = none → Q (.ref p) (upd H p (.frz o (.tup xs)))
section
variable {X : Cx} {pins : List (Addr × Obj)} {σ : L2.St} {H : Hp} {s : Shared} {xs : List V}
/-- a tuple is laid -/
theorem lay_tup {h' : Heap} {t' : Nat} {its : Array Value} {Q : VK} (I : Inv X pins σ H { s with heap := h', toks := t' }) (z : xs.length ≤ sizeLine) (r : Vals xs its.toList) (q : nwT H xs Q) :
    EP X pins σ Q (.ref h'.objs.size) { s with heap := h'.push { cls := .type "tuple", data := .seq its }, toks := t' } := by
  have hf : H h'.objs.size = none := I.hok.fresh (Nat.le_refl _)
  refine ⟨.ref h'.objs.size, upd H h'.objs.size (.frz { cls := .type "tuple", data := .seq its } (.tup xs)), ?_, rfl, q _ _ rfl hf⟩
  refine I.laid (t' := t') (h' := h'.push { cls := .type "tuple", data := .seq its }) (fun b u e => Heap.get?_push_of_some _ e) (Nat.le_refl _) ?_
  exact ⟨Heap.get?_push_size _ rfl, z, its.toList, r, by simpa using IsTup.new h' its⟩
end

section
variable {X : Cx} {e : Expr} {es : List Expr} {te ta : TE} {t : TA} {pos p : Pos}
/-- a display -/
def tTupN (t : TA) : TE := fun σ H Q => t σ H fun xs H1 => xs.length ≤ sizeLine ∧ nwT H1 xs Q
theorem pn_tup {x1} (h : PA X es t) : PE X (.Tuple es x1 pos) (tTupN t) := by
  refine ⟨fun pins s σ H Q I hq => ?_⟩
  refine wpAny_Tuple_spliced (thn (h.run pos pins s σ H _ I hq) fun us s1 ⟨xs, H1, I1, r, z, q⟩ => ⟨by rw [← r.length]; exact z, ?_⟩)
  exact lay_tup (t' := s1.toks) (its := us.toArray) I1 z (by simpa using r) q

/-- t + u -/
def rCatN (K : PySem.W.Frag) : R2 := fun x y H Q => ∃ a b xs ys, x = .ref a ∧ y = .ref b ∧ SqT K H a xs ∧ SqT K H b ys ∧ xs.length + ys.length ≤ sizeLine ∧
  (xs = [] → Q (.ref b) H) ∧ (xs ≠ [] → ys = [] → Q (.ref a) H) ∧ (xs ≠ [] → ys ≠ [] → nwT H (xs ++ ys) Q)
theorem on_cat : OpR X (binaryOp .Add) (rCatN X.K) := by
  intro pins s σ H x y v u Q I rx ry h
  obtain ⟨a, b, xs, ys, rfl, rfl, ha, hb, hz, q0, q1, q2⟩ := h
  cases rx
  cases ry
  obtain ⟨its, r1, p1, _⟩ := I.tuple ha
  obtain ⟨its2, r2, p2, _⟩ := I.tuple hb
  by_cases hx : xs = []
  · subst hx
    cases r1
    exact cat_tup0 p1 p2 ⟨.ref b, H, I, rfl, q0 rfl⟩
  · refine HT.cat_tup p1 p2 (fun z => hx (r1.nil_iff.mp z)) (fun z => ⟨.ref a, H, I, rfl, q1 hx (r2.nil_iff.mp z)⟩) (fun z => ?_) (by rw [← r1.length, ← r2.length]; exact hz)
    exact lay_tup (t' := s.toks) (its := (its ++ its2).toArray) I (by rw [List.length_append]; exact hz) (by simpa using r1.append r2) (q2 hx fun w => z (r2.nil_iff.mpr w))

/-- t[lo:hi] -/
def rSlN (K : PySem.W.Frag) : V → Option Int → Option Int → Hp → VK → Prop := fun x lo hi H Q => ∃ a xs, x = .ref a ∧ SqT K H a xs ∧
  (HT.sIx xs.length 0 lo = 0 ∧ HT.sIx xs.length xs.length hi = xs.length → Q (.ref a) H) ∧ (¬ (HT.sIx xs.length 0 lo = 0 ∧ HT.sIx xs.length xs.length hi = xs.length) → nwT H (cutV xs lo hi) Q)
theorem sln_tup : SlR X (rSlN X.K) := by
  intro pins s σ H x v vl vu lo hi sl Q I rx hs pl pu h
  obtain ⟨a, xs, rfl, hx, q1, q2⟩ := h
  cases rx
  obtain ⟨its, r, ht, hz⟩ := I.tuple hx
  have hlen : its.toArray.size = xs.length := by rw [List.size_toArray]; exact r.length.symm
  refine ⟨"tuple", _, PyProof.Rows.slot_tuple_getitem.lookup, ht.typeIs, ?_⟩
  by_cases hw : HT.sIx xs.length 0 lo = 0 ∧ HT.sIx xs.length xs.length hi = xs.length
  · exact getItem_tuple_whole ht hs pl pu (by rw [hlen]; exact hw) ⟨.ref a, H, I, rfl, q1 hw⟩
  · refine HT.getItem_tuple_cut ht hs pl pu (by rw [hlen]; exact hw) ?_ (by rw [hlen]; exact hz)
    rw [hlen]
    refine lay_tup (t' := s.toks) (its := ((its.toArray.toList.drop (HT.sIx xs.length 0 lo)).take (HT.sIx xs.length xs.length hi - HT.sIx xs.length 0 lo)).toArray) I (Nat.le_trans (cutV_length xs lo hi) hz) ?_ (q2 hw)
    unfold cutV
    simpa using (r.drop (HT.sIx xs.length 0 lo)).take (HT.sIx xs.length xs.length hi - HT.sIx xs.length 0 lo)

/-- tuple(..) of a list: a new tuple; of a tuple: itself -/
theorem cn_tuple : CallR X (.type "tuple") (fun xs H Q => ∃ p ys, xs = [.ref p] ∧ ((SqL X.K H p ys ∧ nwT H ys Q) ∨ (SqT X.K H p ys ∧ Q (.ref p) H))) := by
  intro pins s σ H xs us Q I r h
  obtain ⟨p, ys, rfl, h⟩ := h
  obtain ⟨u, rfl, rx⟩ := vals1 r
  cases rx
  rcases h with ⟨hq, q⟩ | ⟨hq, q⟩
  · obtain ⟨its, r', pl, hz⟩ := I.list hq
    have hlen := r'.length
    refine call_tuple_list pl.isList (fun h' kp => ?_) (by simp only [List.size_toArray] <;> omega)
    exact lay_tup (s := s) (t' := s.toks) (its := its.toArray) (I.kept (t' := s.toks) kp) hz (by simpa using r') q
  · obtain ⟨its, r', pl, hz⟩ := I.tuple hq
    exact call_tuple_same pl ⟨.ref p, H, I, rfl, q⟩
/-- tuple(range(..)) -/
def tTupRgN (te : L2.St → Hp → (Int → Int → Hp → Prop) → Prop) : TE := fun σ H Q => te σ H fun a b H1 => RgOk a b ∧ nwT H1 (rgV a b) Q
theorem pn_tupRg {te : L2.St → Hp → (Int → Int → Hp → Prop) → Prop} (hc : X.calm = true) (hg : Gl X "tuple") (hm : X.mg "tuple" = none) (he : PRg X e te) (na : starEach [e] X.env = (false, eval e X.env) :: starEach [] X.env := by rfl) : PE X (.Call (.Name "tuple" p) [e] [] pos) (tTupRgN te) := by
  refine ⟨fun pins s σ H Q I h => ?_⟩
  refine Call_ (ld_blt I hg hm boot_tuple (PyProof.Rows.callWith_type1 (args_cons (thn (he pins s σ H _ I h) fun x s1 ⟨r, a, b, t, u, v, H1, ex, hr, I1, ok, q⟩ => args_nil ?_) na) na))
  subst ex
  obtain ⟨b1, b2, b3, b4, b5⟩ := ok
  refine call_tuple_range (n := (b - a).toNat) (I1.ok.hd hc) hr (small_one b1 b2 b3 b4) (rangeSize_nat a b) b5 fun h' tk acc hk hi => ?_
  have I2 : Inv X pins σ H1 { s1 with heap := h', toks := tk } := I1.kept hk
  exact lay_tup (s := s1) (t' := tk) I2 (by rw [rgV_length, sizeLine_eq]; omega) (vals_rg hi) q

/-! t * k -/
theorem tuple_mulS (l : Addr) (items : Array Value) (n : Nat) (dd : Option Addr) (sl : Array (Option Value)) (x : Int) (u : Tok) (c0 : (decide (x < -(2 ^ 63)) || decide (x ≥ 2 ^ 63)) = false) (c1 : (items.isEmpty || x == 1) = true) :
    Meets (Builtin.«tuple.__mul__» ⟨[.ref l, .int x u], []⟩) (fun _ R s => s.heap.get? l = some { cls := .type "tuple", dict := dd, data := .seq items n, slots := sl } ∧ R (.ok (.ret (Value.ref l))) s) :=
  .of_wp fun prog w A R s h => by
    obtain ⟨hp, g, d, tk, os⟩ := s
    obtain ⟨hl, h⟩ := h
    have f1 := AutoSeq1.idx_int
    wp_walk using wpAny_loadPart' hl
    refine wpAny_ite_false (decide_eq_false (by rw [c0]; exact Bool.false_ne_true)) ?_
    wp_walk using wpAny_loadPart' hl
    exact ⟨_, rfl, h⟩
theorem tuple_mulZ (l : Addr) (items : Array Value) (n : Nat) (dd : Option Addr) (sl : Array (Option Value)) (x : Int) (u : Tok) (c0 : (decide (x < -(2 ^ 63)) || decide (x ≥ 2 ^ 63)) = false) (c1 : (items.isEmpty || x == 1) = false) (c2 : (decide (x ≤ 0) || items.isEmpty) = true) :
    Meets (Builtin.«tuple.__mul__» ⟨[.ref l, .int x u], []⟩) (fun _ R s => s.heap.get? l = some { cls := .type "tuple", dict := dd, data := .seq items n, slots := sl } ∧
      R (.ok (.ret (Value.ref s.heap.objs.size))) { s with heap := s.heap.push { cls := Value.type "tuple", data := Data.seq #[] }, toks := s.toks }) :=
  .of_wp fun prog w A R s h => by
    obtain ⟨hp, g, d, tk, os⟩ := s
    obtain ⟨hl, h⟩ := h
    have f1 := AutoSeq1.idx_int
    wp_walk using wpAny_loadPart' hl
    refine wpAny_ite_false (decide_eq_false (by rw [c0]; exact Bool.false_ne_true)) ?_
    wp_walk using wpAny_loadPart' hl
    exact ⟨_, rfl, h⟩

def rRepN (K : PySem.W.Frag) : R2 := fun x y H Q => ∃ l k xs, x = .ref l ∧ y = .int k ∧ SqT K H l xs ∧ -1000 ≤ k ∧ k ≤ 1000 ∧ xs.length ≤ 1000 ∧
  (xs = [] ∨ k = 1 → Q (.ref l) H) ∧ (¬ (xs = [] ∨ k = 1) → nwT H (List.replicate k.toNat xs).flatten Q)
theorem on_rep : OpR X (binaryOp .Mult) (rRepN X.K) := by
  intro pins s σ H x y v u Q I rx ry h
  obtain ⟨l, k, xs, rfl, rfl, hT, h1, h2, hz, q0, q⟩ := h
  cases rx
  obtain ⟨t, rfl⟩ := ry
  obtain ⟨its, r, ⟨⟨cls, dd, data, sl⟩, ho, hc, n, hd⟩, hs⟩ := I.tuple hT
  simp only at hc hd
  subst hc hd
  have hle : its.length = xs.length := r.length.symm
  have hsz0 : its.toArray.size = xs.length := by rw [List.size_toArray, hle]
  have hemp : its.toArray.isEmpty = xs.isEmpty := by
    cases r <;> rfl
  have c0 : (decide (k < -(2 ^ 63)) || decide (k ≥ 2 ^ 63)) = false := by
    rw [decide_eq_false (by omega), decide_eq_false (by omega)] <;> rfl
  by_cases hsame : xs = [] ∨ k = 1
  · have c1 : (its.toArray.isEmpty || k == 1) = true := by
      rw [hemp]
      rcases hsame with e | e
      · rw [e]; rfl
      · rw [e]; simp
    refine wpAny_binaryOp_repeat_ref (T := "tuple") (U := "int") (by decide) ⟨_, ho, rfl⟩ (fun s' => typeIs_int s' k t) noFill_tuple_mul F.fills_int_mul F.slot_int_rmul repeat_tuple F.slot_int_index.lookup
      (call_meets F.slot_int_rmul (typeIs_int s k t) F.entry_int_rmul (F.args_int_rmul_2 _ _) (int_rmul_tuple k t l its.toArray n dd sl)
        ⟨ho, rfl, ⟨_, ho, rfl⟩, call_meets F.slot_tuple_mul ⟨_, ho, rfl⟩ F.entry_tuple_mul (F.args_tuple_mul_2 _ _) (tuple_mulS l its.toArray n dd sl k t c0 c1) ⟨ho, ?_⟩⟩)
    exact ⟨.ref l, H, I, rfl, q0 hsame⟩
  · have q := q hsame
    have hne : xs ≠ [] := fun e => hsame (.inl e)
    have hk1 : k ≠ 1 := fun e => hsame (.inr e)
    have hi : its.toArray.isEmpty = false := by
      rw [hemp]
      cases xs with
      | nil => exact absurd rfl hne
      | cons a b => rfl
    have c1 : (its.toArray.isEmpty || k == 1) = false := by
      rw [hi, Bool.false_or]
      exact beq_eq_false_iff_ne.mpr hk1
    by_cases hk0 : k ≤ 0
    · have c2 : (decide (k ≤ 0) || its.toArray.isEmpty) = true := by rw [decide_eq_true hk0]; rfl
      refine wpAny_binaryOp_repeat_ref (T := "tuple") (U := "int") (by decide) ⟨_, ho, rfl⟩ (fun s' => typeIs_int s' k t) noFill_tuple_mul F.fills_int_mul F.slot_int_rmul repeat_tuple F.slot_int_index.lookup
        (call_meets F.slot_int_rmul (typeIs_int s k t) F.entry_int_rmul (F.args_int_rmul_2 _ _) (int_rmul_tuple k t l its.toArray n dd sl)
          ⟨ho, rfl, ⟨_, ho, rfl⟩, call_meets F.slot_tuple_mul ⟨_, ho, rfl⟩ F.entry_tuple_mul (F.args_tuple_mul_2 _ _) (tuple_mulZ l its.toArray n dd sl k t c0 c1 c2) ⟨ho, ?_⟩⟩)
      have e0 : (List.replicate k.toNat xs).flatten = [] := by
        have : k.toNat = 0 := by omega
        rw [this]; rfl
      rw [e0] at q
      exact lay_tup (t' := s.toks) (its := #[]) I (by simp) .nil q
    · have hm : ((its.toArray.size : Nat) : Int) * k ≤ 1000000 := by
        rw [hsz0]
        have a1 : ((xs.length : Nat) : Int) * k ≤ 1000 * k := Int.mul_le_mul_of_nonneg_right (by omega) (by omega)
        omega
      have flen : (List.replicate k.toNat its).flatten.length ≤ sizeLine := by
        rw [PyProof.Rows.lm_len_rep_flat, hle, sizeLine_eq]
        have a1 : k.toNat * xs.length ≤ 1000 * 1000 := Nat.mul_le_mul (by omega) hz
        omega
      have c2 : (decide (k ≤ 0) || its.toArray.isEmpty) = false := by
        rw [hi, Bool.or_false]
        exact decide_eq_false hk0
      have c4 : Builtin.Tuple.tupleTooMany (((its.toArray.size : Nat) : Int) * k) = false := by
        unfold Builtin.Tuple.tupleTooMany
        rw [sizeLine_eq]
        exact decide_eq_false (by omega)
      refine wpAny_binaryOp_repeat_ref (T := "tuple") (U := "int") (by decide) ⟨_, ho, rfl⟩ (fun s' => typeIs_int s' k t) noFill_tuple_mul F.fills_int_mul F.slot_int_rmul repeat_tuple F.slot_int_index.lookup
        (call_meets F.slot_int_rmul (typeIs_int s k t) F.entry_int_rmul (F.args_int_rmul_2 _ _) (int_rmul_tuple k t l its.toArray n dd sl)
          ⟨ho, rfl, ⟨_, ho, rfl⟩, call_meets F.slot_tuple_mul ⟨_, ho, rfl⟩ F.entry_tuple_mul (F.args_tuple_mul_2 _ _) (tuple_mulW l its.toArray n dd sl k t c0 c1 c2 (by omega) c4 (by rw [size_rep, List.size_toArray]; exact flen)) ⟨ho, ?_⟩⟩)
      rw [size_rep]
      exact lay_tup (t' := s.toks) (its := (List.replicate k.toNat its).flatten.toArray) I (by rw [PyProof.Rows.lm_len_rep_flat, sizeLine_eq]; have a1 : k.toNat * xs.length ≤ 1000 * 1000 := Nat.mul_le_mul (by omega) hz; omega) (by simpa using r.rep k.toNat) q

/-! ### dicts with such keys -/
abbrev T3 := List (List Int × Addr × V)
def valT (xs : T3) (k : List Int) : Option V := (xs.find? fun x => decide (x.1 = k)).map (·.2.2)
/-- in its place, or at the end -/
def putT3 (xs : T3) (k : List Int) (b : Addr) (v : V) : T3 := if (xs.any fun x => decide (x.1 = k)) = true then xs.map (fun x => if x.1 = k then (x.1, x.2.1, v) else x) else xs ++ [(k, b, v)]
abbrev KP : T3 → List (List Key × Addr × Value) → Prop := Paired (fun (p : List Int × Addr × V) (q : List Key × Addr × Value) => p.1.map Sum.inl = q.1 ∧ p.2.1 = q.2.1 ∧ RelV p.2.2 q.2.2)
/-- every key's tuple is known -/
def KAll (H : Hp) (xs : T3) : Prop := ∀ x ∈ xs, ∃ o, H x.2.1 = some (.frz o (.tup (x.1.map V.int)))
theorem inl_inj' {a b : List Int} (e : a.map (Sum.inl : Int → Key) = b.map Sum.inl) : a = b := by
  induction a generalizing b with
  | nil => cases b with
    | nil => rfl
    | cons => simp at e
  | cons x xs ih =>
    cases b with
    | nil => simp at e
    | cons y ys =>
      simp only [List.map_cons, List.cons.injEq, Sum.inl.injEq] at e
      rw [e.1, ih e.2]
theorem kV_ints (k : List Int) : (k.map (Sum.inl : Int → Key)).map kV = k.map V.int := by rw [List.map_map]; rfl
theorem keyN {pins : List (Addr × Obj)} {σ : L2.St} {H : Hp} {s : Shared} {k : List Int} {b : Addr} {o : Obj} (I : Inv X pins σ H s) (h : H b = some (.frz o (.tup (k.map V.int)))) : (tupleKind (mixKind X.prog X.w)).is s.heap (k.map Sum.inl) b := by
  obtain ⟨its, r, ⟨ob, h1, h2, n, h3⟩, _⟩ := I.tuple (a := b) (xs := k.map V.int) (.inl (.inr ⟨o, h⟩))
  refine ⟨ob, its.toArray, n, h1, h2, h3, ?_⟩
  rw [← kV_ints] at r
  simpa using items_are (P := X.prog) (w := X.w) r
theorem KP.val {xs : T3} {ys : List (List Key × Addr × Value)} (r : KP xs ys) (k : List Int) : RelO (valT xs k) ((atKey ys (k.map Sum.inl)).map (·.2)) := by
  induction r with
  | nil => exact True.intro
  | @cons p q ps qs h t ih =>
    obtain ⟨h1, _, h2⟩ := h
    by_cases e : p.1 = k
    · have e' : q.1 = k.map Sum.inl := by rw [← h1, e]
      have a : valT (p :: ps) k = some p.2.2 := by simp [valT, List.find?_cons, e]
      have b : atKey (q :: qs) (k.map Sum.inl) = some q.2 := by simp [atKey, List.find?_cons, e']
      rw [a, b]; exact h2
    · have e' : ¬ q.1 = k.map Sum.inl := fun z => e (inl_inj' (h1.trans z))
      have a : valT (p :: ps) k = valT ps k := by simp [valT, List.find?_cons, e]
      have b : atKey (q :: qs) (k.map Sum.inl) = atKey qs (k.map Sum.inl) := by simp [atKey, List.find?_cons, e']
      rw [a, b]; exact ih
theorem valT_any (xs : T3) (k : List Int) : (xs.any fun x => decide (x.1 = k)) = (valT xs k).isSome := by
  induction xs with
  | nil => rfl
  | cons p r ih =>
    rw [List.any_cons]
    by_cases e : p.1 = k
    · simp [valT, List.find?_cons, e]
    · rw [ih]; simp [valT, List.find?_cons, e]
theorem KP.repl {xs : T3} {ys : List (List Key × Addr × Value)} (r : KP xs ys) (k : List Int) {y : V} {u : Value} (ry : RelV y u) :
    KP (xs.map fun x => if x.1 = k then (x.1, x.2.1, y) else x) (ys.map (putAt (k.map Sum.inl) u)) := by
  induction r with
  | nil => exact .nil
  | @cons p q ps qs h t ih =>
    rw [List.map_cons, List.map_cons]
    refine .cons ?_ ih
    obtain ⟨h1, h2, h3⟩ := h
    unfold putAt
    by_cases e : p.1 = k
    · rw [if_pos e, if_pos (by rw [← h1, e])]; exact ⟨h1, h2, ry⟩
    · rw [if_neg e, if_neg (fun z => e (inl_inj' (h1.trans z)))]; exact ⟨h1, h2, h3⟩
theorem KP.put {xs : T3} {ys : List (List Key × Addr × Value)} (r : KP xs ys) (k : List Int) (b : Addr) {y : V} {u : Value} (ry : RelV y u) : KP (putT3 xs k b y) (storedH ys (k.map Sum.inl) b u) := by
  have e : (xs.any fun kv => decide (kv.1 = k)) = (atKey ys (k.map Sum.inl)).isSome := by
    rw [valT_any, (r.val k).isSome_eq, Option.isSome_map]
  unfold putT3 storedH
  rw [e]
  by_cases q : (atKey ys (k.map Sum.inl)).isSome = true
  · rw [if_pos q, if_pos q]; exact r.repl k ry
  · rw [if_neg q, if_neg q]; exact Paired.snoc r ⟨rfl, rfl, ry⟩
theorem putT3_len (xs : T3) (k : List Int) (b : Addr) (v : V) : (putT3 xs k b v).length ≤ xs.length + 1 := by
  unfold putT3
  split <;> simp
theorem KAll.keys {pins : List (Addr × Obj)} {σ : L2.St} {H : Hp} {s : Shared} (I : Inv X pins σ H s) {xs : T3} {ys : List (List Key × Addr × Value)} (r : KP xs ys) (h : KAll H xs) : ∀ y ∈ ys, (tupleKind (mixKind X.prog X.w)).is s.heap y.1 y.2.1 := by
  induction r with
  | nil => intro y hy; exact nomatch hy
  | @cons p q ps qs hq t ih =>
    intro y hy
    rcases List.mem_cons.mp hy with e | hy
    · subst e
      obtain ⟨o, ho⟩ := h p (List.mem_cons_self ..)
      rw [← hq.1, ← hq.2.1]
      exact keyN I ho
    · exact ih (fun x hx => h x (List.mem_cons_of_mem _ hx)) y hy
theorem td_of {pins : List (Addr × Obj)} {σ : L2.St} {H : Hp} {s : Shared} {a : Addr} {xs : T3} (I : Inv X pins σ H s) (h : H a = some (tdO X.gm a xs)) (k : KAll H xs) :
    xs.length ≤ sizeLine ∧ (a == sysModules) = false ∧ ∃ ys, KP xs ys ∧ s.heap.DictOfH (tupleKind (mixKind X.prog X.w)) a ys := by
  obtain ⟨⟨z, hm, ys, r, o, es, ep, h1, h2, h3, h4, h5⟩, _, _⟩ := (show ObjOk X.prog X.w H s.heap a (.ext (TdAt X.prog X.w a xs)) from I.hok a _ h)
  exact ⟨z, hm, ys, r, o, es, ep, h1, h2, h3, h4, k.keys I r, h5⟩
theorem td_ok {H : Hp} {h : Heap} {a : Addr} {xs : T3} {ys : List (List Key × Addr × Value)} (z : xs.length ≤ sizeLine) (hm : (a == sysModules) = false) (r : KP xs ys) (d : h.DictOfH (tupleKind (mixKind X.prog X.w)) a ys) : ObjOk X.prog X.w H h a (tdO X.gm a xs) := by
  obtain ⟨o, es, ep, h1, h2, h3, h4, _, h5⟩ := d
  refine ⟨⟨z, hm, ys, r, o, es, ep, h1, h2, h3, h4, h5⟩, ⟨o, h1⟩, ?_⟩
  rintro ha hb ⟨z, hm, ys, r, o, es, ep, h1, h2, h3, h4, h5⟩ k
  exact ⟨z, hm, ys, r, o, es, ep, k _ h1, h2, h3, h4, h5⟩
section
variable {pins : List (Addr × Obj)} {σ : L2.St} {H : Hp} {s : Shared} {a b : Addr} {xs : T3} {k : List Int} {o : Obj} {A : Around} {E : Value → Shared → Prop}
theorem td_getItem {v : V} {Q : Value → Shared → Prop} (hu : A.units + 1 < cLine) (I : Inv X pins σ H s) (h : H a = some (tdO X.gm a xs)) (ka : KAll H xs) (hb : H b = some (.frz o (.tup (k.map V.int)))) (l : valT xs k = some v)
    (hq : ∀ w' s', Inv X pins σ H s' → RelV v w' → Q w' s') : wpAny (model X.prog X.w) A (getItem (.ref a) (.ref b)) Q E s := by
  obtain ⟨z, hd, ys, rel, dd⟩ := td_of I h ka
  obtain ⟨w', hw, rw'⟩ := RelO.some_of (v := v) (o := (atKey ys (k.map Sum.inl)).map (·.2)) (by rw [← l]; exact rel.val k)
  obtain ⟨p, hp, hp2⟩ := Option.map_eq_some_iff.mp hw
  refine wpAny_getItem_heap (tupleKind_room_in1 hu) (keyN I hb) dd hp ?_
  rw [hp2]
  exact hq w' _ (I.tok _) rw'
theorem td_in {Q : Value → Shared → Prop} (hu : A.units + 1 < cLine) (I : Inv X pins σ H s) (h : H a = some (tdO X.gm a xs)) (ka : KAll H xs) (hb : H b = some (.frz o (.tup (k.map V.int))))
    (hq : ∀ s', Inv X pins σ H s' → Q (.bool (valT xs k).isSome) s') : wpAny (model X.prog X.w) A (compareOp .In (.ref b) (.ref a)) Q E s := by
  obtain ⟨z, hd, ys, rel, dd⟩ := td_of I h ka
  refine wpAny_in_heap (tupleKind_room_in1 hu) (keyN I hb) hd dd ?_
  have q := (rel.val k).isSome_eq
  rw [Option.isSome_map] at q
  rw [← q]
  exact hq _ (I.tok _)
theorem td_notIn {Q : Value → Shared → Prop} (hu : A.units + 1 < cLine) (I : Inv X pins σ H s) (h : H a = some (tdO X.gm a xs)) (ka : KAll H xs) (hb : H b = some (.frz o (.tup (k.map V.int))))
    (hq : ∀ s', Inv X pins σ H s' → Q (.bool (!(valT xs k).isSome)) s') : wpAny (model X.prog X.w) A (compareOp .NotIn (.ref b) (.ref a)) Q E s := by
  obtain ⟨z, hd, ys, rel, dd⟩ := td_of I h ka
  refine wpAny_notIn_heap (tupleKind_room_in1 hu) (keyN I hb) hd dd ?_
  have q := (rel.val k).isSome_eq
  rw [Option.isSome_map] at q
  rw [← q]
  exact hq _ (I.tok _)
theorem td_setItem {v : V} {r : Value} {Q : Unit → Shared → Prop} (hu : A.units + 1 < cLine) (I : Inv X pins σ H s) (h : H a = some (tdO X.gm a xs)) (ka : KAll H xs) (hb : H b = some (.frz o (.tup (k.map V.int)))) (hl : xs.length < sizeLine) (rv : RelV v r)
    (hq : ∀ s', Inv X pins σ (upd H a (tdO X.gm a (putT3 xs k b v))) s' → Q () s') : wpAny (model X.prog X.w) A (setItem (.ref a) (.ref b) r) Q E s := by
  obtain ⟨z, hd, ys, rel, dd⟩ := td_of I h ka
  have hz : ys.length ≤ sizeLine := by rw [← Paired.length rel]; exact z
  have hl2 : (putT3 xs k b v).length ≤ sizeLine := by have := putT3_len xs k b v; omega
  refine wpAny_setItem_heap (hsz := hz) (tupleKind_room_in1 hu) (keyN I hb) dd fun h' dd' hs => hq _ ?_
  have he : ∃ q, h'.get? a = some q := let ⟨q, _, _, hq, _⟩ := dd'; ⟨q, hq⟩
  exact d_write I (by rw [h]; exact True.intro) hs he (td_ok hl2 hd (rel.put k b rv) dd')
end
/-- len(d) -/
def rLenN (g : Gm) : List V → Hp → VK → Prop := fun xs H Q => ∃ (p : Addr) (ys : T3), xs = [.ref p] ∧ H p = some (tdO g p ys) ∧ KAll H ys ∧ Q (.int ((ys.length : Nat) : Int)) H
theorem cn_len : CallR X (.builtin "len") (rLenN X.gm) := by
  intro pins s σ H xs us Q I r h
  obtain ⟨p, kvs, rfl, hp, ka, q⟩ := h
  obtain ⟨u, rfl, rx⟩ := vals1 r
  obtain rfl : u = .ref p := rx
  obtain ⟨z, hd, ys, rel, dd⟩ := td_of I hp ka
  have hl : kvs.length = ys.length := Paired.length rel
  refine call_len_dictH hd dd (by rw [← hl]; rw [sizeLine_eq] at z; omega) ?_
  rw [← hl]
  exact ⟨.int ((kvs.length : Nat) : Int), H, I.tok _, ⟨_, rfl⟩, q⟩
end
end Sim

/-! Sim1: the simulation judgements; names, constants, argument lists, operators. -/
namespace Sim
open PySem L2

/-- an error of the program's own: its class, its one field -/
def ExcAt (mg : Gm) (F H : Hp) (cls : Value) (dx : Option Addr) (c : Str) (x : Option (Str × D)) : Prop :=
  (∃ C, mg.mg c = some (.ref C) ∧ cls = .ref C) ∧
    match x with
    | none => dx = none
    | some (f, d) => ∃ q v, dx = some q ∧ H q = some (.xd [(f, v)]) ∧ Dt mg F v d

/-- what is wanted of an outcome: R start-heap F' H' v d -/
def Out {α β : Type} (mg : Gm) (W : WX) (R : Hp → Hp → Hp → α → β → Prop) (F H : Hp) (σ : St) (r : Res β) (Q : α → Hp → Prop) : Prop :=
  match r with
  | .ok d => ∀ v F' H', Grow F H F' H' → R H F' H' v d → Q v H'
  | .error (.exc c x) => ∀ cls dx F' H', Grow F H F' H' → ExcAt mg F' H' cls dx c x → W cls dx σ H'
  | .error .stuck => False

/-- the canonical reading of a plain function of the environment -/
def tG {α β : Type} (mg : Gm) (W : WX) (R : Hp → Hp → Hp → α → β → Prop) (p : Nv → Res β) : St → Hp → (α → Hp → Prop) → Prop :=
  fun σ H Q => ∃ B F ρ, Rel mg B F H σ ρ ∧ Out mg W R F H σ (p ρ) Q

def RV (mg : Gm) : Hp → Hp → Hp → V → D → Prop := fun _ F _ v d => Dt mg F v d
def RO (mg : Gm) : Hp → Hp → Hp → V → D → Prop := fun _ F H v d => DtO mg F H v d
/-- a frozen value, or a new list | dict -/
def RS (mg : Gm) : Hp → Hp → Hp → V → Sl → Prop := fun H0 F H v s => match s with
  | .val d => Dt mg F v d
  | .own d => ∃ a, v = .ref a ∧ OwnAt mg F H a d ∧ F a = none ∧ H0 a = none
def RA (mg : Gm) : Hp → Hp → Hp → List V → List D → Prop := fun _ F _ v d => Dts mg F v d
def RT : Hp → Hp → Hp → Bool → Bool → Prop := fun _ _ _ b b' => b = b'

/-- R may be asked from an earlier heap -/
def Anti {α β : Type} (R : Hp → Hp → Hp → α → β → Prop) : Prop := ∀ H H1 F' H' v d, Sub H H1 → R H1 F' H' v d → R H F' H' v d
theorem anti_V {mg : Gm} : Anti (RV mg) := fun _ _ _ _ _ _ _ h => h
theorem anti_O {mg : Gm} : Anti (RO mg) := fun _ _ _ _ _ _ _ h => h
theorem anti_A {mg : Gm} : Anti (RA mg) := fun _ _ _ _ _ _ _ h => h
theorem anti_T : Anti RT := fun _ _ _ _ _ _ _ h => h
theorem anti_S {mg : Gm} : Anti (RS mg) := fun H H1 F' H' v d s h => by
  cases d with
  | val d => exact h
  | own d => obtain ⟨a, e, o, f, n⟩ := h; exact ⟨a, e, o, f, s.noneOf n⟩

section
variable {α β γ δ : Type} {mg : Gm} {W : WX} {R : Hp → Hp → Hp → α → β → Prop} {R2 : Hp → Hp → Hp → γ → δ → Prop} {F H F' H' : Hp} {σ : St}
theorem Out.grow (an : Anti R) {r : Res β} {Q : α → Hp → Prop} (g : Grow F H F' H') (h : Out mg W R F H σ r Q) : Out mg W R F' H' σ r Q := by
  cases r with
  | ok d => exact fun v F2 H2 g2 q => h v F2 H2 (g.trans g2) (an _ _ _ _ _ _ g.hh q)
  | error e =>
    cases e with
    | stuck => exact h
    | exc c x => exact fun cls dx F2 H2 g2 q => h cls dx F2 H2 (g.trans g2) q
theorem Out.bind (an : Anti R2) {r : Res β} {f : β → Res δ} {Q : γ → Hp → Prop} {Z : α → Hp → Prop} (h : Out mg W R2 F H σ (r >>= f) Q)
    (st : ∀ d v F1 H1, r = .ok d → Grow F H F1 H1 → R H F1 H1 v d → Out mg W R2 F1 H1 σ (f d) Q → Z v H1) : Out mg W R F H σ r Z := by
  cases r with
  | ok d => exact fun v F1 H1 g q => st d v F1 H1 rfl g q (Out.grow an g h)
  | error e =>
    cases e with
    | stuck => exact h
    | exc c x => exact h
theorem Out.imp {r : Res β} {Q Q' : α → Hp → Prop} (h : Out mg W R F H σ r Q) (q : ∀ v H, Q v H → Q' v H) : Out mg W R F H σ r Q' := by
  cases r with
  | ok d => exact fun v F2 H2 g2 z => q _ _ (h v F2 H2 g2 z)
  | error e =>
    cases e with
    | stuck => exact h
    | exc c x => exact h
/-- the first part of a bind -/
theorem tG_bind (an : Anti R2) {p : Nv → Res β} {f : β → Nv → Res δ} {Q : γ → Hp → Prop} {Z : α → Hp → Prop} {B : Hp} {ρ : Nv} (rl : Rel mg B F H σ ρ) (h : Out mg W R2 F H σ (p ρ >>= fun d => f d ρ) Q)
    (st : ∀ d v F1 H1, p ρ = .ok d → Grow F H F1 H1 → Rel mg B F1 H1 σ ρ → R H F1 H1 v d → Out mg W R2 F1 H1 σ (f d ρ) Q → Z v H1) : tG mg W R p σ H Z :=
  ⟨B, F, ρ, rl, Out.bind an h fun d v F1 H1 e g r o => st d v F1 H1 e g (rl.grow g) r o⟩
end

theorem DtO.grow {mg : Gm} {F H F' H' : Hp} {v : V} {d : D} (g : Grow F H F' H') (h : DtO mg F H v d) : DtO mg F' H' v d := by
  cases h with
  | val h => exact .val (h.mono g.ff)
  | own h =>
    obtain ⟨o, e⟩ := h.some
    exact .own (h.mono g.ff (by rw [e]; exact g.hh _ _ e))

/-! ### the judgements -/
def SimE (X : Cx) (W : WX) (e : Expr) (p : Ex) : Prop := PE X e (tG X.gm W (RV X.gm) p)
def SimO (X : Cx) (W : WX) (e : Expr) (p : Ex) : Prop := PE X e (tG X.gm W (RO X.gm) p)
def SimN (X : Cx) (W : WX) (e : Expr) (p : Nv → Res Sl) : Prop := PE X e (tG X.gm W (RS X.gm) p)
def SimT (X : Cx) (W : WX) (e : Expr) (p : Nv → Res Bool) : Prop := PT X e (tG X.gm W RT p)
def SimA (X : Cx) (W : WX) (es : List Expr) (p : Nv → Res (List D)) : Prop := PA X es (tG X.gm W (RA X.gm) p)

section
variable {X : Cx} {e : Expr} {t t' : TE}
theorem PE.imp (h : PE X e t) (q : ∀ σ H Q, t' σ H Q → t σ H Q) : PE X e t' := ⟨fun pins s σ H Q I z => h.run pins s σ H Q I (q σ H Q z)⟩
theorem PT.imp {t t' : TT} (h : PT X e t) (q : ∀ σ H Q, t' σ H Q → t σ H Q) : PT X e t' := ⟨fun pins s σ H Q I z => h.run pins s σ H Q I (q σ H Q z)⟩
theorem PA.imp {es : List Expr} {t t' : TA} (h : PA X es t) (q : ∀ σ H Q, t' σ H Q → t σ H Q) : PA X es t' := ⟨fun pos pins s σ H Q I z => h.run pos pins s σ H Q I (q σ H Q z)⟩
end

/-! ### names and constants -/
/-- the value of a slot -/
def rd (i : Nat) : Ex := fun ρ => match ρ[i]? with
  | some (some (.val d)) => .ok d
  | _ => stk
/-- .. as an operand -/
def ro (i : Nat) : Ex := fun ρ => match ρ[i]? with
  | some (some (.val d)) => .ok d
  | some (some (.own d)) => .ok d
  | _ => stk
def cst (d : D) : Ex := fun _ => .ok d
section
variable {X : Cx} {W : WX}
theorem se_var (i : Nat) {x : Str} {pos : Pos} (hN : X.N[i]? = some x := by rfl) (hv : Vis X.env.scope x := by first | exact Or.inl rfl | exact Or.inr (Or.inl rfl) | exact Or.inr (Or.inr rfl)) (hd : (x == ("__debug__" : Str)) = false := by decide)
    (hcd : (x == ("__classdict__" : Str)) = false := by decide) : SimE X W (.Name x pos) (rd i) := by
  refine PE.imp (pe_var (i := i) hN hv hd hcd) fun σ H Q ⟨B, F, ρ, rl, o⟩ => ?_
  unfold rd at o
  split at o
  · rename_i d e
    obtain ⟨v, h1, h2⟩ := rl.sl i _ e
    cases h2 with
    | val h2 => exact ⟨v, h1, o v F H (.refl rl.fh) h2⟩
  · exact o.elim
theorem so_var (i : Nat) {x : Str} {pos : Pos} (hN : X.N[i]? = some x := by rfl) (hv : Vis X.env.scope x := by first | exact Or.inl rfl | exact Or.inr (Or.inl rfl) | exact Or.inr (Or.inr rfl)) (hd : (x == ("__debug__" : Str)) = false := by decide)
    (hcd : (x == ("__classdict__" : Str)) = false := by decide) : SimO X W (.Name x pos) (ro i) := by
  refine PE.imp (pe_var (i := i) hN hv hd hcd) fun σ H Q ⟨B, F, ρ, rl, o⟩ => ?_
  unfold ro at o
  split at o
  · rename_i d e
    obtain ⟨v, h1, h2⟩ := rl.sl i _ e
    cases h2 with
    | val h2 => exact ⟨v, h1, o v F H (.refl rl.fh) (.val h2)⟩
  · rename_i d e
    obtain ⟨v, h1, h2⟩ := rl.sl i _ e
    cases h2 with
    | own h2 _ _ => exact ⟨_, h1, o _ F H (.refl rl.fh) (.own h2)⟩
  · exact o.elim
theorem SimE.o {e : Expr} {p : Ex} (h : SimE X W e p) : SimO X W e p := by
  refine PE.imp h fun σ H Q ⟨B, F, ρ, rl, o⟩ => ⟨B, F, ρ, rl, ?_⟩
  cases q : p ρ with
  | ok d => rw [q] at o; exact fun v F' H' g r => o v F' H' g (.val r)
  | error er =>
    rw [q] at o
    cases er with
    | stuck => exact o
    | exc c x => exact o
theorem se_cst {e : Expr} {v : V} {d : D} (h : PE X e (tC v)) (q : ∀ F, Dt X.gm F v d) : SimE X W e (cst d) :=
  PE.imp h fun σ H Q ⟨B, F, ρ, rl, o⟩ => o v F H (.refl rl.fh) (q F)
theorem se_int {i : Int} {j} {pos : Pos} : SimE X W (.Constant (.int i) j pos) (cst (.int i)) := se_cst pe_int fun _ => .int i
theorem se_bl {b : Bool} {j} {pos : Pos} : SimE X W (.Constant (.bool b) j pos) (cst (.bl b)) := se_cst pe_bl fun _ => .bl b
theorem se_non {j} {pos : Pos} : SimE X W (.Constant .none j pos) (cst .non) := se_cst pe_non fun _ => .non
theorem se_str {x : Str} {j} {pos : Pos} : SimE X W (.Constant (.str x) j pos) (cst (.str x)) := se_cst pe_str fun _ => .str x
/-- a module's constant int -/
theorem se_glob {x : Str} {i : Int} {u : Value} {pos : Pos} (hm : X.mg x = some u) (r : RelV (.int i) u) (hg : Gl X x := by rfl) (hd : (x == ("__debug__" : Str)) = false := by decide) : SimE X W (.Name x pos) (cst (.int i)) :=
  se_cst (pe_glob hg hm r hd) fun _ => .int i

/-! ### argument lists -/
def aNil : Nv → Res (List D) := fun _ => .ok []
def aCons (p : Ex) (q : Nv → Res (List D)) : Nv → Res (List D) := fun ρ => do
  let d ← p ρ
  let ds ← q ρ
  .ok (d :: ds)
theorem sa_nil : SimA X W [] aNil := PA.imp pa_nil fun σ H Q ⟨B, F, ρ, rl, o⟩ => o [] F H (.refl rl.fh) .nil
theorem sa_cons {e : Expr} {es : List Expr} {p : Ex} {q : Nv → Res (List D)} (h : SimE X W e p) (k : SimA X W es q) (hs : starEach (e :: es) X.env = (false, eval e X.env) :: starEach es X.env := by rfl) : SimA X W (e :: es) (aCons p q) := by
  refine PA.imp (pa_cons h k hs) fun σ H Q ⟨B, F, ρ, rl, o⟩ => ?_
  refine tG_bind anti_A (f := fun d ρ => q ρ >>= fun ds => .ok (d :: ds)) rl o fun d v F1 H1 e1 g1 r1 q1 o1 => ?_
  refine tG_bind anti_A (f := fun ds ρ => .ok (d :: ds)) r1 o1 fun ds vs F2 H2 e2 g2 r2 q2 o2 => ?_
  exact o2 (v :: vs) F2 H2 (.refl r2.fh) (.cons (Dt.mono g2.ff q1) q2)

/-! ### operators by values -/
/-- the plain result gives all that is wanted -/
def okS (mg : Gm) (F H : Hp) (Q : VK) : Res Sl → Prop
  | .ok s => ∀ v F' H', Grow F H F' H' → RS mg H F' H' v s → Q v H'
  | .error _ => False
def okB (H : Hp) (Q : VK) : Res Bool → Prop
  | .ok b => Q (.bl b) H
  | .error _ => False
/-- a plain operator on two operands -/
def rOp (mg : Gm) (f : D → D → Res Sl) : R2 := fun x y H Q => ∃ F d e, Sub F H ∧ DtO mg F H x d ∧ DtO mg F H y e ∧ okS mg F H Q (f d e)
def noExc {α : Type} : Res α → Res α
  | .ok d => .ok d
  | .error _ => stk
def op2 (f : D → D → Res Sl) (p q : Ex) : Nv → Res Sl := fun ρ => do
  let d ← p ρ
  let e ← q ρ
  noExc (f d e)
theorem sn_op {a b : Expr} {op : Operator} {pos : Pos} {p q : Ex} {f : D → D → Res Sl} (ho : OpR X (binaryOp op) (rOp X.gm f)) (ha : SimO X W a p) (hb : SimO X W b q) : SimN X W (.BinOp a op b pos) (op2 f p q) := by
  refine PE.imp (pe_op ho ha hb) fun σ H Q ⟨B, F, ρ, rl, o⟩ => ?_
  refine tG_bind anti_S (f := fun d ρ => q ρ >>= fun e => noExc (f d e)) rl o fun d v F1 H1 e1 g1 r1 q1 o1 => ?_
  refine tG_bind anti_S (f := fun e ρ => noExc (f d e)) r1 o1 fun e u F2 H2 e2 g2 r2 q2 o2 => ?_
  refine ⟨F2, d, e, r2.fh, DtO.grow g2 q1, q2, ?_⟩
  cases z : f d e with
  | ok s => rw [z] at o2; exact o2
  | error er => rw [z] at o2; exact o2
/-- a new object is frozen -/
def frz (p : Nv → Res Sl) : Ex := fun ρ => do
  match ← p ρ with
  | .val d => .ok d
  | .own d => .ok d
theorem SimN.e {e : Expr} {p : Nv → Res Sl} (h : SimN X W e p) : SimE X W e (frz p) := by
  refine PE.imp h fun σ H Q ⟨B, F, ρ, rl, o⟩ => ⟨B, F, ρ, rl, ?_⟩
  have o : Out X.gm W (RV X.gm) F H σ (p ρ >>= fun s => match s with | .val d => .ok d | .own d => .ok d) Q := o
  cases q : p ρ with
  | error er =>
    rw [q] at o
    cases er with
    | stuck => exact o
    | exc c x => exact o
  | ok s =>
    rw [q] at o
    intro v F1 H1 g q1
    cases s with
    | val d => exact o v F1 H1 g q1
    | own d =>
      obtain ⟨a, rfl, h1, h2, h3⟩ := q1
      obtain ⟨ob, h4⟩ := h1.some
      exact o (.ref a) (upd F1 a ob) H1 (g.freeze h3 h4 h2) (OwnAt.dt (h1.mono (.new h2) (by rw [upd_same, h4])))
end
end Sim

/-! Sim2: operators and comparisons on plain values. -/
namespace Sim
open PySem L2

section
variable {mg : Gm} {F H : Hp} {v : V}
theorem DtO.int {i : Int} (h : DtO mg F H v (.int i)) : v = .int i := by
  cases h with
  | val h => cases h; rfl
  | own h => cases h
theorem DtO.bl {b : Bool} (h : DtO mg F H v (.bl b)) : v = .bl b := by
  cases h with
  | val h => cases h; rfl
  | own h => cases h
theorem DtO.str {b : Str} (h : DtO mg F H v (.str b)) : v = .str b := by
  cases h with
  | val h => cases h; rfl
  | own h => cases h
theorem DtO.non (h : DtO mg F H v .non) : v = .non := by
  cases h with
  | val h => cases h; rfl
  | own h => cases h
/-- a known tuple -/
def TupF (F : Hp) (a : Addr) (vs : List V) : Prop := ∃ o : Obj, F a = some (.frz o (.tup vs)) ∧ o.dict = none
theorem TupF.sqt {K : PySem.W.Frag} {a : Addr} {vs : List V} (h : TupF H a vs) : SqT K H a vs := let ⟨o, e, _⟩ := h; .inl (.inr ⟨o, e⟩)
theorem TupF.dt {a : Addr} {vs : List V} {ds : List D} (h : TupF F a vs) (q : Dts mg F vs ds) : Dt mg F (.ref a) (.tup ds) := let ⟨_, e, d⟩ := h; .tup e d q
theorem TupF.mono {a : Addr} {vs : List V} (h : TupF F a vs) (s : Sub F H) : TupF H a vs := let ⟨o, e, d⟩ := h; ⟨o, s _ _ e, d⟩
theorem DtO.tup {ds : List D} (fh : Sub F H) (h : DtO mg F H v (.tup ds)) : ∃ a vs, v = .ref a ∧ TupF H a vs ∧ TupF F a vs ∧ Dts mg F vs ds := by
  cases h with
  | val h => cases h with | tup h d q => exact ⟨_, _, rfl, ⟨_, fh _ _ h, d⟩, ⟨_, h, d⟩, q⟩
  | own h => cases h
theorem DtO.lst {ds : List D} (fh : Sub F H) (h : DtO mg F H v (.lst ds)) : ∃ a vs, v = .ref a ∧ H a = some (.lst vs) ∧ Dts mg F vs ds := by
  cases h with
  | val h => cases h with | lst h q => exact ⟨_, _, rfl, fh _ _ h, q⟩
  | own h => cases h with | lst h q => exact ⟨_, _, rfl, h, q⟩
theorem DtO.dI {ds : List (Int × D)} (fh : Sub F H) (h : DtO mg F H v (.dI ds)) : ∃ a ks, v = .ref a ∧ H a = some (.dK ks) ∧ DkI mg F ks ds := by
  cases h with
  | val h => cases h with | dI h q => exact ⟨_, _, rfl, fh _ _ h, q⟩
  | own h => cases h with | dI h q => exact ⟨_, _, rfl, h, q⟩
theorem DtO.dT {ds : List (List Int × D)} (fh : Sub F H) (h : DtO mg F H v (.dT ds)) : ∃ a ks, v = .ref a ∧ H a = some (tdO mg a ks) ∧ DkT mg F ks ds := by
  cases h with
  | val h => cases h with | dT h q => exact ⟨_, _, rfl, fh _ _ h, q⟩
  | own h => cases h with | dT h q => exact ⟨_, _, rfl, h, q⟩
theorem DtO.tab {d : D} {k : Int} (fh : Sub F H) (h : DtO mg F H v (.tab d k)) : ∃ a C dx v1, v = .ref a ∧ mg.mg "Table" = some (.ref C) ∧ H a = some (.ins C dx [("rows", v1), ("kinds", .int k)]) ∧ Dt mg F v1 d := by
  cases h with
  | val h => cases h with | tab m h q => exact ⟨_, _, _, _, rfl, m, fh _ _ h, q⟩
  | own h => cases h
theorem DtO.scr {ns : List Int} (fh : Sub F H) (h : DtO mg F H v (.scr ns)) : ∃ a, v = .ref a ∧ SqL mg.K H a (ns.map V.int) := by
  cases h with
  | val h => cases h with | scr h => exact ⟨_, rfl, sqL_mono fh h⟩
  | own h => cases h
theorem Dt.dtO {d : D} (h : Dt mg F v d) : DtO mg F H v d := .val h
end

/-! ### data -/
mutual
def toPy : D → PyData
  | .non => .none
  | .bl b => .bool b
  | .int i => .int i
  | .str x => .str x
  | .tup xs => .tuple (toPys xs)
  | .lst xs => .list (toPys xs)
  | .dI _ => .none
  | .dT _ => .none
  | .tab _ _ => .none
  | .scr _ => .none
def toPys : List D → List PyData
  | [] => []
  | d :: ds => toPy d :: toPys ds
end
mutual
/-- None, bools, ints, plain texts, tuples, lists of such, at most n deep -/
def okD : Nat → D → Bool
  | _, .non => true
  | _, .bl _ => true
  | _, .int _ => true
  | _, .str x => PyData.strOk x
  | 0, .tup _ => false
  | n + 1, .tup xs => okDs n xs
  | 0, .lst _ => false
  | n + 1, .lst xs => okDs n xs
  | _, .dI _ => false
  | _, .dT _ => false
  | _, .tab _ _ => false
  | _, .scr _ => false
def okDs : Nat → List D → Bool
  | _, [] => true
  | n, d :: ds => okD n d && okDs n ds
end
mutual
theorem okD_lay : ∀ (n : Nat) (d : D), okD n d = true → (toPy d).canLay0 = true ∧ (toPy d).depth ≤ n
  | _, .non, _ => by simp [toPy, PyData.canLay0, PyData.depth]
  | _, .bl _, _ => by simp [toPy, PyData.canLay0, PyData.depth]
  | _, .int _, _ => by simp [toPy, PyData.canLay0, PyData.depth]
  | _, .str x, h => by
    unfold okD at h
    simp [toPy, PyData.canLay0, PyData.depth, h]
  | 0, .tup xs, h => by simp [okD] at h
  | n + 1, .tup xs, h => by
    have q := okDs_lay n xs (by simpa [okD] using h)
    simp [toPy, PyData.canLay0, PyData.depth, q.1, q.2]
  | 0, .lst xs, h => by simp [okD] at h
  | n + 1, .lst xs, h => by
    have q := okDs_lay n xs (by simpa [okD] using h)
    simp [toPy, PyData.canLay0, PyData.depth, q.1, q.2]
  | _, .dI _, h => by simp [okD] at h
  | _, .dT _, h => by simp [okD] at h
  | _, .tab _ _, h => by simp [okD] at h
  | _, .scr _, h => by simp [okD] at h
theorem okDs_lay : ∀ (n : Nat) (ds : List D), okDs n ds = true → PyData.canLayAll0 (toPys ds) = true ∧ PyData.depthAll (toPys ds) ≤ n
  | _, [], _ => by simp [toPys, PyData.canLayAll0, PyData.depthAll]
  | n, d :: ds, h => by
    have h' : okD n d = true ∧ okDs n ds = true := by simpa [okDs] using h
    have q := okD_lay n d h'.1
    have q2 := okDs_lay n ds h'.2
    simp only [toPys, PyData.canLayAll0, PyData.depthAll, q.1, q2.1, Bool.and_self, true_and]
    omega
end
theorem okD_shaped {d : D} (h : okD 60 d = true) : SeqAt.shaped (toPy d) = true := by
  obtain ⟨h1, h2⟩ := okD_lay 60 d h
  unfold SeqAt.shaped
  rw [h1, Bool.true_and]
  exact decide_eq_true (by omega)
def eqD (a b : D) : Bool := PyData.eqv (toPy a) (toPy b)

mutual
theorem Dt.dp {K : PySem.W.Frag} {mg : Gm} {F H : Hp} (fh : Sub F H) : ∀ (n : Nat) (d : D) {v : V}, okD n d = true → Dt mg F v d → Dp K H v (toPy d)
  | _, .non, _, _, h => by cases h; exact .non
  | _, .bl b, _, _, h => by cases h; exact .bl b
  | _, .int b, _, _, h => by cases h; exact .int b
  | _, .str b, _, _, h => by cases h; exact .str b
  | 0, .tup xs, _, k, h => by simp [okD] at k
  | n + 1, .tup xs, _, k, h => by
    cases h with
    | tup h d q =>
      rw [toPy]
      exact .tup (.inl (.inr ⟨_, fh _ _ h⟩)) (Dts.dp fh n xs (by simpa [okD] using k) q)
  | 0, .lst xs, _, k, h => by simp [okD] at k
  | n + 1, .lst xs, _, k, h => by
    cases h with
    | lst h q =>
      rw [toPy]
      exact .lst (SqL.of (fh _ _ h)) (Dts.dp fh n xs (by simpa [okD] using k) q)
  | _, .dI _, _, k, _ => by simp [okD] at k
  | _, .dT _, _, k, _ => by simp [okD] at k
  | _, .tab _ _, _, k, _ => by simp [okD] at k
  | _, .scr _, _, k, _ => by simp [okD] at k
theorem Dts.dp {K : PySem.W.Frag} {mg : Gm} {F H : Hp} (fh : Sub F H) : ∀ (n : Nat) (ds : List D) {vs : List V}, okDs n ds = true → Dts mg F vs ds → DpAll K H vs (toPys ds)
  | _, [], _, _, h => by cases h; exact .nil
  | n, d :: ds, _, k, h => by
    have h' : okD n d = true ∧ okDs n ds = true := by simpa [okDs] using k
    cases h with
    | cons h q => exact .cons (Dt.dp fh n d h'.1 h) (Dts.dp fh n ds h'.2 q)
end
theorem DtO.dp {K : PySem.W.Frag} {mg : Gm} {F H : Hp} (fh : Sub F H) {d : D} {v : V} (k : okD 60 d = true) (h : DtO mg F H v d) : Dp K H v (toPy d) := by
  cases h with
  | val h => exact h.dp fh 60 d k
  | own h =>
    cases h with
    | lst h q =>
      rw [toPy]
      exact .lst (SqL.of h) (Dts.dp fh 59 _ (by simpa [okD] using k) q)
    | dI h q => simp [okD] at k
    | dT h q => simp [okD] at k

/-! ### + - * // % ** -/
abbrev lim : Nat := 16777216
def opAdd : D → D → Res Sl
  | .int i, .int j => .ok (.val (.int (i + j)))
  | .tup xs, .tup ys => if xs.length + ys.length ≤ lim then .ok (.val (.tup (xs ++ ys))) else stk
  | .lst xs, .lst ys => if xs.length + ys.length ≤ lim then .ok (.own (.lst (xs ++ ys))) else stk
  | _, _ => stk
def opSub : D → D → Res Sl
  | .int i, .int j => .ok (.val (.int (i - j)))
  | _, _ => stk
/-- a small factor -/
@[irreducible] def smI (i : Int) : Bool := decide (-(2 ^ 64) < i) && decide (i < 2 ^ 64)
@[irreducible] def smP (i j : Int) : Bool := decide (0 ≤ j) && decide (j ≤ 1000000) && decide (i.natAbs < 2 ^ 64)
@[irreducible] def smL (n : Nat) (k : Int) : Bool := decide (-(2 ^ 63) ≤ k) && decide (k < 2 ^ 63) && decide (n * k.toNat ≤ lim)
theorem smI_ok {i : Int} (h : smI i = true) : -(2 ^ 64) < i ∧ i < 2 ^ 64 := by
  unfold smI at h
  rw [Bool.and_eq_true] at h
  exact ⟨of_decide_eq_true h.1, of_decide_eq_true h.2⟩
theorem smP_ok {i j : Int} (h : smP i j = true) : 0 ≤ j ∧ j ≤ 1000000 ∧ i.natAbs < 2 ^ 64 := by
  unfold smP at h
  rw [Bool.and_eq_true, Bool.and_eq_true] at h
  exact ⟨of_decide_eq_true h.1.1, of_decide_eq_true h.1.2, of_decide_eq_true h.2⟩
theorem smL_ok {n : Nat} {k : Int} (h : smL n k = true) : -(2 ^ 63) ≤ k ∧ k < 2 ^ 63 ∧ n * k.toNat ≤ lim := by
  unfold smL at h
  rw [Bool.and_eq_true, Bool.and_eq_true] at h
  exact ⟨of_decide_eq_true h.1.1, of_decide_eq_true h.1.2, of_decide_eq_true h.2⟩
def opMul : D → D → Res Sl
  | .int i, .int j => if (smI i || smI j) = true then .ok (.val (.int (i * j))) else stk
  | .tup xs, .int k => if -1000 ≤ k ∧ k ≤ 1000 ∧ xs.length ≤ 1000 then .ok (.val (.tup (List.replicate k.toNat xs).flatten)) else stk
  | .lst xs, .int k => if smL xs.length k = true then .ok (.own (.lst (List.replicate k.toNat xs).flatten)) else stk
  | _, _ => stk
def opDiv : D → D → Res Sl
  | .int i, .int j => if 0 < j ∧ j < 1073741824 then .ok (.val (.int (i / j))) else stk
  | _, _ => stk
def opMod : D → D → Res Sl
  | .int i, .int j => if 0 < j then .ok (.val (.int (i % j))) else stk
  | _, _ => stk
def opPow : D → D → Res Sl
  | .int i, .int j => if smP i j = true then .ok (.val (.int (i ^ j.toNat))) else stk
  | _, _ => stk

section
variable {X : Cx} {F H : Hp} {x y : V}
theorem OpR.imp {f : Value → Value → Sem Value} {r r' : R2} (h : OpR X f r) (q : ∀ x y H Q, r' x y H Q → r x y H Q) : OpR X f r' :=
  fun pins s σ H x y v u Q I r1 r2 z => h pins s σ H x y v u Q I r1 r2 (q _ _ _ _ z)
/-- an operator by two rules: which one, is told by the plain values -/
theorem OpR.ex {f : Value → Value → Sem Value} {r : R2} (h : ∀ x y H Q, r x y H Q → ∃ r', OpR X f r' ∧ r' x y H Q) : OpR X f r :=
  fun pins s σ H x y v u Q I r1 r2 z => let ⟨r', h1, h2⟩ := h x y H Q z; h1 pins s σ H x y v u Q I r1 r2 h2
theorem lim_eq : sizeLine = lim := sizeLine_eq
theorem grow_tup {mg : Gm} {p : Addr} {o : Obj} {vs : List V} {ds : List D} (fh : Sub F H) (od : o.dict = none) (np : H p = none) (q : Dts mg F vs ds) : Grow F H (upd F p (.frz o (.tup vs))) (upd H p (.frz o (.tup vs))) ∧ Dt mg (upd F p (.frz o (.tup vs))) (.ref p) (.tup ds) :=
  ⟨.new fh np, .tup upd_same od (q.mono (.new (fh.noneOf np)))⟩
theorem grow_lst {mg : Gm} {p : Addr} {vs : List V} {ds : List D} (fh : Sub F H) (np : H p = none) (q : Dts mg F vs ds) : Grow F H F (upd H p (.lst vs)) ∧ RS mg H F (upd H p (.lst vs)) (.ref p) (.own (.lst ds)) :=
  ⟨.newO fh np, p, rfl, .lst upd_same q, fh.noneOf np, np⟩
theorem Dts.nil_iff {mg : Gm} {F : Hp} {vs : List V} {ds : List D} (q : Dts mg F vs ds) : vs = [] ↔ ds = [] := by
  cases q <;> simp
theorem opr_add : OpR X (binaryOp .Add) (rOp X.gm opAdd) := by
  refine OpR.ex fun x y H Q ⟨F, d, e, fh, hx, hy, o⟩ => ?_
  unfold opAdd at o
  split at o
  · rename_i i j
    exact ⟨_, op_add, i, j, hx.int, hy.int, o _ F H (.refl fh) (.int _)⟩
  · rename_i xs ys
    split at o
    · rename_i hz
      obtain ⟨a, vs, rfl, h1, f1, q1⟩ := hx.tup fh
      obtain ⟨b, ws, rfl, h2, f2, q2⟩ := hy.tup fh
      refine ⟨_, on_cat, a, b, vs, ws, rfl, rfl, h1.sqt, h2.sqt, by rw [q1.length, q2.length, lim_eq]; exact hz, fun e => ?_, fun e1 e => ?_, fun e1 e2 p od hd np => ?_⟩
      · subst e
        have := q1.nil_iff.mp rfl
        subst this
        exact o _ F H (.refl fh) (f2.dt q2)
      · subst e
        have := q2.nil_iff.mp rfl
        subst this
        rw [List.append_nil] at o
        exact o _ F H (.refl fh) (f1.dt q1)
      · obtain ⟨g, t⟩ := grow_tup fh hd np (q1.append q2)
        exact o _ _ _ g t
    · exact o.elim
  · rename_i xs ys
    split at o
    · rename_i hz
      obtain ⟨a, vs, rfl, h1, q1⟩ := hx.lst fh
      obtain ⟨b, ws, rfl, h2, q2⟩ := hy.lst fh
      refine ⟨_, op_cat, a, b, vs, ws, rfl, rfl, h1, h2, by rw [q1.length, q2.length, lim_eq]; exact hz, fun p np => ?_⟩
      obtain ⟨g, t⟩ := grow_lst fh np (q1.append q2)
      exact o _ _ _ g t
    · exact o.elim
  · exact o.elim
theorem opr_sub : OpR X (binaryOp .Sub) (rOp X.gm opSub) := by
  refine OpR.ex fun x y H Q ⟨F, d, e, fh, hx, hy, o⟩ => ?_
  unfold opSub at o
  split at o
  · rename_i i j
    exact ⟨_, op_sub, i, j, hx.int, hy.int, o _ F H (.refl fh) (.int _)⟩
  · exact o.elim
theorem opr_mul : OpR X (binaryOp .Mult) (rOp X.gm opMul) := by
  refine OpR.ex fun x y H Q ⟨F, d, e, fh, hx, hy, o⟩ => ?_
  unfold opMul at o
  split at o
  · rename_i i j
    split at o
    · rename_i hc
      have hc : (-(2 ^ 64) < i ∧ i < 2 ^ 64) ∨ (-(2 ^ 64) < j ∧ j < 2 ^ 64) := by
        rcases (Bool.or_eq_true _ _).mp hc with h | h
        · exact .inl (smI_ok h)
        · exact .inr (smI_ok h)
      exact ⟨_, op_mul, i, j, hx.int, hy.int, hc, o _ F H (.refl fh) (.int _)⟩
    · exact o.elim
  · rename_i xs k
    split at o
    · rename_i hc
      obtain ⟨a, vs, rfl, h1, f1, q1⟩ := hx.tup fh
      refine ⟨_, on_rep, a, k, vs, rfl, hy.int, h1.sqt, hc.1, hc.2.1, by rw [q1.length]; exact hc.2.2, fun e => ?_, fun _ p od hd np => ?_⟩
      · have e2 : (List.replicate k.toNat xs).flatten = xs := by
          rcases e with e | e
          · rw [q1.nil_iff.mp e]; simp
          · subst e; simp
        rw [e2] at o
        exact o _ F H (.refl fh) (f1.dt q1)
      · obtain ⟨g, t⟩ := grow_tup fh hd np (q1.rep k.toNat)
        exact o _ _ _ g t
    · exact o.elim
  · rename_i xs k
    split at o
    · rename_i hc
      have hc := smL_ok hc
      obtain ⟨a, vs, rfl, h1, q1⟩ := hx.lst fh
      refine ⟨_, op_rep, a, k, vs, rfl, hy.int, h1, hc.1, hc.2.1, by rw [q1.length, lim_eq]; exact hc.2.2, fun p np => ?_⟩
      obtain ⟨g, t⟩ := grow_lst fh np (q1.rep k.toNat)
      exact o _ _ _ g t
    · exact o.elim
  · exact o.elim
theorem opr_div : OpR X (binaryOp .FloorDiv) (rOp X.gm opDiv) := by
  refine OpR.ex fun x y H Q ⟨F, d, e, fh, hx, hy, o⟩ => ?_
  unfold opDiv at o
  split at o
  · rename_i i j
    split at o
    · rename_i hc
      exact ⟨_, op_fdiv, i, j, hx.int, hy.int, hc, o _ F H (.refl fh) (.int _)⟩
    · exact o.elim
  · exact o.elim
theorem opr_mod : OpR X (binaryOp .Mod) (rOp X.gm opMod) := by
  refine OpR.ex fun x y H Q ⟨F, d, e, fh, hx, hy, o⟩ => ?_
  unfold opMod at o
  split at o
  · rename_i i j
    split at o
    · rename_i hc
      exact ⟨_, op_mod, i, j, hx.int, hy.int, hc, o _ F H (.refl fh) (.int _)⟩
    · exact o.elim
  · exact o.elim
theorem opr_pow : OpR X (binaryOp .Pow) (rOp X.gm opPow) := by
  refine OpR.ex fun x y H Q ⟨F, d, e, fh, hx, hy, o⟩ => ?_
  unfold opPow at o
  split at o
  · rename_i i j
    split at o
    · rename_i hc
      exact ⟨_, op_pow, i, j, hx.int, hy.int, smP_ok hc, o _ F H (.refl fh) (.int _)⟩
    · exact o.elim
  · exact o.elim
end

/-! ### comparisons: values -/
def rCmp (mg : Gm) (f : D → D → Res Bool) : R2 := fun x y H Q => ∃ F d e, Sub F H ∧ DtO mg F H x d ∧ DtO mg F H y e ∧ okB H Q (f d e)
def cmEq : D → D → Res Bool := fun d e => if okD 60 d = true ∧ okD 60 e = true then .ok (eqD d e) else stk
def cmNe : D → D → Res Bool := fun d e => if okD 60 d = true ∧ okD 60 e = true then .ok (!eqD d e) else stk
def cmInt (p : Int → Int → Bool) : D → D → Res Bool
  | .int i, .int j => .ok (p i j)
  | _, _ => stk
abbrev cmLt := cmInt fun i j => decide (i < j)
abbrev cmLe := cmInt fun i j => decide (i ≤ j)
abbrev cmGt := cmInt fun i j => decide (j < i)
abbrev cmGe := cmInt fun i j => decide (j ≤ i)
/-- a text's beginning word is compared with == too; is: None, bools -/
def isNon : D → Bool
  | .non => true
  | _ => false
def cmIs : D → D → Res Bool
  | d, .non => .ok (isNon d)
  | .bl a, .bl b => .ok (decide (a = b))
  | _, _ => stk
def cmIsNot : D → D → Res Bool
  | d, .non => .ok (!isNon d)
  | .bl a, .bl b => .ok (!decide (a = b))
  | _, _ => stk
def keyT : List D → Option (List Int)
  | [] => some []
  | .int i :: r => (keyT r).map (i :: ·)
  | _ :: _ => none
def getI (kvs : List (Int × D)) (k : Int) : Option D := (kvs.find? fun p => decide (p.1 = k)).map (·.2)
def getT (kvs : List (List Int × D)) (k : List Int) : Option D := (kvs.find? fun p => decide (p.1 = k)).map (·.2)
def cmIn : D → D → Res Bool
  | d, .lst xs => if okD 60 d = true ∧ okDs 59 xs = true then .ok (xs.any fun z => eqD z d) else stk
  | d, .tup xs => if okD 60 d = true ∧ okDs 59 xs = true then .ok (xs.any fun z => eqD z d) else stk
  | .int i, .dI kvs => .ok (getI kvs i).isSome
  | .tup ds, .dT kvs => match keyT ds with
    | some k => .ok (getT kvs k).isSome
    | none => stk
  | _, _ => stk
def rNot (r : Res Bool) : Res Bool := match r with
  | .ok b => .ok (!b)
  | .error e => .error e
def cmNotIn : D → D → Res Bool := fun d e => rNot (cmIn d e)

section
variable {X : Cx}
theorem opr_eq (hu : X.A.units + 64 < cLine) : OpR X (compareOp .Eq) (rCmp X.gm cmEq) := by
  refine OpR.imp (op_eqD hu) fun x y H Q ⟨F, d, e, fh, hx, hy, o⟩ => ?_
  unfold cmEq at o
  split at o
  · rename_i hc
    exact ⟨_, _, hx.dp fh hc.1, hy.dp fh hc.2, okD_shaped hc.1, okD_shaped hc.2, o⟩
  · exact o.elim
theorem opr_ne (hu : X.A.units + 64 < cLine) : OpR X (compareOp .NotEq) (rCmp X.gm cmNe) := by
  refine OpR.imp (op_neD hu) fun x y H Q ⟨F, d, e, fh, hx, hy, o⟩ => ?_
  unfold cmNe at o
  split at o
  · rename_i hc
    exact ⟨_, _, hx.dp fh hc.1, hy.dp fh hc.2, okD_shaped hc.1, okD_shaped hc.2, o⟩
  · exact o.elim
theorem opr_int {op : CmpOp} {p : Int → Int → Bool} (h : OpR X (compareOp op) (rI0 fun i j => .bl (p i j))) : OpR X (compareOp op) (rCmp X.gm (cmInt p)) := by
  refine OpR.imp h fun x y H Q ⟨F, d, e, fh, hx, hy, o⟩ => ?_
  unfold cmInt at o
  split at o
  · exact ⟨_, _, hx.int, hy.int, o⟩
  · exact o.elim
theorem opr_lt : OpR X (compareOp .Lt) (rCmp X.gm cmLt) := opr_int op_lt
theorem opr_le : OpR X (compareOp .LtE) (rCmp X.gm cmLe) := opr_int op_le
theorem opr_gt : OpR X (compareOp .Gt) (rCmp X.gm cmGt) := opr_int op_gt
theorem opr_ge : OpR X (compareOp .GtE) (rCmp X.gm cmGe) := opr_int op_ge
theorem DtO.isNon {mg : Gm} {F H : Hp} {v : V} {d : D} (h : DtO mg F H v d) : decide (v = .non) = isNon d := by
  cases h with
  | val h => cases h <;> rfl
  | own h => cases h <;> rfl
theorem opr_is : OpR X (compareOp .Is) (rCmp X.gm cmIs) := by
  refine OpR.ex fun x y H Q ⟨F, d, e, fh, hx, hy, o⟩ => ?_
  unfold cmIs at o
  split at o
  · exact ⟨_, op_isN, hy.non, by rw [hx.isNon]; exact o⟩
  · exact ⟨_, op_isBl, _, _, hx.bl, hy.bl, o⟩
  · exact o.elim
theorem opr_isnot : OpR X (compareOp .IsNot) (rCmp X.gm cmIsNot) := by
  refine OpR.ex fun x y H Q ⟨F, d, e, fh, hx, hy, o⟩ => ?_
  unfold cmIsNot at o
  split at o
  · exact ⟨_, op_notN, hy.non, by rw [hx.isNon]; exact o⟩
  · exact ⟨_, op_notBl, _, _, hx.bl, hy.bl, o⟩
  · exact o.elim
/-! in -/
def rInT (K : PySem.W.Frag) : R2 := fun x y H Q => ∃ d ds, Dp K H x d ∧ Dp K H y (.tuple ds) ∧ SeqAt.shaped d = true ∧ SeqAt.shaped (.tuple ds) = true ∧ Q (.bl (ds.any fun z => PyData.eqv z d)) H
def rNotInT (K : PySem.W.Frag) : R2 := fun x y H Q => ∃ d ds, Dp K H x d ∧ Dp K H y (.tuple ds) ∧ SeqAt.shaped d = true ∧ SeqAt.shaped (.tuple ds) = true ∧ Q (.bl (!ds.any fun z => PyData.eqv z d)) H
theorem op_inT (hu : X.A.units + 65 < cLine) : OpR X (compareOp .In) (rInT X.K) := by
  intro pins s σ H x y v u Q I rx ry h
  obtain ⟨d, ds, hd, he, sd, se, q⟩ := h
  obtain ⟨as, r1⟩ := Dp.reads I d x v hd rx
  obtain ⟨bs, r2⟩ := Dp.reads I (.tuple ds) y u he ry
  refine SeqAt.in_tuple_reads r2 r1 ?_ (SeqAt.canLay_of_shaped sd) (PyProof.Rows.room_in_shaped sd hu) ⟨.bl _, H, I, rfl, q⟩
  have := SeqAt.canLay_of_shaped se
  simpa [PyData.canLay0] using this
theorem op_notInT (hu : X.A.units + 65 < cLine) : OpR X (compareOp .NotIn) (rNotInT X.K) := by
  intro pins s σ H x y v u Q I rx ry h
  obtain ⟨d, ds, hd, he, sd, se, q⟩ := h
  obtain ⟨as, r1⟩ := Dp.reads I d x v hd rx
  obtain ⟨bs, r2⟩ := Dp.reads I (.tuple ds) y u he ry
  refine SeqAt.notIn_tuple_reads r2 r1 ?_ (SeqAt.canLay_of_shaped sd) (PyProof.Rows.room_in_shaped sd hu) ⟨.bl _, H, I, rfl, q⟩
  have := SeqAt.canLay_of_shaped se
  simpa [PyData.canLay0] using this
theorem toPys_any (d : D) : ∀ xs : List D, ((toPys xs).any fun z => PyData.eqv z (toPy d)) = xs.any fun z => eqD z d
  | [] => rfl
  | x :: xs => by
    rw [toPys, List.any_cons, List.any_cons, toPys_any d xs]
    rfl
theorem DkI.val {mg : Gm} {F : Hp} (i : Int) : ∀ {ks : List (Key × V)} {kvs : List (Int × D)}, DkI mg F ks kvs →
    (valV ks (Sum.inl i : Key)).isSome = (getI kvs i).isSome ∧ ∀ d, getI kvs i = some d → ∃ v, valV ks (Sum.inl i : Key) = some v ∧ Dt mg F v d
  | _, _, .nil => ⟨rfl, fun _ e => by cases e⟩
  | _, _, .cons (i := j) (v := v) (ks := ks) (d := d) (kvs := kvs) h q => by
    have ih := DkI.val (mg := mg) (F := F) i q
    by_cases e : j = i
    · subst e
      have e1 : getI ((j, d) :: kvs) j = some d := by simp [getI]
      have e2 : valV ((Sum.inl j, v) :: ks) (Sum.inl j : Key) = some v := valV_pos rfl
      rw [e1, e2]
      exact ⟨rfl, fun d' e => by cases e; exact ⟨v, rfl, h⟩⟩
    · have e1 : getI ((j, d) :: kvs) i = getI kvs i := by simp [getI, List.find?_cons, e]
      have e2 : valV ((Sum.inl j, v) :: ks) (Sum.inl i : Key) = valV ks (Sum.inl i) := valV_neg fun z => e (Sum.inl.inj z)
      rw [e1, e2]
      exact ih
theorem DkT.val {mg : Gm} {F : Hp} (k : List Int) : ∀ {ks : T3} {kvs : List (List Int × D)}, DkT mg F ks kvs →
    (valT ks k).isSome = (getT kvs k).isSome ∧ ∀ d, getT kvs k = some d → ∃ v, valT ks k = some v ∧ Dt mg F v d
  | _, _, .nil => ⟨rfl, fun _ e => by cases e⟩
  | _, _, .cons (k := j) (b := b) (v := v) (ks := ks) (d := d) (kvs := kvs) _ _ h q => by
    have ih := DkT.val (mg := mg) (F := F) k q
    by_cases e : j = k
    · subst e
      have e1 : getT ((j, d) :: kvs) j = some d := by simp [getT]
      have e2 : valT ((j, b, v) :: ks) j = some v := by simp [valT]
      rw [e1, e2]
      exact ⟨rfl, fun d' e => by cases e; exact ⟨v, rfl, h⟩⟩
    · have e1 : getT ((j, d) :: kvs) k = getT kvs k := by simp [getT, List.find?_cons, e]
      have e2 : valT ((j, b, v) :: ks) k = valT ks k := by simp [valT, List.find?_cons, e]
      rw [e1, e2]
      exact ih
theorem DkT.all {mg : Gm} {F H : Hp} (fh : Sub F H) : ∀ {ks : T3} {kvs : List (List Int × D)}, DkT mg F ks kvs → KAll H ks
  | _, _, .nil => fun x hx => nomatch hx
  | _, _, .cons hb _ _ q => fun x hx => by
    rcases List.mem_cons.mp hx with e | hx
    · subst e; exact ⟨_, fh _ _ hb⟩
    · exact DkT.all fh q x hx
theorem keyT_ints : ∀ {ds : List D} {k : List Int}, keyT ds = some k → ds = k.map D.int
  | [], k, h => by simp [keyT] at h; subst h; rfl
  | .int i :: r, k, h => by
    simp only [keyT, Option.map_eq_some_iff] at h
    obtain ⟨k', h1, rfl⟩ := h
    rw [keyT_ints h1]
    rfl
  | .non :: r, k, h => by simp [keyT] at h
  | .bl _ :: r, k, h => by simp [keyT] at h
  | .str _ :: r, k, h => by simp [keyT] at h
  | .tup _ :: r, k, h => by simp [keyT] at h
  | .lst _ :: r, k, h => by simp [keyT] at h
  | .dI _ :: r, k, h => by simp [keyT] at h
  | .dT _ :: r, k, h => by simp [keyT] at h
  | .tab _ _ :: r, k, h => by simp [keyT] at h
  | .scr _ :: r, k, h => by simp [keyT] at h
theorem key_at {mg : Gm} {F H : Hp} (fh : Sub F H) {v : V} {ds : List D} {k : List Int} (h : DtO mg F H v (.tup ds)) (e : keyT ds = some k) : ∃ b, v = .ref b ∧ TupF H b (k.map V.int) ∧ TupF F b (k.map V.int) := by
  obtain ⟨a, vs, rfl, h1, h2, q⟩ := h.tup fh
  rw [keyT_ints e] at q
  rw [Dts.ints q] at h1 h2
  exact ⟨a, rfl, h1, h2⟩
/-- a list, a tuple, a dict: the rule of membership -/
def rDIn : R2 := fun y x H Q => ∃ a o, x = .ref a ∧ DGet H a y o ∧ Q (.bl o.isSome) H
def rDNotIn : R2 := fun y x H Q => ∃ a o, x = .ref a ∧ DGet H a y o ∧ Q (.bl (!o.isSome)) H
theorem op_dIn (hu : X.A.units + 1 < cLine) : OpR X (compareOp .In) rDIn := by
  intro pins s σ H y x u v Q I r1 r2 h
  obtain ⟨a, o, rfl, g, q⟩ := h
  cases r2
  exact d_in hu I g r1 fun s' I' => ⟨.bl _, H, I', rfl, q⟩
theorem op_dNotIn (hu : X.A.units + 1 < cLine) : OpR X (compareOp .NotIn) rDNotIn := by
  intro pins s σ H y x u v Q I r1 r2 h
  obtain ⟨a, o, rfl, g, q⟩ := h
  cases r2
  exact d_notIn hu I g r1 fun s' I' => ⟨.bl _, H, I', rfl, q⟩
def rTIn (g : Gm) : R2 := fun y x H Q => ∃ a b xs k, x = .ref a ∧ y = .ref b ∧ H a = some (tdO g a xs) ∧ KAll H xs ∧ TupF H b (k.map V.int) ∧ Q (.bl (valT xs k).isSome) H
def rTNotIn (g : Gm) : R2 := fun y x H Q => ∃ a b xs k, x = .ref a ∧ y = .ref b ∧ H a = some (tdO g a xs) ∧ KAll H xs ∧ TupF H b (k.map V.int) ∧ Q (.bl (!(valT xs k).isSome)) H
theorem op_tIn (hu : X.A.units + 1 < cLine) : OpR X (compareOp .In) (rTIn X.gm) := by
  intro pins s σ H y x u v Q I r1 r2 h
  obtain ⟨a, b, xs, k, rfl, rfl, h1, h2, ⟨o, h3, _⟩, q⟩ := h
  cases r2
  cases r1
  exact td_in hu I h1 h2 h3 fun s' I' => ⟨.bl _, H, I', rfl, q⟩
theorem op_tNotIn (hu : X.A.units + 1 < cLine) : OpR X (compareOp .NotIn) (rTNotIn X.gm) := by
  intro pins s σ H y x u v Q I r1 r2 h
  obtain ⟨a, b, xs, k, rfl, rfl, h1, h2, ⟨o, h3, _⟩, q⟩ := h
  cases r2
  cases r1
  exact td_notIn hu I h1 h2 h3 fun s' I' => ⟨.bl _, H, I', rfl, q⟩
theorem okDs_lst {xs : List D} (h : okDs 59 xs = true) : okD 60 (.lst xs) = true := by simpa [okD] using h
theorem okDs_tup {xs : List D} (h : okDs 59 xs = true) : okD 60 (.tup xs) = true := by simpa [okD] using h
theorem opr_in (hu : X.A.units + 65 < cLine) : OpR X (compareOp .In) (rCmp X.gm cmIn) := by
  refine OpR.ex fun x y H Q ⟨F, d, e, fh, hx, hy, o⟩ => ?_
  unfold cmIn at o
  split at o
  · rename_i xs
    split at o
    · rename_i hc
      refine ⟨_, op_inD hu, _, _, hx.dp fh hc.1, ?_, okD_shaped hc.1, okD_shaped (okDs_lst hc.2), by rw [toPys_any]; exact o⟩
      have := hy.dp (K := X.K) fh (okDs_lst hc.2)
      rw [toPy] at this
      exact this
    · exact o.elim
  · rename_i xs
    split at o
    · rename_i hc
      refine ⟨_, op_inT hu, _, _, hx.dp fh hc.1, ?_, okD_shaped hc.1, okD_shaped (okDs_tup hc.2), by rw [toPys_any]; exact o⟩
      have := hy.dp (K := X.K) fh (okDs_tup hc.2)
      rw [toPy] at this
      exact this
    · exact o.elim
  · rename_i i kvs
    obtain ⟨a, ks, rfl, h1, q1⟩ := hy.dI fh
    have e := hx.int
    subst e
    exact ⟨_, op_dIn (by omega), a, _, rfl, DGet.k (k := Sum.inl i) h1, by rw [(q1.val i).1]; exact o⟩
  · rename_i ds kvs
    split at o
    · rename_i k hk
      obtain ⟨a, ks, rfl, h1, q1⟩ := hy.dT fh
      obtain ⟨b, rfl, h2, _⟩ := key_at fh hx hk
      exact ⟨_, op_tIn (by omega), a, b, ks, k, rfl, rfl, h1, q1.all fh, h2, by rw [(q1.val k).1]; exact o⟩
    · exact o.elim
  · exact o.elim
theorem opr_notin (hu : X.A.units + 65 < cLine) : OpR X (compareOp .NotIn) (rCmp X.gm cmNotIn) := by
  refine OpR.ex fun x y H Q ⟨F, d, e, fh, hx, hy, o⟩ => ?_
  obtain ⟨b, o', o⟩ : ∃ b, cmIn d e = .ok b ∧ Q (.bl (!b)) H := by
    unfold cmNotIn at o
    cases z : cmIn d e with
    | ok b => rw [z] at o; exact ⟨b, rfl, o⟩
    | error er => rw [z] at o; exact o.elim
  unfold cmIn at o'
  · split at o'
    · rename_i xs
      split at o'
      · rename_i hc
        cases o'
        refine ⟨_, op_notInD hu, _, _, hx.dp fh hc.1, ?_, okD_shaped hc.1, okD_shaped (okDs_lst hc.2), by rw [toPys_any]; exact o⟩
        have := hy.dp (K := X.K) fh (okDs_lst hc.2)
        rw [toPy] at this
        exact this
      · cases o'
    · rename_i xs
      split at o'
      · rename_i hc
        cases o'
        refine ⟨_, op_notInT hu, _, _, hx.dp fh hc.1, ?_, okD_shaped hc.1, okD_shaped (okDs_tup hc.2), by rw [toPys_any]; exact o⟩
        have := hy.dp (K := X.K) fh (okDs_tup hc.2)
        rw [toPy] at this
        exact this
      · cases o'
    · rename_i i kvs
      cases o'
      obtain ⟨a, ks, rfl, h1, q1⟩ := hy.dI fh
      have e := hx.int
      subst e
      exact ⟨_, op_dNotIn (by omega), a, _, rfl, DGet.k (k := Sum.inl i) h1, by rw [(q1.val i).1]; exact o⟩
    · rename_i ds kvs
      split at o'
      · rename_i k hk
        cases o'
        obtain ⟨a, ks, rfl, h1, q1⟩ := hy.dT fh
        obtain ⟨b, rfl, h2, _⟩ := key_at fh hx hk
        exact ⟨_, op_tNotIn (by omega), a, b, ks, k, rfl, rfl, h1, q1.all fh, h2, by rw [(q1.val k).1]; exact o⟩
      · cases o'
    · cases o'
end
end Sim

/-! Sim3: expressions: comparisons, and/or/not, displays, subscripts, fields. -/
namespace Sim
open PySem L2

section
variable {X : Cx} {W : WX} {a b c e : Expr} {p q r : Ex} {pos : Pos}

/-! ### comparisons -/
def cmp2 (f : D → D → Res Bool) (p q : Ex) : Nv → Res Bool := fun ρ => do
  let d ← p ρ
  let e ← q ρ
  noExc (f d e)
def ofB (t : Nv → Res Bool) : Ex := fun ρ => do
  let b ← t ρ
  .ok (.bl b)
theorem okB_noExc {mg : Gm} {W : WX} {F H : Hp} {σ : St} {f : D → D → Res Bool} {d e : D} {Q : Bool → Hp → Prop} (o : Out mg W RT F H σ (noExc (f d e)) Q) (fh : Sub F H) : okB H (fun x H' => ∃ k, x = .bl k ∧ Q k H') (f d e) := by
  cases z : f d e with
  | ok b => rw [z] at o; exact ⟨b, rfl, o b F H (.refl fh) rfl⟩
  | error er => rw [z] at o; exact o.elim
theorem tst_cmp {op : CmpOp} {f : D → D → Res Bool} {σ : St} {H : Hp} {Q : Bool → Hp → Prop} (h : tG X.gm W RT (cmp2 f p q) σ H Q) : tTest (tOp (rCmp X.gm f) (tG X.gm W (RO X.gm) p) (tG X.gm W (RO X.gm) q)) σ H Q := by
  obtain ⟨B, F, ρ, rl, o⟩ := h
  refine tG_bind anti_T (f := fun d ρ => q ρ >>= fun e => noExc (f d e)) rl o fun d v F1 H1 e1 g1 r1 q1 o1 => ?_
  refine tG_bind anti_T (f := fun e ρ => noExc (f d e)) r1 o1 fun e u F2 H2 e2 g2 r2 q2 o2 => ?_
  exact ⟨F2, d, e, r2.fh, DtO.grow g2 q1, q2, okB_noExc o2 r2.fh⟩
theorem st_cmp {op : CmpOp} {f : D → D → Res Bool} (ho : OpR X (compareOp op) (rCmp X.gm f)) (ha : SimO X W a p) (hb : SimO X W b q) (hm : behindInMarks op b = false := by first | exact nomark _ | rfl) : SimT X W (.Compare a [op] [b] pos) (cmp2 f p q) :=
  PT.imp (pt_cmpR ho ha hb hm) fun σ H Q h => tst_cmp (op := op) h
theorem out_ofB {mg : Gm} {F H : Hp} {σ : St} {r : Res Bool} {Q : VK} (o : Out mg W (RV mg) F H σ (r >>= fun b => .ok (.bl b)) Q) : Out mg W RT F H σ r (fun b H' => Q (.bl b) H') := by
  cases r with
  | ok b => exact fun v F1 H1 g e => o (.bl v) F1 H1 g (by subst e; exact .bl v)
  | error er =>
    cases er with
    | stuck => exact o
    | exc c x => exact o
theorem se_cmp {op : CmpOp} {f : D → D → Res Bool} (ho : OpR X (compareOp op) (rCmp X.gm f)) (ha : SimO X W a p) (hb : SimO X W b q) (hm : behindInMarks op b = false := by first | exact nomark _ | rfl) : SimE X W (.Compare a [op] [b] pos) (ofB (cmp2 f p q)) := by
  refine PE.imp (pe_cmpR ho ha hb hm) fun σ H Q ⟨B, F, ρ, rl, o⟩ => ?_
  have h := tst_cmp (X := X) (W := W) (op := op) (f := f) (p := p) (q := q) (σ := σ) (H := H) (Q := fun b H' => Q (.bl b) H') ⟨B, F, ρ, rl, out_ofB o⟩
  obtain ⟨B2, F2, ρ2, rl2, o2⟩ := h
  refine ⟨B2, F2, ρ2, rl2, Out.imp o2 fun v H1 h1 => ?_⟩
  obtain ⟨B3, F3, ρ3, rl3, o3⟩ := h1
  refine ⟨B3, F3, ρ3, rl3, Out.imp o3 fun v2 H2 h2 => ?_⟩
  obtain ⟨F4, d, e, fh, x1, x2, o4⟩ := h2
  refine ⟨F4, d, e, fh, x1, x2, ?_⟩
  cases z : f d e with
  | ok b =>
    rw [z] at o4
    obtain ⟨k, e5, q5⟩ := o4
    cases e5
    exact q5
  | error er => rw [z] at o4; exact o4.elim
/-! chains -/
def cmp3 (f g : D → D → Res Bool) (p q r : Ex) : Nv → Res Bool := fun ρ => do
  let d ← p ρ
  let e ← q ρ
  let k ← noExc (f d e)
  if k = true then do
    let h ← r ρ
    noExc (g e h)
  else .ok false
theorem tst_cmp3 {op op' : CmpOp} {f g : D → D → Res Bool} {σ : St} {H : Hp} {Q : Bool → Hp → Prop} (h : tG X.gm W RT (cmp3 f g p q r) σ H Q) :
    tTest (tChain (rCmp X.gm f) (rCmp X.gm g) (tG X.gm W (RO X.gm) p) (tG X.gm W (RO X.gm) q) (tG X.gm W (RO X.gm) r)) σ H Q := by
  obtain ⟨B, F, ρ, rl, o⟩ := h
  refine tG_bind anti_T (f := fun d ρ => q ρ >>= fun e => noExc (f d e) >>= fun k => if k = true then (r ρ >>= fun h => noExc (g e h)) else .ok false) rl o fun d v F1 H1 e1 g1 r1 q1 o1 => ?_
  refine tG_bind anti_T (f := fun e ρ => noExc (f d e) >>= fun k => if k = true then (r ρ >>= fun h => noExc (g e h)) else .ok false) r1 o1 fun e u F2 H2 e2 g2 r2 q2 o2 => ?_
  refine ⟨F2, d, e, r2.fh, DtO.grow g2 q1, q2, ?_⟩
  cases z : f d e with
  | error er => rw [z] at o2; exact o2.elim
  | ok k =>
    rw [z] at o2
    refine ⟨k, rfl, ?_⟩
    have o2 : Out X.gm W RT F2 H2 σ (if k = true then (r ρ >>= fun h => noExc (g e h)) else .ok false) Q := o2
    cases k with
    | false =>
      rw [if_neg (by decide)] at o2 ⊢
      exact ⟨false, rfl, o2 false F2 H2 (.refl r2.fh) rfl⟩
    | true =>
      rw [if_pos rfl] at o2 ⊢
      refine tG_bind anti_T (f := fun h ρ => noExc (g e h)) r2 o2 fun h y F3 H3 e3 g3 r3 q3 o3 => ?_
      exact ⟨F3, e, h, r3.fh, DtO.grow g3 q2, q3, okB_noExc o3 r3.fh⟩
theorem st_chain {op op' : CmpOp} {f g : D → D → Res Bool} (ho : OpR X (compareOp op) (rCmp X.gm f)) (ho' : OpR X (compareOp op') (rCmp X.gm g)) (ha : SimO X W a p) (hb : SimO X W b q) (hc : SimO X W c r)
    (hm : lastMarks [op, op'] [b, c] = false := by with_unfolding_all rfl) : SimT X W (.Compare a [op, op'] [b, c] pos) (cmp3 f g p q r) :=
  PT.imp (pt_chain ho ho' ha hb hc hm) fun σ H Q h => tst_cmp3 (op := op) (op' := op') h
theorem okB_imp {H : Hp} {Q Q' : VK} {r : Res Bool} (h : okB H Q r) (q : ∀ b, Q (.bl b) H → Q' (.bl b) H) : okB H Q' r := by
  cases r with
  | ok b => exact q b h
  | error er => exact h
theorem se_chain {op op' : CmpOp} {f g : D → D → Res Bool} (ho : OpR X (compareOp op) (rCmp X.gm f)) (ho' : OpR X (compareOp op') (rCmp X.gm g)) (ha : SimO X W a p) (hb : SimO X W b q) (hc : SimO X W c r)
    (hm : lastMarks [op, op'] [b, c] = false := by with_unfolding_all rfl) : SimE X W (.Compare a [op, op'] [b, c] pos) (ofB (cmp3 f g p q r)) := by
  refine PE.imp (pe_chain ho ho' ha hb hc hm) fun σ H Q ⟨B, F, ρ, rl, o⟩ => ?_
  have h := tst_cmp3 (X := X) (W := W) (op := op) (op' := op') (f := f) (g := g) (p := p) (q := q) (r := r) (σ := σ) (H := H) (Q := fun b H' => Q (.bl b) H') ⟨B, F, ρ, rl, out_ofB o⟩
  obtain ⟨B2, F2, ρ2, rl2, o2⟩ := h
  refine ⟨B2, F2, ρ2, rl2, Out.imp o2 fun v H1 h1 => ?_⟩
  obtain ⟨B3, F3, ρ3, rl3, o3⟩ := h1
  refine ⟨B3, F3, ρ3, rl3, Out.imp o3 fun v2 H2 h2 => ?_⟩
  obtain ⟨F4, d, e, fh, x1, x2, o4⟩ := h2
  refine ⟨F4, d, e, fh, x1, x2, okB_imp o4 fun b ⟨k, ek, h5⟩ => ⟨k, ek, ?_⟩⟩
  cases k with
  | false =>
    rw [if_neg (by decide)] at h5 ⊢
    obtain ⟨k', e', q'⟩ := h5
    cases e'
    exact q'
  | true =>
    rw [if_pos rfl] at h5 ⊢
    obtain ⟨B5, F5, ρ5, rl5, o5⟩ := h5
    refine ⟨B5, F5, ρ5, rl5, Out.imp o5 fun v6 H6 h6 => ?_⟩
    obtain ⟨F7, d7, e7, fh7, x7, y7, o7⟩ := h6
    refine ⟨F7, d7, e7, fh7, x7, y7, okB_imp o7 fun b ⟨k', e', q'⟩ => ?_⟩
    cases e'
    exact q'

/-! ### truth of a value -/
def truD : D → Res Bool
  | .non => .ok false
  | .bl b => .ok b
  | .int i => .ok (i != 0)
  | .tup xs => .ok (!xs.isEmpty)
  | .lst xs => .ok (!xs.isEmpty)
  | .dI kvs => .ok (!kvs.isEmpty)
  | _ => stk
def tru (p : Ex) : Nv → Res Bool := fun ρ => do
  let d ← p ρ
  truD d
theorem Dts.empty {mg : Gm} {F : Hp} {vs : List V} {ds : List D} (q : Dts mg F vs ds) : (!vs.isEmpty) = !ds.isEmpty := by cases q <;> rfl
theorem DkI.empty {mg : Gm} {F : Hp} {vs : List (Key × V)} {ds : List (Int × D)} (q : DkI mg F vs ds) : (!vs.isEmpty) = !ds.isEmpty := by cases q <;> rfl
theorem st_tru (ha : SimO X W a p) (he : ∀ whole, isTrue a X.env whole = (do let v ← whole; standAt a.pos; holding [v] (truthy v)) := by intro _; rfl) : SimT X W a (tru p) := by
  refine PT.imp (pt_truth ha he) fun σ H Q ⟨B, F, ρ, rl, o⟩ => ?_
  refine tG_bind anti_T (f := fun d ρ => truD d) rl o fun d v F1 H1 e1 g1 r1 q1 o1 => ?_
  have fh := r1.fh
  cases d with
  | non => cases q1.non; exact ⟨false, rfl, o1 false F1 H1 (.refl fh) rfl⟩
  | bl b => cases q1.bl; exact ⟨b, rfl, o1 b F1 H1 (.refl fh) rfl⟩
  | int i => cases q1.int; exact ⟨_, rfl, o1 _ F1 H1 (.refl fh) rfl⟩
  | str x => exact o1.elim
  | tup xs =>
    obtain ⟨a, vs, rfl, h1, h2, q2⟩ := q1.tup fh
    exact ⟨_, .inr (.inl ⟨vs, h1.sqt, rfl⟩), o1 _ F1 H1 (.refl fh) q2.empty⟩
  | lst xs =>
    obtain ⟨a, vs, rfl, h1, q2⟩ := q1.lst fh
    exact ⟨_, .inl ⟨vs, SqL.of h1, rfl⟩, o1 _ F1 H1 (.refl fh) q2.empty⟩
  | dI kvs =>
    obtain ⟨a, vs, rfl, h1, q2⟩ := q1.dI fh
    exact ⟨_, .inr (.inr ⟨vs, h1, rfl⟩), o1 _ F1 H1 (.refl fh) q2.empty⟩
  | dT kvs => exact o1.elim
  | tab d k => exact o1.elim
  | scr ns => exact o1.elim

/-! ### and, or, not: tests -/
def tAnd' (t u : Nv → Res Bool) : Nv → Res Bool := fun ρ => do
  let b ← t ρ
  if b = true then u ρ else .ok false
def tOr' (t u : Nv → Res Bool) : Nv → Res Bool := fun ρ => do
  let b ← t ρ
  if b = true then .ok true else u ρ
def tNot' (t : Nv → Res Bool) : Nv → Res Bool := fun ρ => do
  let b ← t ρ
  .ok (!b)
variable {tt uu : Nv → Res Bool} {rest : List Expr}
/-- a test within and | or -/
def SimW (X : Cx) (W : WX) (e : Expr) (p : Nv → Res Bool) : Prop := PW X e (tG X.gm W RT p)
theorem PW.imp {t t' : TT} (h : PW X e t) (q : ∀ σ H Q, t' σ H Q → t σ H Q) : PW X e t' := ⟨fun wh pins s σ H Q I z => h.run wh pins s σ H Q I (q σ H Q z)⟩
theorem SimW.test (h : SimW X W e tt) : SimT X W e tt := L2.PW.pt h
theorem sw_and1 (h : SimT X W a tt) : SimW X W (.BoolOp .And [a] pos) tt := pw_and1 h
theorem sw_or1 (h : SimT X W a tt) : SimW X W (.BoolOp .Or [a] pos) tt := pw_or1 h
theorem sw_and (h : SimT X W a tt) (k : SimW X W (.BoolOp .And (b :: rest) pos) uu) : SimW X W (.BoolOp .And (a :: b :: rest) pos) (tAnd' tt uu) := by
  refine PW.imp (pw_and h k) fun σ H Q ⟨B, F, ρ, rl, o⟩ => ?_
  refine tG_bind anti_T (f := fun b ρ => if b = true then uu ρ else .ok false) rl o fun b v F1 H1 e1 g1 r1 q1 o1 => ?_
  cases q1
  cases b with
  | true => rw [if_pos rfl] at o1 ⊢; exact ⟨B, F1, ρ, r1, o1⟩
  | false => rw [if_neg (by decide)] at o1 ⊢; exact o1 false F1 H1 (.refl r1.fh) rfl
theorem sw_or (h : SimT X W a tt) (k : SimW X W (.BoolOp .Or (b :: rest) pos) uu) : SimW X W (.BoolOp .Or (a :: b :: rest) pos) (tOr' tt uu) := by
  refine PW.imp (pw_or h k) fun σ H Q ⟨B, F, ρ, rl, o⟩ => ?_
  refine tG_bind anti_T (f := fun b ρ => if b = true then .ok true else uu ρ) rl o fun b v F1 H1 e1 g1 r1 q1 o1 => ?_
  cases q1
  cases b with
  | false => rw [if_neg (by decide)] at o1 ⊢; exact ⟨B, F1, ρ, r1, o1⟩
  | true => rw [if_pos rfl] at o1 ⊢; exact o1 true F1 H1 (.refl r1.fh) rfl
theorem st_not (h : SimT X W a tt) : SimT X W (.UnaryOp .Not a pos) (tNot' tt) := by
  refine PT.imp (pt_not h) fun σ H Q ⟨B, F, ρ, rl, o⟩ => ?_
  refine tG_bind anti_T (f := fun b ρ => .ok (!b)) rl o fun b v F1 H1 e1 g1 r1 q1 o1 => ?_
  cases q1
  exact o1 _ F1 H1 (.refl r1.fh) rfl

/-! .. values: bools -/
def asB : D → Res Bool
  | .bl b => .ok b
  | _ => stk
def eAnd (p q : Ex) : Ex := fun ρ => do
  let d ← p ρ
  let b ← asB d
  if b = true then q ρ else .ok (.bl false)
def eOr (p q : Ex) : Ex := fun ρ => do
  let d ← p ρ
  let b ← asB d
  if b = true then .ok (.bl true) else q ρ
def eNot (p : Ex) : Ex := fun ρ => do
  let d ← p ρ
  let b ← asB d
  .ok (.bl (!b))
theorem se_one {op : BoolOp} (h : SimE X W a p) : SimE X W (.BoolOp op [a] pos) p := pe_one h
theorem asB_ok {α : Type} {d : D} {R : Hp → Hp → Hp → α → D → Prop} {F H : Hp} {σ : St} {f : Bool → Res D} {Q : α → Hp → Prop} (o : Out X.gm W R F H σ (asB d >>= f) Q) : ∃ b, d = .bl b ∧ Out X.gm W R F H σ (f b) Q := by
  cases d with
  | bl b => exact ⟨b, rfl, o⟩
  | _ => exact o.elim
theorem se_and (h : SimE X W a p) (k : SimE X W (.BoolOp .And (b :: rest) pos) q) : SimE X W (.BoolOp .And (a :: b :: rest) pos) (eAnd p q) := by
  refine PE.imp (pe_and h k) fun σ H Q ⟨B, F, ρ, rl, o⟩ => ?_
  refine tG_bind anti_V (f := fun d ρ => asB d >>= fun b => if b = true then q ρ else .ok (.bl false)) rl o fun d v F1 H1 e1 g1 r1 q1 o1 => ?_
  obtain ⟨b, rfl, o2⟩ := asB_ok o1
  cases q1
  refine ⟨b, rfl, ?_⟩
  cases b with
  | true => rw [if_pos rfl] at o2 ⊢; exact ⟨B, F1, ρ, r1, o2⟩
  | false => rw [if_neg (by decide)] at o2 ⊢; exact o2 _ F1 H1 (.refl r1.fh) (.bl _)
theorem se_or (h : SimE X W a p) (k : SimE X W (.BoolOp .Or (b :: rest) pos) q) : SimE X W (.BoolOp .Or (a :: b :: rest) pos) (eOr p q) := by
  refine PE.imp (pe_or h k) fun σ H Q ⟨B, F, ρ, rl, o⟩ => ?_
  refine tG_bind anti_V (f := fun d ρ => asB d >>= fun b => if b = true then .ok (.bl true) else q ρ) rl o fun d v F1 H1 e1 g1 r1 q1 o1 => ?_
  obtain ⟨b, rfl, o2⟩ := asB_ok o1
  cases q1
  refine ⟨b, rfl, ?_⟩
  cases b with
  | false => rw [if_neg (by decide)] at o2 ⊢; exact ⟨B, F1, ρ, r1, o2⟩
  | true => rw [if_pos rfl] at o2 ⊢; exact o2 _ F1 H1 (.refl r1.fh) (.bl _)
theorem se_not (h : SimE X W a p) : SimE X W (.UnaryOp .Not a pos) (eNot p) := by
  refine PE.imp (pe_not h) fun σ H Q ⟨B, F, ρ, rl, o⟩ => ?_
  refine tG_bind anti_V (f := fun d ρ => asB d >>= fun b => .ok (.bl (!b))) rl o fun d v F1 H1 e1 g1 r1 q1 o1 => ?_
  obtain ⟨b, rfl, o2⟩ := asB_ok o1
  cases q1
  exact ⟨b, rfl, o2 _ F1 H1 (.refl r1.fh) (.bl _)⟩
def eNeg (p : Ex) : Ex := fun ρ => do
  match ← p ρ with
  | .int i => .ok (.int (-i))
  | _ => stk
theorem se_neg (h : SimE X W a p) : SimE X W (.UnaryOp .USub a pos) (eNeg p) := by
  refine PE.imp (pe_un un_neg h) fun σ H Q ⟨B, F, ρ, rl, o⟩ => ?_
  refine tG_bind anti_V (f := fun d ρ => match d with | .int i => .ok (.int (-i)) | _ => stk) rl o fun d v F1 H1 e1 g1 r1 q1 o1 => ?_
  cases d with
  | int i => cases q1; exact ⟨i, rfl, o1 _ F1 H1 (.refl r1.fh) (.int _)⟩
  | _ => exact o1.elim
def eIf (t : Nv → Res Bool) (p q : Ex) : Ex := fun ρ => do
  let b ← t ρ
  if b = true then p ρ else q ρ
theorem se_if (h : SimT X W c tt) (ha : SimE X W a p) (hb : SimE X W b q) : SimE X W (.IfExp c a b pos) (eIf tt p q) := by
  refine PE.imp (pe_ifExp h ha hb) fun σ H Q ⟨B, F, ρ, rl, o⟩ => ?_
  refine tG_bind anti_V (f := fun b ρ => if b = true then p ρ else q ρ) rl o fun b v F1 H1 e1 g1 r1 q1 o1 => ?_
  cases q1
  cases b with
  | true => rw [if_pos rfl] at o1 ⊢; exact ⟨B, F1, ρ, r1, o1⟩
  | false => rw [if_neg (by decide)] at o1 ⊢; exact ⟨B, F1, ρ, r1, o1⟩

/-! ### displays -/
variable {es : List Expr} {ps : Nv → Res (List D)}
def eTup (ps : Nv → Res (List D)) : Ex := fun ρ => do
  let ds ← ps ρ
  if ds.length ≤ lim then .ok (.tup ds) else stk
def eLst (ps : Nv → Res (List D)) : Nv → Res Sl := fun ρ => do
  let ds ← ps ρ
  if ds.length ≤ lim then .ok (.own (.lst ds)) else stk
theorem se_tup {k : Nat} (h : SimA X W es ps) : SimE X W (.Tuple es k pos) (eTup ps) := by
  refine PE.imp (pn_tup h) fun σ H Q ⟨B, F, ρ, rl, o⟩ => ?_
  refine tG_bind anti_V (f := fun ds ρ => if ds.length ≤ lim then .ok (.tup ds) else stk) rl o fun ds vs F1 H1 e1 g1 r1 q1 o1 => ?_
  have q1 : Dts X.gm F1 vs ds := q1
  split at o1
  · rename_i hz
    refine ⟨by rw [q1.length, lim_eq]; exact hz, fun p od hd np => ?_⟩
    obtain ⟨g, d⟩ := grow_tup r1.fh hd np q1
    exact o1 _ _ _ g d
  · exact o1.elim
theorem sn_lst (h : SimA X W es ps) : SimN X W (.List es pos) (eLst ps) := by
  refine PE.imp (pe_lst h) fun σ H Q ⟨B, F, ρ, rl, o⟩ => ?_
  refine tG_bind anti_S (f := fun ds ρ => if ds.length ≤ lim then .ok (.own (.lst ds)) else stk) rl o fun ds vs F1 H1 e1 g1 r1 q1 o1 => ?_
  have q1 : Dts X.gm F1 vs ds := q1
  split at o1
  · rename_i hz
    refine ⟨by rw [q1.length, lim_eq]; exact hz, fun p np => ?_⟩
    obtain ⟨g, d⟩ := grow_lst r1.fh np q1
    exact o1 _ _ _ g d
  · exact o1.elim

/-! ### subscripts -/
def ixD : D → D → Res D
  | .lst xs, .int i => match atI xs i with
    | some d => .ok d
    | none => stk
  | .tup xs, .int i => match atI xs i with
    | some d => .ok d
    | none => stk
  | .scr ns, .int i => match atI ns i with
    | some n => .ok (.int n)
    | none => stk
  | .dI kvs, .int i => match getI kvs i with
    | some d => .ok d
    | none => stk
  | .dT kvs, .tup ds => match keyT ds with
    | some k => match getT kvs k with
      | some d => .ok d
      | none => stk
    | none => stk
  | _, _ => stk
def rIxD (mg : Gm) : R2 := fun x y H Q => ∃ F d e, Sub F H ∧ DtO mg F H x d ∧ DtO mg F H y e ∧ ∃ z, ixD d e = .ok z ∧ ∀ v, Dt mg F v z → Q v H
theorem atI_dts {mg : Gm} {F : Hp} {vs : List V} {ds : List D} {i : Int} {d : D} (q : Dts mg F vs ds) (h : atI ds i = some d) : ∃ v, atI vs i = some v ∧ Dt mg F v d := by
  unfold atI at h ⊢
  rw [q.length]
  cases e : ixN ds.length i with
  | none => rw [e] at h; cases h
  | some j => rw [e] at h; exact q.get h
theorem atI_map {α β : Type} (f : α → β) (xs : List α) (i : Int) : atI (xs.map f) i = (atI xs i).map f := by
  unfold atI
  rw [List.length_map]
  cases ixN xs.length i with
  | none => rfl
  | some j => simp
theorem tail_D {prog : Program} {w : World} {A : Around} {E : Value → Shared → Prop} {s : Shared} {value slice : Expr} {T id : String} {o i : Value} {Q : Value → Shared → Prop}
    (hl : typeLookup (.type T) "__getitem__" = pure (some (.builtin id))) (hs : subscripted slice false o i = operate [o, i] (getItem o i)) (hT : s.TypeIs o T) (h : wpAny (model prog w) A (getItem o i) Q E s) :
    wpAny (model prog w) A (PyProof.Rows.subscriptTail value slice o i) Q E s := by
  unfold PyProof.Rows.subscriptTail
  refine wpAny_bind ?_
  rw [getitemInPython_of_ne hT.not_modules]
  refine wpAny_bind (wpAny_specialOf hT hl ?_)
  have fin : wpAny (model prog w) A (subscripted slice false o i) (fun r s₃ => wpAny (model prog w) A (letTemporaryGo value o r >>= fun _ => pure r) Q E s₃) E s := by
    rw [hs]
    exact wpAny_operating (wpAny_mono h (fun r s₃ h₃ => wpAny_bind (wpAny_letTemporaryGo (wpAny_pure h₃))) fun _ _ x => x)
  first
    | exact wpAny_pure (wpAny_bind fin)
    | exact wpAny_bind (wpAny_pure (wpAny_bind fin))
    | exact wpAny_bind fin
theorem ixr_D (hu : X.A.units + 1 < cLine) : IxR X (rIxD X.gm) := by
  intro value slice pins s σ H x y v u Q I rx ry h hs
  obtain ⟨F, d, e, fh, hx, hy, z, hz, q⟩ := h
  cases d with
  | lst xs =>
    cases e with
    | int i =>
      have e1 := hy.int
      subst e1
      obtain ⟨a, vs, rfl, h1, q1⟩ := hx.lst fh
      simp only [ixD] at hz
      cases e2 : atI xs i with
      | none => rw [e2] at hz; cases hz
      | some d =>
        rw [e2] at hz
        cases hz
        obtain ⟨w, h3, h4⟩ := atI_dts q1 e2
        exact ix_list _ _ pins s σ H _ _ v u Q I rx ry ⟨a, vs, i, w, rfl, rfl, SqL.of h1, h3, q w h4⟩ hs
    | _ => cases hz
  | tup xs =>
    cases e with
    | int i =>
      have e1 := hy.int
      subst e1
      obtain ⟨a, vs, rfl, h1, _, q1⟩ := hx.tup fh
      simp only [ixD] at hz
      cases e2 : atI xs i with
      | none => rw [e2] at hz; cases hz
      | some d =>
        rw [e2] at hz
        cases hz
        obtain ⟨w, h3, h4⟩ := atI_dts q1 e2
        exact ix_tup _ _ pins s σ H _ _ v u Q I rx ry ⟨a, vs, i, w, rfl, rfl, h1.sqt, h3, q w h4⟩ hs
    | _ => cases hz
  | scr ns =>
    cases e with
    | int i =>
      have e1 := hy.int
      subst e1
      obtain ⟨a, rfl, h1⟩ := hx.scr fh
      simp only [ixD] at hz
      cases e2 : atI ns i with
      | none => rw [e2] at hz; cases hz
      | some d =>
        rw [e2] at hz
        cases hz
        exact ix_list _ _ pins s σ H _ _ v u Q I rx ry ⟨a, _, i, .int _, rfl, rfl, h1, by rw [atI_map, e2]; rfl, q _ (.int _)⟩ hs
    | _ => cases hz
  | dI kvs =>
    cases e with
    | int i =>
      have e1 := hy.int
      subst e1
      obtain ⟨a, ks, rfl, h1, q1⟩ := hx.dI fh
      simp only [ixD] at hz
      cases e2 : getI kvs i with
      | none => rw [e2] at hz; cases hz
      | some d =>
        rw [e2] at hz
        cases hz
        obtain ⟨w, h3, h4⟩ := (q1.val i).2 _ e2
        have g : DGet H a (.int i) (some w) := by rw [← h3]; exact DGet.k (k := Sum.inl i) h1
        cases rx
        exact tail_D PySem.F.slot_dict_getitem.lookup hs (dict_typeIs I g) (d_getItem hu I g ry fun w' s3 I3 rw' => ⟨w, H, I3, rw', q w h4⟩)
    | _ => cases hz
  | dT kvs =>
    cases e with
    | tup ds =>
      simp only [ixD] at hz
      cases hk : keyT ds with
      | none => rw [hk] at hz; cases hz
      | some k =>
        rw [hk] at hz
        obtain ⟨b, rfl, h2, _⟩ := key_at fh hy hk
        obtain ⟨a, ks, rfl, h1, q1⟩ := hx.dT fh
        simp only at hz
        cases e2 : getT kvs k with
        | none => rw [e2] at hz; cases hz
        | some d =>
          rw [e2] at hz
          cases hz
          obtain ⟨w, h3, h4⟩ := (q1.val k).2 _ e2
          cases rx
          cases ry
          obtain ⟨o2, h2, _⟩ := h2
          obtain ⟨_, _, ys, _, dd⟩ := td_of I h1 (q1.all fh)
          exact tail_D PySem.F.slot_dict_getitem.lookup hs dd.typeIs (td_getItem hu I h1 (q1.all fh) h2 h3 fun w' s3 I3 rw' => ⟨w, H, I3, rw', q w h4⟩)
    | _ => cases hz
  | _ => cases e <;> cases hz
def eIx (p q : Ex) : Ex := fun ρ => do
  let d ← p ρ
  let e ← q ρ
  ixD d e
theorem ixD_noexc {d e : D} {er : Err} (h : ixD d e = .error er) : er = .stuck := by
  unfold ixD at h
  repeat' split at h
  all_goals first | (cases h; done) | (cases h; rfl)
theorem se_ix (hu : X.A.units + 1 < cLine) (ha : SimO X W a p) (hb : SimE X W b q) (hs : PlainIx b := by exact fun _ _ => rfl) : SimE X W (.Subscript a b pos) (eIx p q) := by
  refine PE.imp (pe_ix (ixr_D hu) ha hb hs) fun σ H Q ⟨B, F, ρ, rl, o⟩ => ?_
  refine tG_bind anti_V (f := fun d ρ => q ρ >>= fun e => ixD d e) rl o fun d v F1 H1 e1 g1 r1 q1 o1 => ?_
  refine tG_bind anti_V (f := fun e ρ => ixD d e) r1 o1 fun e u F2 H2 e2 g2 r2 q2 o2 => ?_
  refine ⟨F2, d, e, r2.fh, DtO.grow g2 q1, .val q2, ?_⟩
  cases z : ixD d e with
  | ok w => rw [z] at o2; exact ⟨w, rfl, fun v hv => o2 v F2 H2 (.refl r2.fh) hv⟩
  | error er =>
    have := ixD_noexc z
    subst this
    rw [z] at o2
    exact o2.elim

/-! ### slices -/
abbrev Ox := Nv → Res (Option Int)
def oNone : Ox := fun _ => .ok none
def oSome (p : Ex) : Ox := fun ρ => do
  match ← p ρ with
  | .int i => .ok (some i)
  | _ => stk
def RP : Hp → Hp → Hp → Option Int → Option Int → Prop := fun _ _ _ b b' => b = b'
theorem anti_P : Anti RP := fun _ _ _ _ _ _ _ h => h
def SimP (X : Cx) (W : WX) (e : Option Expr) (p : Ox) : Prop := PO X e (tG X.gm W RP p)
theorem PO.imp {e : Option Expr} {t t' : TO} (h : PO X e t) (q : ∀ σ H Q, t' σ H Q → t σ H Q) : PO X e t' := ⟨fun pins s σ H Q I z => h.run pins s σ H Q I (q σ H Q z)⟩
theorem sp_none : SimP X W none oNone := PO.imp po_none fun σ H Q ⟨B, F, ρ, rl, o⟩ => o none F H (.refl rl.fh) rfl
theorem sp_some (h : SimE X W a p) : SimP X W (some a) (oSome p) := by
  refine PO.imp (po_some h) fun σ H Q ⟨B, F, ρ, rl, o⟩ => ?_
  have o : Out X.gm W RP F H σ (p ρ >>= fun d => match d with | .int i => .ok (some i) | _ => stk) Q := o
  refine tG_bind anti_P (f := fun d ρ => match d with | .int i => .ok (some i) | _ => stk) rl o fun d v F1 H1 e1 g1 r1 q1 o1 => ?_
  cases d with
  | int i => cases q1; exact ⟨i, rfl, o1 _ F1 H1 (.refl r1.fh) rfl⟩
  | _ => exact o1.elim
def cutD (xs : List D) (lo hi : Option Int) : List D := (xs.drop (HT.sIx xs.length 0 lo)).take (HT.sIx xs.length xs.length hi - HT.sIx xs.length 0 lo)
def slD : D → Option Int → Option Int → Res Sl
  | .tup xs, lo, hi => .ok (.val (.tup (cutD xs lo hi)))
  | .lst xs, lo, hi => .ok (.own (.lst (cutD xs lo hi)))
  | _, _, _ => stk
def eSl (p : Ex) (l h : Ox) : Nv → Res Sl := fun ρ => do
  let d ← p ρ
  let lo ← l ρ
  let hi ← h ρ
  slD d lo hi
theorem cut_dts {mg : Gm} {F : Hp} {vs : List V} {ds : List D} {lo hi : Option Int} (q : Dts mg F vs ds) : Dts mg F (cutV vs lo hi) (cutD ds lo hi) := by
  unfold cutV cutD
  rw [q.length]
  exact (q.drop _).take _
def rSlD (mg : Gm) : V → Option Int → Option Int → Hp → VK → Prop := fun x lo hi H Q => ∃ F d, Sub F H ∧ DtO mg F H x d ∧ okS mg F H Q (slD d lo hi)
theorem slr_D : SlR X (rSlD X.gm) := by
  intro pins s σ H x v vl vu lo hi sl Q I rx hs pl pu h
  obtain ⟨F, d, fh, hx, o⟩ := h
  cases d with
  | tup xs =>
    obtain ⟨a, vs, rfl, h1, f1, q1⟩ := hx.tup fh
    refine sln_tup pins s σ H _ v vl vu lo hi sl Q I rx hs pl pu ⟨a, vs, rfl, h1.sqt, fun hw => ?_, fun hw p od hd np => ?_⟩
    · have e : cutD xs lo hi = xs := by
        unfold cutD
        rw [← q1.length, hw.1, hw.2]
        simp [q1.length]
      have o : okS X.gm F H Q (.ok (.val (.tup (cutD xs lo hi)))) := o
      rw [e] at o
      exact o _ F H (.refl fh) (f1.dt q1)
    · obtain ⟨g, t⟩ := grow_tup fh hd np (cut_dts (lo := lo) (hi := hi) q1)
      exact o _ _ _ g t
  | lst xs =>
    obtain ⟨a, vs, rfl, h1, q1⟩ := hx.lst fh
    refine sl_list pins s σ H _ v vl vu lo hi sl Q I rx hs pl pu ⟨a, vs, rfl, SqL.of h1, fun p np => ?_⟩
    obtain ⟨g, t⟩ := grow_lst fh np (cut_dts (lo := lo) (hi := hi) q1)
    exact o _ _ _ g t
  | _ => exact o.elim
theorem sn_sl {lo hi : Option Expr} {l h : Ox} {p2 : Pos} (ha : SimO X W a p) (hl : SimP X W lo l) (hh : SimP X W hi h) : SimN X W (.Subscript a (.Slice lo hi none p2) pos) (eSl p l h) := by
  refine PE.imp (pe_slice slr_D ha hl hh) fun σ H Q ⟨B, F, ρ, rl, o⟩ => ?_
  refine tG_bind anti_S (f := fun d ρ => l ρ >>= fun lo => h ρ >>= fun hi => slD d lo hi) rl o fun d v F1 H1 e1 g1 r1 q1 o1 => ?_
  refine tG_bind anti_S (f := fun lo ρ => h ρ >>= fun hi => slD d lo hi) r1 o1 fun lo u F2 H2 e2 g2 r2 q2 o2 => ?_
  refine tG_bind anti_S (f := fun hi ρ => slD d lo hi) r2 o2 fun hi u2 F3 H3 e3 g3 r3 q3 o3 => ?_
  cases q2
  cases q3
  refine ⟨F3, d, r3.fh, DtO.grow g3 (DtO.grow g2 q1), ?_⟩
  cases z : slD d lo hi with
  | ok w => rw [z] at o3; exact o3
  | error er =>
    rw [z] at o3
    cases er with
    | stuck => exact o3
    | exc c x =>
      cases d <;> cases z
/-- xs[::-1] of a list -/
def eRevL (p : Ex) : Nv → Res Sl := fun ρ => do
  match ← p ρ with
  | .lst xs => .ok (.own (.lst xs.reverse))
  | _ => stk

/-! ### fields -/
structure TabOk (K : PySem.W.Frag) (mg : Mg) : Prop where
  cl : ∀ C, mg "Table" = some (.ref C) → Cls K C
  rows : ∀ C, mg "Table" = some (.ref C) → NoAttr K C "rows"
  kinds : ∀ C, mg "Table" = some (.ref C) → NoAttr K C "kinds"
def eRows (p : Ex) : Ex := fun ρ => do
  match ← p ρ with
  | .tab d _ => .ok d
  | _ => stk
def eKinds (p : Ex) : Ex := fun ρ => do
  match ← p ρ with
  | .tab _ k => .ok (.int k)
  | _ => stk
theorem lk_rows {v : V} {k : Int} : ([("rows", v), ("kinds", V.int k)] : List (Str × V)).lookup ("rows" : Str) = some v := by
  rw [List.lookup_cons, beq_self_eq_true]
theorem lk_kinds {v : V} {k : Int} : ([("rows", v), ("kinds", V.int k)] : List (Str × V)).lookup ("kinds" : Str) = some (.int k) := by
  rw [List.lookup_cons, show (("kinds" : Str) == "rows") = false by decide +kernel, List.lookup_cons, beq_self_eq_true]
theorem se_rows (T : TabOk X.K X.mg) (h : SimE X W a p) (hb : attributeBase a "rows" X.env (eval a X.env) = eval a X.env := by rfl) : SimE X W (.Attribute a "rows" pos) (eRows p) := by
  refine PE.imp (pe_fld h hb) fun σ H Q ⟨B, F, ρ, rl, o⟩ => ?_
  refine tG_bind anti_V (f := fun d ρ => match d with | .tab d _ => .ok d | _ => stk) rl o fun d v F1 H1 e1 g1 r1 q1 o1 => ?_
  cases d with
  | tab d k =>
    cases q1 with
    | tab m h1 h2 => exact ⟨_, _, _, _, _, rfl, r1.fh _ _ h1, T.cl _ m, T.rows _ m, lk_rows, o1 _ F1 H1 (.refl r1.fh) h2⟩
  | _ => exact o1.elim
theorem se_kinds (T : TabOk X.K X.mg) (h : SimE X W a p) (hb : attributeBase a "kinds" X.env (eval a X.env) = eval a X.env := by rfl) : SimE X W (.Attribute a "kinds" pos) (eKinds p) := by
  refine PE.imp (pe_fld h hb) fun σ H Q ⟨B, F, ρ, rl, o⟩ => ?_
  refine tG_bind anti_V (f := fun d ρ => match d with | .tab _ k => .ok (.int k) | _ => stk) rl o fun d v F1 H1 e1 g1 r1 q1 o1 => ?_
  cases d with
  | tab d k =>
    cases q1 with
    | tab m h1 h2 => exact ⟨_, _, _, _, _, rfl, r1.fh _ _ h1, T.cl _ m, T.kinds _ m, lk_kinds, o1 _ F1 H1 (.refl r1.fh) (.int k)⟩
  | _ => exact o1.elim
end
end Sim

/-! Sim4: calls. -/
namespace Sim
open PySem L2

/-! ### a def's promise by a plain function -/
def OutF (mg : Gm) (F H : Hp) (r : Res D) (Q : VK) (E : XK) : Prop :=
  match r with
  | .ok d => ∀ v F' H', Grow F H F' H' → Dt mg F' v d → Q v H'
  | .error (.exc c x) => ∀ cls dx F' H', Grow F H F' H' → ExcAt mg F' H' cls dx c x → E cls dx H'
  | .error .stuck => False
def spF (mg : Gm) (n : Nat) (φ : List D → Res D) : Sp := fun vs H Q E => vs.length = n ∧ ∃ F ds, Sub F H ∧ Dts mg F vs ds ∧ OutF mg F H (φ ds) Q E
/-- a def of the module that keeps such a promise -/
structure Fn (P : Program) (w : World) (K : PySem.W.Frag) (mg : Mg) (base : Heap) (k : Nat) (x : Str) (n : Nat) (φ : List D → Res D) : Prop where
  ex : ∃ f fd ps, mg x = some (.ref f) ∧ PySem.W.keepIn K (.ref f) = true ∧ Binds K fd ps [] ∧ FnOk P w K mg base (L2.CX P w) k f fd ps (spF ⟨mg, P, w, K⟩ n φ)
  ar : ∀ ds : List D, ds.length ≠ n → φ ds = stk
theorem Fn.mono {P : Program} {w : World} {K : PySem.W.Frag} {mg : Mg} {base : Heap} {j k : Nat} {x : Str} {n : Nat} {φ : List D → Res D} (F : Fn P w K mg base j x n φ) (h : j ≤ k) : Fn P w K mg base k x n φ :=
  ⟨let ⟨f, fd, ps, a, b, c, d⟩ := F.ex; ⟨f, fd, ps, a, b, c, d.mono h⟩, F.ar⟩

section
variable {X : Cx} {W : WX} {a b c e : Expr} {es : List Expr} {p q r : Ex} {ps : Nv → Res (List D)} {pos pp : Pos}
def eCall (φ : List D → Res D) (ps : Nv → Res (List D)) : Ex := fun ρ => do
  let ds ← ps ρ
  φ ds
theorem se_call {k n : Nat} {x : Str} {φ : List D → Res D} (F : Fn X.prog X.w X.K X.mg X.base k x n φ) (hr : Room k X.A) (tk : Takes X W) (ha : SimA X W (e :: es) ps) (hg : Gl X x := by rfl) (hdb : (x == ("__debug__" : Str)) = false := by decide)
    (he : starEach (e :: es) X.env = (false, eval e X.env) :: starEach es X.env := by rfl) (hpl : (backTo pos (starEach es X.env)).any (·.1) = false := by rfl) : SimE X W (.Call (.Name x pp) (e :: es) [] pos) (eCall φ ps) := by
  obtain ⟨f, fd, pl, mf, kf, bf, G⟩ := F.ex
  refine PE.imp (pe_callS (E := WE W) G hr hg mf kf bf (fun σ => passAt tk σ) ha hdb he hpl) fun σ H Q ⟨B, F0, ρ, rl, o⟩ => ?_
  refine tG_bind anti_V (f := fun ds ρ => φ ds) rl o fun ds vs F1 H1 e1 g1 r1 q1 o1 => ?_
  have q1 : Dts X.gm F1 vs ds := q1
  by_cases hl : ds.length = n
  · refine ⟨by rw [q1.length]; exact hl, F1, ds, r1.fh, q1, ?_⟩
    cases z : φ ds with
    | ok d => rw [z] at o1; exact o1
    | error er =>
      rw [z] at o1
      cases er with
      | stuck => exact o1
      | exc c x => exact o1
  · rw [F.ar ds hl] at o1
    exact o1.elim


/-! ### built-ins -/
def rB1 (mg : Gm) (f : D → Res Sl) : List V → Hp → VK → Prop := fun xs H Q => ∃ F x d, xs = [x] ∧ Sub F H ∧ DtO mg F H x d ∧ okS mg F H Q (f d)
def rB2 (mg : Gm) (f : D → D → Res Sl) : List V → Hp → VK → Prop := fun xs H Q => ∃ F x y d e, xs = [x, y] ∧ Sub F H ∧ DtO mg F H x d ∧ DtO mg F H y e ∧ okS mg F H Q (f d e)
theorem CallR.ex {f : Value} {r : List V → Hp → VK → Prop} (h : ∀ xs H Q, r xs H Q → ∃ r', CallR X f r' ∧ r' xs H Q) : CallR X f r :=
  fun pins s σ H xs us Q I r1 z => let ⟨r', h1, h2⟩ := h xs H Q z; h1 pins s σ H xs us Q I r1 h2
def b1 (f : D → Res Sl) (p : Ex) : Nv → Res Sl := fun ρ => do
  let d ← p ρ
  noExc (f d)
def b2 (f : D → D → Res Sl) (p q : Ex) : Nv → Res Sl := fun ρ => do
  let d ← p ρ
  let e ← q ρ
  noExc (f d e)
theorem okS_noExc {F H : Hp} {σ : St} {r : Res Sl} {Q : VK} (o : Out X.gm W (RS X.gm) F H σ (noExc r) Q) : okS X.gm F H Q r := by
  cases r with
  | ok s => exact o
  | error er => exact o
theorem call1 {f : D → Res Sl} {σ : St} {H : Hp} {Q : VK} (h : tG X.gm W (RS X.gm) (b1 f p) σ H Q) : tCB (rB1 X.gm f) (tCons (tG X.gm W (RO X.gm) p) tNil) σ H Q := by
  obtain ⟨B, F, ρ, rl, o⟩ := h
  refine tG_bind anti_S (f := fun d ρ => noExc (f d)) rl o fun d v F1 H1 e1 g1 r1 q1 o1 => ?_
  exact ⟨F1, v, d, rfl, r1.fh, q1, okS_noExc o1⟩
theorem call2 {f : D → D → Res Sl} {σ : St} {H : Hp} {Q : VK} (h : tG X.gm W (RS X.gm) (b2 f p q) σ H Q) : tCB (rB2 X.gm f) (tCons (tG X.gm W (RO X.gm) p) (tCons (tG X.gm W (RO X.gm) q) tNil)) σ H Q := by
  obtain ⟨B, F, ρ, rl, o⟩ := h
  refine tG_bind anti_S (f := fun d ρ => q ρ >>= fun e => noExc (f d e)) rl o fun d v F1 H1 e1 g1 r1 q1 o1 => ?_
  refine tG_bind anti_S (f := fun e ρ => noExc (f d e)) r1 o1 fun e u F2 H2 e2 g2 r2 q2 o2 => ?_
  exact ⟨F2, v, u, d, e, rfl, r2.fh, DtO.grow g2 q1, q2, okS_noExc o2⟩
theorem sn_b1 {id : String} {x : Str} {f : D → Res Sl} (hc : CallR X (.builtin id) (rB1 X.gm f)) (hm : X.mg x = none) (hv : bootBuiltins x = some (.builtin id)) (ha : SimO X W a p) (hg : Gl X x := by rfl) (hn : x ≠ "__name__" := by decide)
    (hdb : (x == ("__debug__" : Str)) = false := by decide) (he : starEach [a] X.env = (false, eval a X.env) :: starEach [] X.env := by rfl) (hpl : (backTo pos (starEach [] X.env)).any (·.1) = false := by rfl) : SimN X W (.Call (.Name x pp) [a] [] pos) (b1 f p) :=
  PE.imp (pe_callB hc hg hm hv (pa_cons ha pa_nil he) hn hdb he hpl) fun _ _ _ h => call1 h
theorem sn_t1 {T : String} {x : Str} {f : D → Res Sl} (hc : CallR X (.type T) (rB1 X.gm f)) (hm : X.mg x = none) (hv : bootBuiltins x = some (.type T)) (ha : SimO X W a p) (hg : Gl X x := by rfl) (hn : x ≠ "__name__" := by decide)
    (hdb : (x == ("__debug__" : Str)) = false := by decide) (he : starEach [a] X.env = (false, eval a X.env) :: starEach [] X.env := by rfl) (hpl : (backTo pos (starEach [] X.env)).any (·.1) = false := by rfl) : SimN X W (.Call (.Name x pp) [a] [] pos) (b1 f p) :=
  PE.imp (pe_callTy hc hg hm hv (pa_cons ha pa_nil he) hn hdb he hpl) fun _ _ _ h => call1 h
theorem sn_b2 {id : String} {x : Str} {f : D → D → Res Sl} (hc : CallR X (.builtin id) (rB2 X.gm f)) (hm : X.mg x = none) (hv : bootBuiltins x = some (.builtin id)) (ha : SimO X W a p) (hb : SimO X W b q) (hg : Gl X x := by rfl) (hn : x ≠ "__name__" := by decide)
    (hdb : (x == ("__debug__" : Str)) = false := by decide) (he : starEach [a, b] X.env = (false, eval a X.env) :: starEach [b] X.env := by rfl) (he2 : starEach [b] X.env = (false, eval b X.env) :: starEach [] X.env := by rfl)
    (hpl : (backTo pos (starEach [b] X.env)).any (·.1) = false := by rfl) : SimN X W (.Call (.Name x pp) [a, b] [] pos) (b2 f p q) :=
  PE.imp (pe_callB hc hg hm hv (pa_cons ha (pa_cons hb pa_nil he2) he) hn hdb he hpl) fun _ _ _ h => call2 h

def biLen : D → Res Sl
  | .tup xs => .ok (.val (.int xs.length))
  | .lst xs => .ok (.val (.int xs.length))
  | .dI xs => .ok (.val (.int xs.length))
  | .dT xs => .ok (.val (.int xs.length))
  | .scr xs => .ok (.val (.int xs.length))
  | _ => stk
theorem cr_len : CallR X (.builtin "len") (rB1 X.gm biLen) := by
  refine CallR.ex fun xs H Q ⟨F, x, d, ex, fh, hx, o⟩ => ?_
  cases d with
  | tup ds =>
    obtain ⟨a, vs, rfl, h1, _, q1⟩ := hx.tup fh
    exact ⟨_, call_len_seq, a, vs, ex, .inr h1.sqt, by rw [q1.length]; exact o _ F H (.refl fh) (.int _)⟩
  | lst ds =>
    obtain ⟨a, vs, rfl, h1, q1⟩ := hx.lst fh
    exact ⟨_, call_len_seq, a, vs, ex, .inl (SqL.of h1), by rw [q1.length]; exact o _ F H (.refl fh) (.int _)⟩
  | dI ds =>
    obtain ⟨a, vs, rfl, h1, q1⟩ := hx.dI fh
    exact ⟨_, call_lenD, a, vs, ex, h1, by rw [q1.length]; exact o _ F H (.refl fh) (.int _)⟩
  | dT ds =>
    obtain ⟨a, vs, rfl, h1, q1⟩ := hx.dT fh
    exact ⟨_, cn_len, a, vs, ex, h1, q1.all fh, by rw [q1.length]; exact o _ F H (.refl fh) (.int _)⟩
  | scr ns =>
    obtain ⟨a, rfl, h1⟩ := hx.scr fh
    exact ⟨_, call_len_seq, a, _, ex, .inl h1, by rw [List.length_map]; exact o _ F H (.refl fh) (.int _)⟩
  | _ => exact o.elim
def biTuple : D → Res Sl
  | .tup xs => .ok (.val (.tup xs))
  | .lst xs => .ok (.val (.tup xs))
  | _ => stk
theorem cr_tuple : CallR X (.type "tuple") (rB1 X.gm biTuple) := by
  refine CallR.ex fun xs H Q ⟨F, x, d, ex, fh, hx, o⟩ => ?_
  cases d with
  | tup ds =>
    obtain ⟨a, vs, rfl, h1, f1, q1⟩ := hx.tup fh
    exact ⟨_, cn_tuple, a, vs, ex, .inr ⟨h1.sqt, o _ F H (.refl fh) (f1.dt q1)⟩⟩
  | lst ds =>
    obtain ⟨a, vs, rfl, h1, q1⟩ := hx.lst fh
    refine ⟨_, cn_tuple, a, vs, ex, .inl ⟨SqL.of h1, fun l od hd nl => ?_⟩⟩
    obtain ⟨g, t⟩ := grow_tup fh hd nl q1
    exact o _ _ _ g t
  | _ => exact o.elim
def biList : D → Res Sl
  | .tup xs => .ok (.own (.lst xs))
  | .lst xs => .ok (.own (.lst xs))
  | _ => stk
theorem cr_list : CallR X (.type "list") (rB1 X.gm biList) := by
  refine CallR.ex fun xs H Q ⟨F, x, d, ex, fh, hx, o⟩ => ?_
  cases d with
  | tup ds =>
    obtain ⟨a, vs, rfl, h1, f1, q1⟩ := hx.tup fh
    refine ⟨_, call_list_of, a, vs, ex, .inr h1.sqt, fun l nl => ?_⟩
    obtain ⟨g, t⟩ := grow_lst fh nl q1
    exact o _ _ _ g t
  | lst ds =>
    obtain ⟨a, vs, rfl, h1, q1⟩ := hx.lst fh
    refine ⟨_, call_list_of, a, vs, ex, .inl (SqL.of h1), fun l nl => ?_⟩
    obtain ⟨g, t⟩ := grow_lst fh nl q1
    exact o _ _ _ g t
  | _ => exact o.elim
def biAbs : D → Res Sl
  | .int i => .ok (.val (.int (if i < 0 then -i else i)))
  | _ => stk
theorem cr_abs : CallR X (.builtin "abs") (rB1 X.gm biAbs) := by
  refine CallR.ex fun xs H Q ⟨F, x, d, ex, fh, hx, o⟩ => ?_
  cases d with
  | int i => cases hx.int; exact ⟨_, call_abs, i, ex, o _ F H (.refl fh) (.int _)⟩
  | _ => exact o.elim
def biInt : D → Res Sl
  | .int i => .ok (.val (.int i))
  | .bl b => .ok (.val (.int (if b then 1 else 0)))
  | _ => stk
theorem cr_int : CallR X (.type "int") (rB1 X.gm biInt) := by
  refine CallR.ex fun xs H Q ⟨F, x, d, ex, fh, hx, o⟩ => ?_
  cases d with
  | int i => cases hx.int; exact ⟨_, call_int1, .inl ⟨i, ex, o _ F H (.refl fh) (.int _)⟩⟩
  | bl i => cases hx.bl; exact ⟨_, call_int1, .inr ⟨i, ex, o _ F H (.refl fh) (.int _)⟩⟩
  | _ => exact o.elim
def blsOf : List D → Option (List Bool)
  | [] => some []
  | .bl b :: r => (blsOf r).map (b :: ·)
  | _ :: _ => none
theorem blsOf_eq : ∀ {ds : List D} {k : List Bool}, blsOf ds = some k → ds = k.map D.bl
  | [], k, h => by simp [blsOf] at h; subst h; rfl
  | .bl i :: r, k, h => by
    simp only [blsOf, Option.map_eq_some_iff] at h
    obtain ⟨k', h1, rfl⟩ := h
    rw [blsOf_eq h1]
    rfl
  | .non :: r, k, h => by simp [blsOf] at h
  | .int _ :: r, k, h => by simp [blsOf] at h
  | .str _ :: r, k, h => by simp [blsOf] at h
  | .tup _ :: r, k, h => by simp [blsOf] at h
  | .lst _ :: r, k, h => by simp [blsOf] at h
  | .dI _ :: r, k, h => by simp [blsOf] at h
  | .dT _ :: r, k, h => by simp [blsOf] at h
  | .tab _ _ :: r, k, h => by simp [blsOf] at h
  | .scr _ :: r, k, h => by simp [blsOf] at h
def biAll : D → Res Sl
  | .lst xs => match blsOf xs with
    | some bs => .ok (.val (.bl (bs.all id)))
    | none => stk
  | _ => stk
def biAny : D → Res Sl
  | .lst xs => match blsOf xs with
    | some bs => .ok (.val (.bl (bs.any id)))
    | none => stk
  | _ => stk
theorem cr_all' (hc : X.calm = true) : CallR X (.builtin "all") (rB1 X.gm biAll) := by
  refine CallR.ex fun xs H Q ⟨F, x, d, ex, fh, hx, o⟩ => ?_
  cases d with
  | lst ds =>
    unfold biAll at o
    simp only at o
    cases z : blsOf ds with
    | none => rw [z] at o; exact o.elim
    | some bs =>
      rw [z] at o
      obtain ⟨a, vs, rfl, h1, q1⟩ := hx.lst fh
      rw [blsOf_eq z] at q1
      have e := q1.bls
      subst e
      exact ⟨_, cr_all hc, a, bs, ex, SqL.of h1, o _ F H (.refl fh) (.bl _)⟩
  | _ => exact o.elim
theorem cr_any' (hc : X.calm = true) : CallR X (.builtin "any") (rB1 X.gm biAny) := by
  refine CallR.ex fun xs H Q ⟨F, x, d, ex, fh, hx, o⟩ => ?_
  cases d with
  | lst ds =>
    unfold biAny at o
    simp only at o
    cases z : blsOf ds with
    | none => rw [z] at o; exact o.elim
    | some bs =>
      rw [z] at o
      obtain ⟨a, vs, rfl, h1, q1⟩ := hx.lst fh
      rw [blsOf_eq z] at q1
      have e := q1.bls
      subst e
      exact ⟨_, cr_any hc, a, bs, ex, SqL.of h1, o _ F H (.refl fh) (.bl _)⟩
  | _ => exact o.elim
def biMax2 : D → D → Res Sl
  | .int i, .int j => .ok (.val (.int (max i j)))
  | _, _ => stk
theorem cr_max2 (hc : X.calm = true) : CallR X (.builtin "max") (rB2 X.gm biMax2) := by
  refine CallR.ex fun xs H Q ⟨F, x, y, d, e, ex, fh, hx, hy, o⟩ => ?_
  unfold biMax2 at o
  split at o
  · rename_i i j
    cases hx.int
    cases hy.int
    refine ⟨_, call_max2 hc, i, j, ex, ?_⟩
    have : (if j > i then j else i) = max i j := by omega
    rw [this]
    exact o _ F H (.refl fh) (.int _)
  · exact o.elim

/-! isinstance -/
/-- the built-in type of a plain value -/
def tyD : D → Option String
  | .non => some "NoneType"
  | .bl _ => some "bool"
  | .int _ => some "int"
  | .str _ => some "str"
  | .tup _ => some "tuple"
  | .lst _ => some "list"
  | .dI _ => some "dict"
  | .dT _ => none
  | .tab _ _ => none
  | .scr _ => none
theorem tyX_D {K : PySem.W.Frag} {mg : Gm} {F H : Hp} (fh : Sub F H) {x : V} {d : D} {t : String} (h : DtO mg F H x d) (e : tyD d = some t) : TyX K H x (.type t) := by
  by_cases ht : ∃ ds, d = .tup ds
  · obtain ⟨ds, rfl⟩ := ht
    cases e
    obtain ⟨a, vs, rfl, ⟨ob, h1, _⟩, _⟩ := h.tup fh
    exact .fTuple h1
  refine .base ?_
  cases d with
  | non => cases e; cases h.non; exact .non
  | bl b => cases e; cases h.bl; exact .bl b
  | int b => cases e; cases h.int; exact .int b
  | str b => cases e; cases h.str; exact .str b
  | tup ds => exact absurd ⟨ds, rfl⟩ ht
  | lst ds => cases e; obtain ⟨a, vs, rfl, h1, _⟩ := h.lst fh; exact .lst h1
  | dI ds => cases e; obtain ⟨a, vs, rfl, h1, _⟩ := h.dI fh; exact .dK h1
  | dT ds => cases e
  | tab d k => cases e
  | scr ns => cases e
def isiB (T : String) (d : D) : Option Bool := match tyD d with
  | some t => kitB t T
  | none => none
/-- isinstance(x, T), T a built-in type -/
def isInt : D → Res Bool
  | .int _ => .ok true
  | .bl _ => .ok true
  | .dT _ => stk
  | .scr _ => stk
  | .tab _ _ => stk
  | _ => .ok false
def isBool : D → Res Bool
  | .bl _ => .ok true
  | .dT _ => stk
  | .scr _ => stk
  | .tab _ _ => stk
  | _ => .ok false
def isTuple : D → Res Bool
  | .tup _ => .ok true
  | .dT _ => stk
  | .scr _ => stk
  | .tab _ _ => stk
  | _ => .ok false
def isStr : D → Res Bool
  | .str _ => .ok true
  | .dT _ => stk
  | .scr _ => stk
  | .tab _ _ => stk
  | _ => .ok false
theorem kb1 : kitB "NoneType" "int" = some false ∧ kitB "bool" "int" = some true ∧ kitB "int" "int" = some true ∧ kitB "str" "int" = some false ∧ kitB "tuple" "int" = some false ∧ kitB "list" "int" = some false ∧ kitB "dict" "int" = some false := by decide +kernel
theorem kb2 : kitB "NoneType" "bool" = some false ∧ kitB "bool" "bool" = some true ∧ kitB "int" "bool" = some false ∧ kitB "str" "bool" = some false ∧ kitB "tuple" "bool" = some false ∧ kitB "list" "bool" = some false ∧ kitB "dict" "bool" = some false := by decide +kernel
theorem kb3 : kitB "NoneType" "tuple" = some false ∧ kitB "bool" "tuple" = some false ∧ kitB "int" "tuple" = some false ∧ kitB "str" "tuple" = some false ∧ kitB "tuple" "tuple" = some true ∧ kitB "list" "tuple" = some false ∧ kitB "dict" "tuple" = some false := by decide +kernel
theorem kb4 : kitB "NoneType" "str" = some false ∧ kitB "bool" "str" = some false ∧ kitB "int" "str" = some false ∧ kitB "str" "str" = some true ∧ kitB "tuple" "str" = some false ∧ kitB "list" "str" = some false ∧ kitB "dict" "str" = some false := by decide +kernel
def KitD (T : String) (f : D → Res Bool) : Prop := ∀ d r, f d = .ok r → ∃ t, tyD d = some t ∧ kitB t T = some r
theorem kit_int : KitD "int" isInt := fun d r h => by
  obtain ⟨a1, a2, a3, a4, a5, a6, a7⟩ := kb1
  cases d <;> first | (cases h; exact ⟨_, rfl, by assumption⟩) | (cases h; done)
theorem kit_bool : KitD "bool" isBool := fun d r h => by
  obtain ⟨a1, a2, a3, a4, a5, a6, a7⟩ := kb2
  cases d <;> first | (cases h; exact ⟨_, rfl, by assumption⟩) | (cases h; done)
theorem kit_tuple : KitD "tuple" isTuple := fun d r h => by
  obtain ⟨a1, a2, a3, a4, a5, a6, a7⟩ := kb3
  cases d <;> first | (cases h; exact ⟨_, rfl, by assumption⟩) | (cases h; done)
theorem kit_str : KitD "str" isStr := fun d r h => by
  obtain ⟨a1, a2, a3, a4, a5, a6, a7⟩ := kb4
  cases d <;> first | (cases h; exact ⟨_, rfl, by assumption⟩) | (cases h; done)
def eIsi (f : D → Res Bool) (p : Ex) : Ex := fun ρ => do
  let d ← p ρ
  let b ← noExc (f d)
  .ok (.bl b)
theorem se_isi {T : String} {f : D → Res Bool} (kd : KitD T f) (hm : X.mg "isinstance" = none) (hmT : X.mg (Str.ofString T) = none) (hv : bootBuiltins (Str.ofString T) = some (.type T)) (ha : SimO X W a p) {p2 : Pos} (hg : Gl X "isinstance" := by rfl) (hgT : Gl X (Str.ofString T) := by rfl)
    (hnT : (Str.ofString T) ≠ "__name__" := by decide) (hdT : ((Str.ofString T) == ("__debug__" : Str)) = false := by decide)
    (he : starEach [a, .Name (Str.ofString T) p2] X.env = (false, eval a X.env) :: starEach [.Name (Str.ofString T) p2] X.env := by rfl)
    (hpl : (backTo pos (starEach [.Name (Str.ofString T) p2] X.env)).any (·.1) = false := by rfl) : SimE X W (.Call (.Name "isinstance" pp) [a, .Name (Str.ofString T) p2] [] pos) (eIsi f p) := by
  have hT : PE X (.Name (Str.ofString T) p2) (tC (.ty T)) := pe_bltn hgT hmT hv rfl hnT hdT
  refine PE.imp (pe_callB call_isi hg hm PyProof.Rows.boot_isinstance (pa_cons ha (pa_cons hT pa_nil) he) (by decide) (by decide) he hpl) fun σ H Q ⟨B, F, ρ, rl, o⟩ => ?_
  refine tG_bind anti_V (f := fun d ρ => noExc (f d) >>= fun b => .ok (.bl b)) rl o fun d v F1 H1 e1 g1 r1 q1 o1 => ?_
  cases z : f d with
  | error er => rw [z] at o1; exact o1.elim
  | ok r =>
    rw [z] at o1
    obtain ⟨t, h1, h2⟩ := kd d r z
    exact ⟨v, .ty T, .type t, .type T, r, rfl, .ty T, tyX_D r1.fh q1 h1, kit_ty h2, o1 _ F1 H1 (.refl r1.fh) (.bl r)⟩
/-! isinstance(x, Table) of a Table -/
structure TabIs (K : PySem.W.Frag) (mg : Mg) : Prop where
  ha : ∀ C, mg "Table" = some (.ref C) → PySem.W.findIn K (.ref C) "__class__" = some (some (.builtin "object.__class__"))
  hn : PySem.W.specialIn K (.builtin "object.__class__") "__get__" = some (some (.builtin "getset_descriptor.__get__"))
  htk : PySem.W.takesIn K (.builtin "object.__class__") = some true
  hm : ∀ C, mg "Table" = some (.ref C) → PySem.W.mroIn K C (.type "object") = some true
  kit : ∀ C, mg "Table" = some (.ref C) → PySem.W.kitOne K (.ref C) (.ref C) = some true
  cls : ∃ C, mg "Table" = some (.ref C)
def eIsT (p : Ex) : Ex := fun ρ => do
  match ← p ρ with
  | .tab _ _ => .ok (.bl true)
  | _ => stk
theorem se_isT (T : TabOk X.K X.mg) (T2 : TabIs X.K X.mg) (hm : X.mg "isinstance" = none) (ha : SimO X W a p) {p2 : Pos} (hg : Gl X "isinstance" := by rfl) (hgT : Gl X "Table" := by rfl)
    (he : starEach [a, .Name "Table" p2] X.env = (false, eval a X.env) :: starEach [.Name "Table" p2] X.env := by rfl)
    (hpl : (backTo pos (starEach [.Name "Table" p2] X.env)).any (·.1) = false := by rfl) : SimE X W (.Call (.Name "isinstance" pp) [a, .Name "Table" p2] [] pos) (eIsT p) := by
  obtain ⟨C, hC⟩ := T2.cls
  have hT : PE X (.Name "Table" p2) (tC (.ref C)) := pe_glob hgT hC rfl (by decide)
  refine PE.imp (pe_callB call_isi hg hm PyProof.Rows.boot_isinstance (pa_cons ha (pa_cons hT pa_nil) he) (by decide) (by decide) he hpl) fun σ H Q ⟨B, F, ρ, rl, o⟩ => ?_
  refine tG_bind anti_V (f := fun d ρ => match d with | .tab _ _ => .ok (.bl true) | _ => stk) rl o fun d v F1 H1 e1 g1 r1 q1 o1 => ?_
  cases d with
  | tab d k =>
    obtain ⟨a, C', dx, v1, rfl, m, h1, _⟩ := q1.tab r1.fh
    have m : X.mg "Table" = some (.ref C') := m
    rw [hC] at m
    cases m
    exact ⟨_, .ref C, .ref C, .ref C, true, rfl, .own C, .base (.ins h1 (T.cl C hC) (T2.ha C hC) T2.hn T2.htk (T2.hm C hC)), T2.kit C hC, o1 _ F1 H1 (.refl r1.fh) (.bl _)⟩
  | _ => exact o1.elim

/-! list(range(..)), tuple(range(..)) -/
def rgD (a b : Int) : List D := (List.range (b - a).toNat).map fun i => D.int (a + (i : Nat))
theorem rgD_dts {mg : Gm} {F : Hp} (a b : Int) : Dts mg F (rgV a b) (rgD a b) := by
  unfold rgV rgD
  generalize List.range (b - a).toNat = l
  induction l with
  | nil => exact .nil
  | cons x xs ih => exact .cons (.int _) ih
@[irreducible] def rgOk (a b : Int) : Bool := decide (-(2 ^ 62) ≤ a) && decide (a < 2 ^ 62) && decide (-(2 ^ 62) ≤ b) && decide (b < 2 ^ 62) && decide ((b - a).toNat ≤ lim)
theorem rgOk_ok {a b : Int} (h : rgOk a b = true) : RgOk a b := by
  unfold rgOk at h
  simp only [Bool.and_eq_true, decide_eq_true_eq] at h
  exact ⟨h.1.1.1.1, h.1.1.1.2, h.1.1.2, h.1.2, h.2⟩
def eListR (p q : Ex) : Nv → Res Sl := fun ρ => do
  match ← p ρ with
  | .int i => match ← q ρ with
    | .int j => if rgOk i j = true then .ok (.own (.lst (rgD i j))) else stk
    | _ => stk
  | _ => stk
def eTupR (p q : Ex) : Ex := fun ρ => do
  match ← p ρ with
  | .int i => match ← q ρ with
    | .int j => if rgOk i j = true then .ok (.tup (rgD i j)) else stk
    | _ => stk
  | _ => stk
theorem PRg.imp {t t' : St → Hp → (Int → Int → Hp → Prop) → Prop} (h : PRg X e t) (q : ∀ σ H Q, t' σ H Q → t σ H Q) : PRg X e t' := fun pins s σ H Q I z => h pins s σ H Q I (q σ H Q z)
theorem sn_listR1 {p2 : Pos} {pos2 : Pos} (hc : X.calm = true) (hm : X.mg "list" = none) (hmr : X.mg "range" = none) (ha : SimE X W a p) (hg : Gl X "list" := by rfl) (hgr : Gl X "range" := by rfl)
    (na : starEach [.Call (.Name "range" p2) [a] [] pos2] X.env = (false, eval (.Call (.Name "range" p2) [a] [] pos2) X.env) :: starEach [] X.env := by rfl) (na2 : starEach [a] X.env = (false, eval a X.env) :: starEach [] X.env := by rfl) :
    SimN X W (.Call (.Name "list" pp) [.Call (.Name "range" p2) [a] [] pos2] [] pos) (eListR (cst (.int 0)) p) := by
  refine PE.imp (pe_listRg hc hg hm (prg_1 hgr hmr ha na2) na) fun σ H Q ⟨B, F, ρ, rl, o⟩ => ?_
  have o : Out X.gm W (RS X.gm) F H σ (p ρ >>= fun d => match d with | .int j => if rgOk 0 j = true then .ok (.own (.lst (rgD 0 j))) else stk | _ => stk) Q := o
  refine tG_bind anti_S (f := fun d ρ => match d with | .int j => if rgOk 0 j = true then .ok (.own (.lst (rgD 0 j))) else stk | _ => stk) rl o fun d v F1 H1 e1 g1 r1 q1 o1 => ?_
  cases d with
  | int j =>
    cases q1
    simp only at o1
    split at o1
    · rename_i hk
      refine ⟨j, rfl, rgOk_ok hk, fun l nl => ?_⟩
      obtain ⟨g, t⟩ := grow_lst r1.fh nl (rgD_dts 0 j)
      exact o1 _ _ _ g t
    · exact o1.elim
  | _ => exact o1.elim
theorem se_tupR1 {p2 : Pos} {pos2 : Pos} (hc : X.calm = true) (hm : X.mg "tuple" = none) (hmr : X.mg "range" = none) (ha : SimE X W a p) (hg : Gl X "tuple" := by rfl) (hgr : Gl X "range" := by rfl)
    (na : starEach [.Call (.Name "range" p2) [a] [] pos2] X.env = (false, eval (.Call (.Name "range" p2) [a] [] pos2) X.env) :: starEach [] X.env := by rfl) (na2 : starEach [a] X.env = (false, eval a X.env) :: starEach [] X.env := by rfl) :
    SimE X W (.Call (.Name "tuple" pp) [.Call (.Name "range" p2) [a] [] pos2] [] pos) (eTupR (cst (.int 0)) p) := by
  refine PE.imp (pn_tupRg hc hg hm (prg_1 hgr hmr ha na2) na) fun σ H Q ⟨B, F, ρ, rl, o⟩ => ?_
  have o : Out X.gm W (RV X.gm) F H σ (p ρ >>= fun d => match d with | .int j => if rgOk 0 j = true then .ok (.tup (rgD 0 j)) else stk | _ => stk) Q := o
  refine tG_bind anti_V (f := fun d ρ => match d with | .int j => if rgOk 0 j = true then .ok (.tup (rgD 0 j)) else stk | _ => stk) rl o fun d v F1 H1 e1 g1 r1 q1 o1 => ?_
  cases d with
  | int j =>
    cases q1
    simp only at o1
    split at o1
    · rename_i hk
      refine ⟨j, rfl, rgOk_ok hk, fun l od hd nl => ?_⟩
      obtain ⟨g, t⟩ := grow_tup r1.fh hd nl (rgD_dts 0 j)
      exact o1 _ _ _ g t
    · exact o1.elim
  | _ => exact o1.elim
end
end Sim

/-! Sim5: targets, what is walked, list comprehensions. -/
namespace Sim
open PySem L2

/-! ### what is walked -/
/-- whatever stands beyond F: the turns yield the plain items ds -/
def YldF (mg : Gm) (F : Hp) (J : It) (ds : List D) : Prop := ∀ F1 H1, Sub F F1 → Sub F1 H1 → ∀ i : Nat,
  (∀ d, ds[i]? = some d → J.go i H1 ∧ ∀ x H2, J.yld i H1 x H2 → ∃ F2, Grow F1 H1 F2 H2 ∧ Dt mg F2 x d) ∧ (ds.length ≤ i → J.stop i H1)
/-- while nothing of H changes -/
def YldO (mg : Gm) (F H : Hp) (J : It) (ds : List D) : Prop := ∀ F1 H1, Sub F F1 → Sub F1 H1 → Sub H H1 → ∀ i : Nat,
  (∀ d, ds[i]? = some d → J.go i H1 ∧ ∀ x H2, J.yld i H1 x H2 → ∃ F2, Grow F1 H1 F2 H2 ∧ Dt mg F2 x d) ∧ (ds.length ≤ i → J.stop i H1)
theorem YldF.o {mg : Gm} {F H : Hp} {J : It} {ds : List D} (h : YldF mg F J ds) : YldO mg F H J ds := fun F1 H1 a b _ i => h F1 H1 a b i
def RIF (mg : Gm) : Hp → Hp → Hp → It → List D → Prop := fun _ F _ J ds => YldF mg F J ds
def RIO (mg : Gm) : Hp → Hp → Hp → It → List D → Prop := fun _ F H J ds => YldO mg F H J ds ∧ ds.length ≤ lim
theorem anti_IF {mg : Gm} : Anti (RIF mg) := fun _ _ _ _ _ _ _ h => h
theorem anti_IO {mg : Gm} : Anti (RIO mg) := fun _ _ _ _ _ _ _ h => h
/-- what a for walks; what a comprehension walks -/
def SimI (X : Cx) (W : WX) (tg e : Expr) (p : Nv → Res (List D)) : Prop := PI X tg e (tG X.gm W (RIF X.gm) p)
def SimC (X : Cx) (W : WX) (tg e : Expr) (p : Nv → Res (List D)) : Prop := PI X tg e (tG X.gm W (RIO X.gm) p)
section
variable {X : Cx} {W : WX} {tg a b e : Expr} {p q : Ex} {pos pp : Pos}
theorem PI.imp {t t' : TI} (h : PI X tg e t) (q : ∀ σ H Q, t' σ H Q → t σ H Q) : PI X tg e t' := ⟨fun pins s σ H Q I z => h.run pins s σ H Q I (q σ H Q z)⟩

/-- pi_list, pi_tup with the length's bound at hand -/
def iListZ (K : PySem.W.Frag) (tl : TE) : TI := fun σ H R => tl σ H fun x H1 => ∃ a xs, x = .ref a ∧ SqL K H1 a xs ∧ (xs.length ≤ sizeLine → R (Itl K a) H1)
def iTupZ (K : PySem.W.Frag) (tl : TE) : TI := fun σ H R => tl σ H fun x H1 => ∃ a xs, x = .ref a ∧ SqT K H1 a xs ∧ (xs.length ≤ sizeLine → R (Itt K a) H1)
def iSeqZ (K : PySem.W.Frag) (tl : TE) : TI := fun σ H R => tl σ H fun x H1 => (∃ a xs, x = .ref a ∧ SqL K H1 a xs ∧ (xs.length ≤ sizeLine → R (Itl K a) H1)) ∨ (∃ a xs, x = .ref a ∧ SqT K H1 a xs ∧ (xs.length ≤ sizeLine → R (Itt K a) H1))
theorem pi_seqZ {l : Expr} {tl : TE} (hl : PE X l tl) : PI X tg l (iSeqZ X.K tl) := by
  refine ⟨fun pins s σ H R I h => ?_⟩
  refine thn (hl.run pins s σ H _ I h) fun v s1 ⟨x, H1, I1, r1, q1⟩ => ?_
  rcases q1 with ⟨a, xs, e, hq, q⟩ | ⟨a, xs, e, hq, q⟩
  · subst e
    cases r1
    obtain ⟨its, rv, p, hz⟩ := I1.list hq
    refine wpAny_pyIter_list p.isList ?_
    refine ⟨s1.heap.objs.size, [s1.heap.objs.size], _, _, H1, rfl, I1.kept (t' := s1.toks) fun b o e => Heap.get?_push_of_some _ e, turn_list a _, ⟨_, Heap.get?_push_size _ rfl, rfl, rfl⟩, fun b hb => ?_, q hz⟩
    have e : b = s1.heap.objs.size := by simpa using hb
    subst e
    exact I1.fpOk (Nat.le_refl _) (I1.hok.fresh (Nat.le_refl _))
  · subst e
    cases r1
    obtain ⟨its, rv, p, hz⟩ := I1.tuple hq
    refine wpAny_pyIter_tuple (show s1.heap.IsTuple a its.toArray from p) ?_
    refine ⟨s1.heap.objs.size, [s1.heap.objs.size], _, _, H1, rfl, I1.kept (t' := s1.toks) fun b o e => Heap.get?_push_of_some _ e, turn_tuple a _, ⟨_, Heap.get?_push_size _ rfl, rfl, rfl⟩, fun b hb => ?_, q hz⟩
    have e : b = s1.heap.objs.size := by simpa using hb
    subst e
    exact I1.fpOk (Nat.le_refl _) (I1.hok.fresh (Nat.le_refl _))

/-- a list's or tuple's items -/
def itD : D → Res (List D)
  | .lst xs => .ok xs
  | .tup xs => .ok xs
  | _ => stk
def its (p : Ex) : Nv → Res (List D) := fun ρ => do
  let d ← p ρ
  itD d
theorem yld_tup {mg : Gm} {F : Hp} {K : PySem.W.Frag} {a : Addr} {vs : List V} {ds : List D} (h : TupF F a vs) (q : Dts mg F vs ds) : YldF mg F (Itt K a) ds := by
  intro F1 H1 s1 s2 i
  have h1 : TupF H1 a vs := h.mono (s1.trans s2)
  refine ⟨fun d e => ?_, fun hl => ⟨vs, h1.sqt, by rw [q.length]; exact hl⟩⟩
  obtain ⟨v, e1, e2⟩ := q.get e
  refine ⟨⟨vs, v, h1.sqt, e1⟩, fun x H2 y => ?_⟩
  obtain ⟨rfl, y⟩ := y
  have := y vs (h1.sqt)
  rw [e1] at this
  cases this
  exact ⟨F1, .refl s2, e2.mono s1⟩
theorem yld_lst {mg : Gm} {F : Hp} {K : PySem.W.Frag} {a : Addr} {vs : List V} {ds : List D} (h : F a = some (.lst vs)) (q : Dts mg F vs ds) : YldF mg F (Itl K a) ds := by
  intro F1 H1 s1 s2 i
  have h1 : H1 a = some (.lst vs) := s2 _ _ (s1 _ _ h)
  refine ⟨fun d e => ?_, fun hl => ⟨vs, SqL.of h1, by rw [q.length]; exact hl⟩⟩
  obtain ⟨v, e1, e2⟩ := q.get e
  refine ⟨⟨vs, v, SqL.of h1, e1⟩, fun x H2 y => ?_⟩
  obtain ⟨rfl, y⟩ := y
  have := y vs (SqL.of h1)
  rw [e1] at this
  cases this
  exact ⟨F1, .refl s2, e2.mono s1⟩
theorem yld_lstO {mg : Gm} {F H : Hp} {K : PySem.W.Frag} {a : Addr} {vs : List V} {ds : List D} (h : H a = some (.lst vs)) (q : Dts mg F vs ds) : YldO mg F H (Itl K a) ds := by
  intro F1 H1 s1 s2 s3 i
  have h1 : H1 a = some (.lst vs) := s3 _ _ h
  refine ⟨fun d e => ?_, fun hl => ⟨vs, SqL.of h1, by rw [q.length]; exact hl⟩⟩
  obtain ⟨v, e1, e2⟩ := q.get e
  refine ⟨⟨vs, v, SqL.of h1, e1⟩, fun x H2 y => ?_⟩
  obtain ⟨rfl, y⟩ := y
  have := y vs (SqL.of h1)
  rw [e1] at this
  cases this
  exact ⟨F1, .refl s2, e2.mono s1⟩
theorem si_seq (h : SimE X W a p) : SimI X W tg a (its p) := by
  refine PI.imp (pi_seqZ h) fun σ H Q ⟨B, F, ρ, rl, o⟩ => ?_
  refine tG_bind anti_IF (f := fun d ρ => itD d) rl o fun d v F1 H1 e1 g1 r1 q1 o1 => ?_
  cases d with
  | lst ds =>
    cases q1 with
    | lst h q => exact .inl ⟨_, _, rfl, SqL.of (r1.fh _ _ h), fun _ => o1 _ F1 H1 (.refl r1.fh) (yld_lst h q)⟩
  | tup ds =>
    cases q1 with
    | tup h od q => exact .inr ⟨_, _, rfl, .inl (.inr ⟨_, r1.fh _ _ h⟩), fun _ => o1 _ F1 H1 (.refl r1.fh) (yld_tup ⟨_, h, od⟩ q)⟩
  | _ => exact o1.elim
theorem sc_seq (h : SimO X W a p) : SimC X W tg a (its p) := by
  refine PI.imp (pi_seqZ h) fun σ H Q ⟨B, F, ρ, rl, o⟩ => ?_
  refine tG_bind anti_IO (f := fun d ρ => itD d) rl o fun d v F1 H1 e1 g1 r1 q1 o1 => ?_
  cases d with
  | lst ds =>
    obtain ⟨a, vs, rfl, h, q⟩ := q1.lst r1.fh
    exact .inl ⟨_, _, rfl, SqL.of h, fun hz => o1 _ F1 H1 (.refl r1.fh) ⟨yld_lstO h q, by rw [← q.length, ← lim_eq]; exact hz⟩⟩
  | tup ds =>
    obtain ⟨a, vs, rfl, h1, h, q⟩ := q1.tup r1.fh
    exact .inr ⟨_, _, rfl, h1.sqt, fun hz => o1 _ F1 H1 (.refl r1.fh) ⟨(yld_tup h q).o, by rw [← q.length, ← lim_eq]; exact hz⟩⟩
  | _ => exact o1.elim
theorem yld_rng {mg : Gm} {F : Hp} (i j : Int) : YldF mg F (Itr i (j - i).toNat) (rgD i j) := by
  intro F1 H1 s1 s2 k
  unfold rgD
  refine ⟨fun d e => ?_, fun hl => ?_⟩
  · rw [List.getElem?_map] at e
    cases z : (List.range (j - i).toNat)[k]? with
    | none => rw [z] at e; cases e
    | some m =>
      rw [z] at e
      cases e
      obtain ⟨h1, h2⟩ := List.getElem?_eq_some_iff.mp z
      rw [List.getElem_range] at h2
      subst h2
      refine ⟨by rw [List.length_range] at h1; exact h1, fun x H2 y => ?_⟩
      obtain ⟨rfl, rfl⟩ := y
      exact ⟨F1, .refl s2, .int _⟩
  · rw [List.length_map, List.length_range] at hl
    exact hl
/-- range(a): the bound for a loop; for a comprehension -/
@[irreducible] def rngF (a b : Int) : Bool := decide (-(2 ^ 62) ≤ a) && decide (a < 2 ^ 62) && decide (-(2 ^ 62) ≤ b) && decide (b < 2 ^ 62)
def rgM : D → D → Res (List D)
  | .int i, .int j => if rngF i j = true then .ok (rgD i j) else stk
  | _, _ => stk
def rgMC : D → D → Res (List D)
  | .int i, .int j => if rgOk i j = true then .ok (rgD i j) else stk
  | _, _ => stk
def itR (p q : Ex) : Nv → Res (List D) := fun ρ => do
  let d ← p ρ
  let e ← q ρ
  rgM d e
def itRC (p q : Ex) : Nv → Res (List D) := fun ρ => do
  let d ← p ρ
  let e ← q ρ
  rgMC d e
theorem rngF_ok {i j : Int} (h : rngF i j = true) : -(2 ^ 62) ≤ i ∧ i < 2 ^ 62 ∧ -(2 ^ 62) ≤ j ∧ j < 2 ^ 62 := by
  unfold rngF at h
  simp only [Bool.and_eq_true, decide_eq_true_eq] at h
  exact ⟨h.1.1.1, h.1.1.2, h.1.2, h.2⟩
theorem si_rng1 (hm : X.mg "range" = none) (ha : SimE X W a p) (hg : Gl X "range" := by rfl) (he : starEach [a] X.env = (false, eval a X.env) :: starEach [] X.env := by rfl) (hs : starEach [a] X.env = [(false, eval a X.env)] := by rfl) : SimI X W tg (.Call (.Name "range" pp) [a] [] pos) (itR (cst (.int 0)) p) := by
  refine PI.imp (pi_range1 hg hm (pa_cons ha pa_nil he) hs) fun σ H Q ⟨B, F, ρ, rl, o⟩ => ?_
  have o : Out X.gm W (RIF X.gm) F H σ (p ρ >>= fun e => rgM (.int 0) e) Q := o
  refine tG_bind anti_IF (f := fun e ρ => rgM (.int 0) e) rl o fun d v F1 H1 e1 g1 r1 q1 o1 => ?_
  cases d with
  | int j =>
    cases q1
    unfold rgM at o1
    simp only at o1
    split at o1
    · rename_i hk
      obtain ⟨_, _, k3, k4⟩ := rngF_ok hk
      have := o1 _ F1 H1 (.refl r1.fh) (yld_rng 0 j)
      exact ⟨j, rfl, k3, k4, by simpa using this⟩
    · exact o1.elim
  | _ => exact o1.elim
theorem si_rng2 (hm : X.mg "range" = none) (ha : SimE X W a p) (hb : SimE X W b q) (hg : Gl X "range" := by rfl) (he : starEach [a, b] X.env = (false, eval a X.env) :: starEach [b] X.env := by rfl) (he2 : starEach [b] X.env = (false, eval b X.env) :: starEach [] X.env := by rfl)
    (hs : starEach [a, b] X.env = [(false, eval a X.env), (false, eval b X.env)] := by rfl) (hs2 : starEach [b] X.env = [(false, eval b X.env)] := by rfl) : SimI X W tg (.Call (.Name "range" pp) [a, b] [] pos) (itR p q) := by
  refine PI.imp (pi_range2 hg hm (pa_cons ha (pa_cons hb pa_nil he2) he) hs hs2) fun σ H Q ⟨B, F, ρ, rl, o⟩ => ?_
  refine tG_bind anti_IF (f := fun d ρ => q ρ >>= fun e => rgM d e) rl o fun d v F1 H1 e1 g1 r1 q1 o1 => ?_
  refine tG_bind anti_IF (f := fun e ρ => rgM d e) r1 o1 fun e u F2 H2 e2 g2 r2 q2 o2 => ?_
  unfold rgM at o2
  split at o2
  · rename_i i j
    split at o2
    · rename_i hk
      cases q1
      cases q2
      exact ⟨i, j, rfl, rngF_ok hk, o2 _ F2 H2 (.refl r2.fh) (yld_rng i j)⟩
    · exact o2.elim
  · exact o2.elim
theorem rgOk_rng {i j : Int} (h : rgOk i j = true) : rngF i j = true := by
  obtain ⟨h1, h2, h3, h4, h5⟩ := rgOk_ok h
  unfold rngF
  simp only [Bool.and_eq_true, decide_eq_true_eq]
  exact ⟨⟨⟨h1, h2⟩, h3⟩, h4⟩
theorem rgD_length (i j : Int) : (rgD i j).length = (j - i).toNat := by unfold rgD; rw [List.length_map, List.length_range]
/-- a loop's walk for a comprehension -/
theorem SimI.c {p : Nv → Res (List D)} (h : SimI X W tg e p) (hz : ∀ ρ ds, p ρ = .ok ds → ds.length ≤ lim) : SimC X W tg e p := by
  refine PI.imp h fun σ H Q ⟨B, F, ρ, rl, o⟩ => ⟨B, F, ρ, rl, ?_⟩
  cases z : p ρ with
  | ok ds => rw [z] at o; exact fun v F1 H1 g r => o v F1 H1 g ⟨YldF.o r, hz ρ ds z⟩
  | error er =>
    rw [z] at o
    cases er with
    | stuck => exact o
    | exc c x => exact o
theorem imp_rng {p : Nv → Res (List D)} {p' : Nv → Res (List D)} (h : SimI X W tg e p) (hz : ∀ ρ, p' ρ = p ρ ∨ p' ρ = stk) : SimI X W tg e p' := by
  refine PI.imp h fun σ H Q ⟨B, F, ρ, rl, o⟩ => ⟨B, F, ρ, rl, ?_⟩
  rcases hz ρ with z | z
  · rw [← z]; exact o
  · rw [z] at o; exact o.elim
theorem itRC_or (p q : Ex) (ρ : Nv) : itRC p q ρ = itR p q ρ ∨ itRC p q ρ = stk := by
  unfold itRC itR
  cases hp : p ρ with
  | error er => exact .inl rfl
  | ok d =>
    cases hq : q ρ with
    | error er => exact .inl rfl
    | ok e =>
      show rgMC d e = rgM d e ∨ rgMC d e = stk
      unfold rgMC rgM
      split
      · rename_i i j
        by_cases hk : rgOk i j = true
        · rw [if_pos hk, if_pos (rgOk_rng hk)]; exact .inl rfl
        · exact .inr (by rw [if_neg hk])
      · exact .inl rfl
theorem itRC_len {p q : Ex} (ρ : Nv) (ds : List D) (h : itRC p q ρ = .ok ds) : ds.length ≤ lim := by
  unfold itRC at h
  cases hp : p ρ with
  | error er => rw [hp] at h; cases h
  | ok d =>
    cases hq : q ρ with
    | error er => rw [hp, hq] at h; cases h
    | ok e =>
      rw [hp, hq] at h
      have h : rgMC d e = Except.ok ds := h
      unfold rgMC at h
      split at h
      · rename_i i j
        split at h
        · rename_i hk
          cases h
          rw [rgD_length]
          exact (rgOk_ok hk).2.2.2.2
        · cases h
      · cases h
theorem sc_rng1 (hm : X.mg "range" = none) (ha : SimE X W a p) (hg : Gl X "range" := by rfl) (he : starEach [a] X.env = (false, eval a X.env) :: starEach [] X.env := by rfl) (hs : starEach [a] X.env = [(false, eval a X.env)] := by rfl) : SimC X W tg (.Call (.Name "range" pp) [a] [] pos) (itRC (cst (.int 0)) p) :=
  SimI.c (imp_rng (si_rng1 hm ha hg he hs) (itRC_or _ _)) itRC_len
theorem sc_rng2 (hm : X.mg "range" = none) (ha : SimE X W a p) (hb : SimE X W b q) (hg : Gl X "range" := by rfl) (he : starEach [a, b] X.env = (false, eval a X.env) :: starEach [b] X.env := by rfl) (he2 : starEach [b] X.env = (false, eval b X.env) :: starEach [] X.env := by rfl)
    (hs : starEach [a, b] X.env = [(false, eval a X.env), (false, eval b X.env)] := by rfl) (hs2 : starEach [b] X.env = [(false, eval b X.env)] := by rfl) : SimC X W tg (.Call (.Name "range" pp) [a, b] [] pos) (itRC p q) :=
  SimI.c (imp_rng (si_rng2 hm ha hb hg he he2 hs hs2) (itRC_or _ _)) itRC_len
end

/-! ### targets -/
def SameBut (is : List Nat) (σ σ' : St) : Prop := σ'.length = σ.length ∧ ∀ j, j ∉ is → σ'[j]? = σ[j]?
theorem SameBut.trans {is js : List Nat} {σ σ1 σ2 : St} (a : SameBut is σ σ1) (b : SameBut js σ1 σ2) : SameBut (is ++ js) σ σ2 :=
  ⟨b.1.trans a.1, fun j hj => by
    rw [List.mem_append, not_or] at hj
    rw [b.2 j hj.2, a.2 j hj.1]⟩
def tGt (mg : Gm) (is : List Nat) (gt : D → Nv → Res Nv) : TG := fun v σ H Q => ∃ B F ρ d, Rel mg B F H σ ρ ∧ Dt mg F v d ∧
  match gt d ρ with
  | .ok ρ' => ∀ σ', Rel mg B F H σ' ρ' → SameBut is σ σ' → Q σ' H
  | .error _ => False
def SimG (X : Cx) (tg : Expr) (is : List Nat) (gt : D → Nv → Res Nv) : Prop := PG X tg (tGt X.gm is gt)
def tGts (mg : Gm) (is : List Nat) (gt : List D → Nv → Res Nv) : TGs := fun vs σ H Q => ∃ B F ρ ds, Rel mg B F H σ ρ ∧ Dts mg F vs ds ∧
  match gt ds ρ with
  | .ok ρ' => ∀ σ', Rel mg B F H σ' ρ' → SameBut is σ σ' → Q σ' H
  | .error _ => False
def SimGs (X : Cx) (tgs : List Expr) (is : List Nat) (gt : List D → Nv → Res Nv) : Prop := PGs X tgs (tGts X.gm is gt)
theorem PG.imp {X : Cx} {e : Expr} {t t' : TG} (h : PG X e t) (q : ∀ v σ H Q, t' v σ H Q → t v σ H Q) : PG X e t' := ⟨fun pins s σ H v u Q I r z => h.run pins s σ H v u Q I r (q v σ H Q z)⟩
theorem PGs.imp {X : Cx} {e : List Expr} {t t' : TGs} (h : PGs X e t) (q : ∀ v σ H Q, t' v σ H Q → t v σ H Q) : PGs X e t' := ⟨fun pins s σ H v u Q I r z => h.run pins s σ H v u Q I r (q v σ H Q z)⟩
section
variable {X : Cx} {pos : Pos} {e : Expr} {es : List Expr}
def gtN (i : Nat) : D → Nv → Res Nv := fun d ρ => .ok (ρ.set i (some (.val d)))
theorem sg_name (i : Nat) {x : Str} (hN : X.N.Nodup) (hi : X.N[i]? = some x := by rfl) (hx : Loc X.env.scope x := by first | exact Or.inl rfl | exact Or.inr rfl) (hf : X.fn x = true ∨ X.env.scope.names.lookup x = some .local := by first | exact .inl rfl | exact .inr rfl) : SimG X (.Name x pos) [i] (gtN i) := by
  refine PG.imp (pg_name (i := i) hN hi hx hf) fun v σ H Q ⟨B, F, ρ, d, rl, h, o⟩ => ?_
  refine o (σ.set i (some v)) (rl.set h i) ⟨by simp, fun j hj => ?_⟩
  rw [List.getElem?_set_ne (by simpa [eq_comm] using hj)]
def gtNil : List D → Nv → Res Nv := fun ds ρ => match ds with
  | [] => .ok ρ
  | _ => stk
def gtCons (g : D → Nv → Res Nv) (gs : List D → Nv → Res Nv) : List D → Nv → Res Nv := fun ds ρ => match ds with
  | d :: r => do
    let ρ' ← g d ρ
    gs r ρ'
  | [] => stk
theorem sgs_nil : SimGs X [] [] gtNil := by
  refine PGs.imp pgs_nil fun v σ H Q ⟨B, F, ρ, ds, rl, h, o⟩ => ?_
  unfold gtNil at o
  cases h with
  | nil => exact ⟨rfl, o σ rl ⟨rfl, fun _ _ => rfl⟩⟩
  | cons _ _ => exact o.elim
theorem sgs_cons {is js : List Nat} {g : D → Nv → Res Nv} {gs : List D → Nv → Res Nv} (h1 : SimG X e is g) (h2 : SimGs X es js gs) (hs : (assignEach (e :: es) X.env).map (·.2) = assign e X.env :: (assignEach es X.env).map (·.2) := by rfl) : SimGs X (e :: es) (is ++ js) (gtCons g gs) := by
  refine PGs.imp (pgs_cons h1 h2 hs) fun v σ H Q ⟨B, F, ρ, ds, rl, h, o⟩ => ?_
  cases ds with
  | nil => exact o.elim
  | cons d ds =>
    cases h with
    | cons h hr =>
      refine ⟨_, _, rfl, B, F, ρ, d, rl, h, ?_⟩
      have o : (match (g d ρ >>= fun ρ' => gs ds ρ') with | .ok ρ' => ∀ σ', Rel X.gm B F H σ' ρ' → SameBut (is ++ js) σ σ' → Q σ' H | .error _ => False) := o
      cases z : g d ρ with
      | error er => rw [z] at o; exact o.elim
      | ok ρ1 =>
        rw [z] at o
        refine fun σ1 rl1 sb1 => ⟨B, F, ρ1, ds, rl1, hr, ?_⟩
        have o : (match gs ds ρ1 with | .ok ρ' => ∀ σ', Rel X.gm B F H σ' ρ' → SameBut (is ++ js) σ σ' → Q σ' H | .error _ => False) := o
        cases z2 : gs ds ρ1 with
        | error er => rw [z2] at o; exact o.elim
        | ok ρ2 => rw [z2] at o; exact fun σ2 rl2 sb2 => o σ2 rl2 (sb1.trans sb2)
def gtT (gs : List D → Nv → Res Nv) : D → Nv → Res Nv := fun d ρ => match d with
  | .tup ds => gs ds ρ
  | _ => stk
theorem sg_tup {k n : Nat} {is : List Nat} {gs : List D → Nv → Res Nv} (hc : X.calm = true) (h : SimGs X es is gs) (hl : ∀ ds ρ ρ', gs ds ρ = .ok ρ' → ds.length = n) (hn : (assignEach es X.env).length = n := by rfl) (hst : (assignEach es X.env).findIdx? (·.1) = none := by rfl) : SimG X (.Tuple es k pos) is (gtT gs) := by
  refine PG.imp (pg_tup (n := n) hc h hn hst) fun v σ H Q ⟨B, F, ρ, d, rl, h, o⟩ => ?_
  cases d with
  | tup ds =>
    cases h with
    | tup h od q =>
      refine ⟨_, _, rfl, .inl (.inr ⟨_, rl.fh _ _ h⟩), ?_, B, F, ρ, ds, rl, q, o⟩
      have o : (match gs ds ρ with | .ok ρ' => ∀ σ', Rel X.gm B F H σ' ρ' → SameBut is σ σ' → Q σ' H | .error _ => False) := o
      cases z : gs ds ρ with
      | error er => rw [z] at o; exact o.elim
      | ok ρ1 => rw [q.length]; exact hl ds ρ ρ1 z
  | _ => exact o.elim
theorem gt2_len {i j : Nat} (ds : List D) (ρ ρ' : Nv) (h : gtCons (gtN i) (gtCons (gtN j) gtNil) ds ρ = .ok ρ') : ds.length = 2 := by
  match ds, h with
  | [_, _], _ => rfl
  | [], h => cases h
  | [_], h => cases h
  | _ :: _ :: _ :: _, h => cases h
theorem gt4_len {i j k l : Nat} (ds : List D) (ρ ρ' : Nv) (h : gtCons (gtN i) (gtCons (gtN j) (gtCons (gtN k) (gtCons (gtN l) gtNil))) ds ρ = .ok ρ') : ds.length = 4 := by
  match ds, h with
  | [_, _, _, _], _ => rfl
  | [], h => cases h
  | [_], h => cases h
  | [_, _], h => cases h
  | [_, _, _], h => cases h
  | _ :: _ :: _ :: _ :: _ :: _, h => cases h
end

/-! ### list comprehensions -/
def W0 : WX := fun _ _ _ _ => False
def wipeN (ρ : Nv) : List Nat → Nv
  | [] => ρ
  | v :: vs => (wipeN ρ vs).set v none
theorem Rel.wipe {mg : Gm} {B F H : Hp} {σ : St} {ρ : Nv} (r : Rel mg B F H σ ρ) : ∀ vs : List Nat, Rel mg B F H (L2.wipe σ vs) (wipeN ρ vs)
  | [] => r
  | v :: vs => by
    have ih := Rel.wipe r vs
    unfold L2.wipe wipeN
    have key : ∀ (j : Nat) (s : Sl), ((wipeN ρ vs).set v none)[j]? = some (some s) → v ≠ j ∧ (wipeN ρ vs)[j]? = some (some s) := fun j s e => by
      by_cases hj : v = j
      · subst hj
        by_cases hl : v < (wipeN ρ vs).length
        · rw [List.getElem?_set_self hl] at e; simp at e
        · rw [List.getElem?_eq_none (by simpa using hl)] at e; cases e
      · rw [List.getElem?_set_ne hj] at e; exact ⟨hj, e⟩
    refine ⟨by simp [ih.len], ih.bh, ih.fh, fun j s e => ?_, fun j k x y a hjk h1 h2 h3 => ?_⟩
    · obtain ⟨hj, e⟩ := key j s e
      obtain ⟨w, h1, h2⟩ := ih.sl j s e
      exact ⟨w, by rw [List.getElem?_set_ne hj]; exact h1, h2⟩
    · obtain ⟨hj, e1⟩ := key j _ h1
      obtain ⟨hk, e2⟩ := key k _ h2
      rw [List.getElem?_set_ne hj] at h3
      rw [List.getElem?_set_ne hk]
      exact ih.ap j k x y a hjk e1 e2 h3
theorem wipe_set {σ σ' : St} : ∀ {vs : List Nat} {is : List Nat}, SameBut is σ σ' → (∀ i ∈ is, i ∈ vs) → L2.wipe σ' vs = L2.wipe σ vs := by
  intro vs is sb hs
  apply List.ext_getElem?
  intro j
  have len : (L2.wipe σ' vs).length = (L2.wipe σ vs).length := by rw [wipe_length, wipe_length, sb.1]
  have get : ∀ (τ : St) (vs : List Nat), (L2.wipe τ vs)[j]? = if j ∈ vs ∧ j < τ.length then some none else τ[j]? := by
    intro τ vs
    induction vs with
    | nil => simp [L2.wipe]
    | cons v vs ih =>
      unfold L2.wipe
      by_cases hv : v = j
      · subst hv
        by_cases hl : v < τ.length
        · rw [List.getElem?_set_self (by rw [wipe_length]; exact hl), if_pos ⟨List.mem_cons_self, hl⟩]
        · rw [List.getElem?_eq_none (by rw [List.length_set, wipe_length]; omega), if_neg (by simp [hl]), List.getElem?_eq_none (by omega)]
      · rw [List.getElem?_set_ne hv, ih]
        by_cases hm : j ∈ vs
        · simp [hm]
        · simp [hm, Ne.symm hv]
  rw [get, get, sb.1]
  by_cases hj : j ∈ vs ∧ j < σ.length
  · rw [if_pos hj, if_pos hj]
  · rw [if_neg hj, if_neg hj]
    by_cases hv : j ∈ vs
    · have hl : ¬ j < σ.length := fun h => hj ⟨hv, h⟩
      rw [List.getElem?_eq_none (by rw [sb.1]; omega), List.getElem?_eq_none (by omega)]
    · exact sb.2 j fun h => hv (hs j h)
def SimTs (X : Cx) (W : WX) (ifs : List Expr) (t : Nv → Res Bool) : Prop := PTs X ifs (tG X.gm W RT t)
def tsYes : Nv → Res Bool := fun _ => .ok true
section
variable {X : Cx} {W : WX} {c : Expr} {t : Nv → Res Bool}
theorem PTs.imp {ifs : List Expr} {t t' : TT} (h : PTs X ifs t) (q : ∀ σ H Q, t' σ H Q → t σ H Q) : PTs X ifs t' := ⟨fun pins s σ H Q I z => h.run pins s σ H Q I (q σ H Q z)⟩
theorem sts_nil : SimTs X W [] tsYes := PTs.imp pts_nil fun σ H Q ⟨B, F, ρ, rl, o⟩ => o true F H (.refl rl.fh) rfl
theorem sts_one (h : SimT X W c t) : SimTs X W [c] t := pts_one h
end
/-- one turn -/
def lcStep (gt : D → Nv → Res Nv) (t : Nv → Res Bool) (p : Ex) (ρ : Nv) (d : D) : Res (Option D) := do
  let ρ' ← gt d ρ
  let b ← t ρ'
  if b = true then do
    let x ← p ρ'
    .ok (some x)
  else .ok none
def lcGo (f : D → Res (Option D)) : List D → Res (List D)
  | [] => .ok []
  | d :: ds => do
    match ← f d with
    | some x => do
      let xs ← lcGo f ds
      .ok (x :: xs)
    | none => lcGo f ds
def eLC (items : Nv → Res (List D)) (vs : List Nat) (gt : D → Nv → Res Nv) (t : Nv → Res Bool) (p : Ex) : Nv → Res Sl := fun ρ => do
  let ds ← items ρ
  let xs ← noExc (lcGo (lcStep gt t p (wipeN ρ vs)) ds)
  .ok (.own (.lst xs))
theorem lcStep_ok {gt : D → Nv → Res Nv} {t : Nv → Res Bool} {p : Ex} {ρ : Nv} {d : D} {o : Option D} (h : lcStep gt t p ρ d = .ok o) :
    ∃ ρ' b, gt d ρ = .ok ρ' ∧ t ρ' = .ok b ∧ ((b = false ∧ o = none) ∨ (b = true ∧ ∃ x, p ρ' = .ok x ∧ o = some x)) := by
  unfold lcStep at h
  cases zg : gt d ρ with
  | error er => rw [zg] at h; cases h
  | ok ρ' =>
    rw [zg] at h
    have h : (t ρ' >>= fun b => if b = true then (p ρ' >>= fun x => .ok (some x)) else .ok none) = Except.ok o := h
    cases zt : t ρ' with
    | error er => rw [zt] at h; cases h
    | ok b =>
      rw [zt] at h
      have h : (if b = true then (p ρ' >>= fun x => .ok (some x)) else .ok none) = Except.ok o := h
      refine ⟨ρ', b, rfl, zt, ?_⟩
      cases b with
      | false => rw [if_neg (by decide)] at h; cases h; exact .inl ⟨rfl, rfl⟩
      | true =>
        rw [if_pos rfl] at h
        cases zp : p ρ' with
        | error er => rw [zp] at h; cases h
        | ok x => rw [zp] at h; cases h; exact .inr ⟨rfl, x, rfl, rfl⟩
theorem lcGo_cons {f : D → Res (Option D)} {d : D} {ds rest : List D} (h : lcGo f (d :: ds) = .ok rest) :
    (∃ x r, f d = .ok (some x) ∧ lcGo f ds = .ok r ∧ rest = x :: r) ∨ (f d = .ok none ∧ lcGo f ds = .ok rest) := by
  unfold lcGo at h
  cases zf : f d with
  | error er => rw [zf] at h; cases h
  | ok o =>
    rw [zf] at h
    cases o with
    | none => exact .inr ⟨rfl, h⟩
    | some x =>
      have h : (lcGo f ds >>= fun xs => .ok (x :: xs)) = Except.ok rest := h
      cases zr : lcGo f ds with
      | error er => rw [zr] at h; cases h
      | ok r => rw [zr] at h; cases h; exact .inl ⟨x, r, rfl, rfl, rfl⟩
theorem wipe_in {τ : St} {u : Nat} : ∀ ws : List Nat, u ∈ ws → (L2.wipe τ ws).set u none = L2.wipe τ ws := by
  intro ws
  induction ws with
  | nil => intro h; cases h
  | cons w ws ih2 =>
    intro h
    show ((L2.wipe τ ws).set w none).set u none = (L2.wipe τ ws).set w none
    by_cases e : u = w
    · subst e; simp
    · rw [List.set_comm _ _ (fun z => e z.symm), ih2 ((List.mem_cons.mp h).resolve_left e)]
theorem wipe_idem (τ : St) (ws : List Nat) : ∀ us : List Nat, (∀ u ∈ us, u ∈ ws) → L2.wipe (L2.wipe τ ws) us = L2.wipe τ ws
  | [], _ => rfl
  | u :: us, hu => by
    show (L2.wipe (L2.wipe τ ws) us).set u none = _
    rw [wipe_idem τ ws us fun z hz => hu z (List.mem_cons_of_mem _ hz)]
    exact wipe_in ws (hu u List.mem_cons_self)
theorem tLc_of {X : Cx} {W : WX} {items : Nv → Res (List D)} {vs is : List Nat} {gt : D → Nv → Res Nv} {t : Nv → Res Bool} {p : Ex} {σ : St} {H : Hp} {Q : VK} (hv : ∀ i ∈ is, i ∈ vs)
    (h : tG X.gm W (RS X.gm) (eLC items vs gt t p) σ H Q) : tLc (tG X.gm W (RIO X.gm) items) (tGt X.gm is gt) (tG X.gm W0 RT t) (tG X.gm W0 (RV X.gm) p) vs σ H Q := by
  obtain ⟨B, F, ρ, rl, o⟩ := h
  refine tG_bind anti_S (f := fun ds ρ => noExc (lcGo (lcStep gt t p (wipeN ρ vs)) ds) >>= fun xs => .ok (.own (.lst xs))) rl o fun ds J F1 H1 e1 g1 r1 q1 o1 => ?_
  obtain ⟨yl, hz⟩ := q1
  intro Dd nD
  cases zt : lcGo (lcStep gt t p (wipeN ρ vs)) ds with
  | error er => rw [zt] at o1; exact o1.elim
  | ok total =>
    rw [zt] at o1
    have o1 : ∀ v F' H', Grow F1 H1 F' H' → RS X.gm H1 F' H' v (.own (.lst total)) → Q v H' := o1
    -- the invariant
    refine ⟨fun i m H2 => m = ds.length - i ∧ i ≤ ds.length ∧ ∃ F2 acc done rest, (Grow F1 H1 F2 H2 ∧ H2 Dd = some (.lst acc) ∧ F2 Dd = none) ∧ Dts X.gm F2 acc done ∧ done.length ≤ i ∧ lcGo (lcStep gt t p (wipeN ρ vs)) (ds.drop i) = .ok rest ∧ done ++ rest = total, ⟨ds.length, by simp, Nat.zero_le _, F1, [], [], total, ⟨.newO r1.fh nD, upd_same, r1.fh.noneOf nD⟩, .nil, Nat.le_refl _, by simpa using zt, rfl⟩, ?_⟩
    rintro i m H2 ⟨rfl, hi, F2, acc, done, rest, ⟨g2, hD, fD⟩, qd, hl, go, tot⟩
    have yy := yl F2 H2 g2.ff g2.fh g2.hh i
    by_cases hlt : i < ds.length
    · have hd : ds[i]? = some ds[i] := List.getElem?_eq_getElem hlt
      obtain ⟨jg, jy⟩ := yy.1 _ hd
      refine .inr ⟨jg, fun H' => i + 1 ≤ ds.length ∧ ∃ F2 acc done rest, (Grow F1 H1 F2 H' ∧ H' Dd = some (.lst acc) ∧ F2 Dd = none) ∧ Dts X.gm F2 acc done ∧ done.length ≤ i + 1 ∧ lcGo (lcStep gt t p (wipeN ρ vs)) (ds.drop (i + 1)) = .ok rest ∧ done ++ rest = total, fun H' ⟨h1, h2⟩ => ⟨ds.length - (i + 1), by omega, rfl, h1, h2⟩, fun x H3 y => ?_⟩
      obtain ⟨F3, g3, dx⟩ := jy x H3 y
      have hdrop : ds.drop i = ds[i] :: ds.drop (i + 1) := List.drop_eq_getElem_cons hlt
      rw [hdrop] at go
      have keep : ∀ {F' H'}, Grow F2 H2 F' H' → H' Dd = some (.lst acc) ∧ F' Dd = none := fun {F' H'} g => ⟨g.hh _ _ hD, by
        cases z : F' Dd with
        | none => rfl
        | some u => have := g.nw _ _ z fD; rw [hD] at this; cases this⟩
      have rl3 : Rel X.gm B F3 H3 (L2.wipe σ vs) (wipeN ρ vs) := ((r1.grow g2).grow g3).wipe vs
      refine ⟨B, F3, wipeN ρ vs, ds[i], rl3, dx, ?_⟩
      have stepOk : ∃ o, lcStep gt t p (wipeN ρ vs) ds[i] = .ok o := by
        rcases lcGo_cons go with ⟨x, r, h, _⟩ | ⟨h, _⟩
        · exact ⟨_, h⟩
        · exact ⟨_, h⟩
      obtain ⟨o, so⟩ := stepOk
      obtain ⟨ρ3, b, zg, ztb, zb⟩ := lcStep_ok so
      rw [zg]
      refine fun σ3 rl4 sb => ⟨by rw [wipe_set sb hv, wipe_idem σ vs vs fun _ h => h], B, F3, ρ3, rl4, ?_⟩
      rw [ztb]
      intro b' F4 H4 g4 eb
      have eb : b' = b := eb
      subst eb
      have g24 := g3.trans g4
      rcases zb with ⟨rfl, rfl⟩ | ⟨rfl, xv, zp, rfl⟩
      · rw [if_neg (by decide)]
        rcases lcGo_cons go with ⟨x, r, h, _⟩ | ⟨_, go2⟩
        · rw [so] at h; cases h
        · exact ⟨hlt, F4, acc, done, rest, ⟨g2.trans g24, keep g24⟩, qd.mono g24.ff, by omega, go2, tot⟩
      · rw [if_pos rfl]
        refine ⟨B, F4, ρ3, rl4.grow g4, ?_⟩
        rw [zp]
        intro v F5 H5 g5 dv
        have g25 := g24.trans g5
        have hln : acc.length = done.length := qd.length
        rcases lcGo_cons go with ⟨x', r, h, go2, er⟩ | ⟨h, _⟩
        · rw [so] at h
          cases h
          subst er
          have g15 : Grow F1 H1 F5 H5 := g2.trans g25
          obtain ⟨hD5, fD5⟩ := keep g25
          refine ⟨acc, hD5, by rw [lim_eq]; omega, hlt, F5, acc ++ [v], done ++ [xv], r, ⟨⟨Sub.mut g15.hh nD, g15.ff, Sub.mut g15.fh fD5, g15.nw⟩, upd_same, fD5⟩, (qd.mono g25.ff).append (.cons dv .nil), by simp; omega, go2, by rw [← tot, List.append_assoc]; rfl⟩
        · rw [so] at h; cases h
    · have e : i = ds.length := by omega
      subst e
      refine .inl ⟨yy.2 (Nat.le_refl _), ?_⟩
      rw [List.drop_length] at go
      cases go
      rw [List.append_nil] at tot
      subst tot
      exact o1 (.ref Dd) F2 H2 g2 ⟨Dd, rfl, .lst hD qd, fD, nD⟩
section
variable {X : Cx} {W : WX} {elt tg iter : Expr} {ifs : List Expr} {scope : Scope} {own : List (Str × Nat)} {pos : Pos} {items : Nv → Res (List D)} {is : List Nat} {gt : D → Nv → Res Nv} {t : Nv → Res Bool} {p : Ex}
theorem sn_lc (hc : X.calm = true) (hN : X.N.Nodup) (hi : SimC X W tg iter items) (ok : BlkOk X.N X.env.scope scope own) (hv : ∀ i ∈ is, i ∈ own.map (·.2))
    (hg : ∀ (s : Shared) (H : Hp) (C : Addr) (cl : List (Str × Addr)) (fp : List Addr), SimG (X.blk s H scope (compEnvC scope cl C X.env) fp) tg is gt)
    (ht : ∀ (s : Shared) (H : Hp) (C : Addr) (cl : List (Str × Addr)) (fp : List Addr), SimTs (X.blk s H scope (compEnvC scope cl C X.env) fp) W0 ifs t)
    (he : ∀ (s : Shared) (H : Hp) (C : Addr) (cl : List (Str × Addr)) (fp : List Addr), SimE (X.blk s H scope (compEnvC scope cl C X.env) fp) W0 elt p)
    (hs : ∀ x, foldedSetIterable iter X.env x = pure x := by intro _; rfl) : SimN X W (.ListComp elt [⟨tg, iter, ifs, 0⟩] scope pos) (eLC items (own.map (·.2)) gt t p) :=
  PE.imp (pe_lc (g := tGt X.gm is gt) (tt := tG X.gm W0 RT t) (te := tG X.gm W0 (RV X.gm) p) hc hN hi ok hg ht he hs) fun _ _ _ h => tLc_of hv h
end
end Sim

/-! Sim6: list comprehensions of two clauses. -/
namespace Sim
open PySem L2
def go2 (f : D → Res (List D)) : List D → Res (List D)
  | [] => .ok []
  | d :: ds => do
    let xs ← f d
    let ys ← go2 f ds
    .ok (xs ++ ys)
def lc2Step (gt : D → Nv → Res Nv) (items1 : Nv → Res (List D)) (vs1 : List Nat) (gt1 : D → Nv → Res Nv) (t1 : Nv → Res Bool) (p : Ex) (ρ : Nv) (d : D) : Res (List D) := do
  let ρ1 ← gt d ρ
  let es ← items1 ρ1
  lcGo (lcStep gt1 t1 p (wipeN ρ1 vs1)) es
def eLC2 (items : Nv → Res (List D)) (vs : List Nat) (gt : D → Nv → Res Nv) (items1 : Nv → Res (List D)) (vs1 : List Nat) (gt1 : D → Nv → Res Nv) (t1 : Nv → Res Bool) (p : Ex) : Nv → Res Sl := fun ρ => do
  let ds ← items ρ
  let xs ← noExc (go2 (lc2Step gt items1 vs1 gt1 t1 p (wipeN ρ vs)) ds)
  if xs.length ≤ lim then .ok (.own (.lst xs)) else stk
theorem go2_cons {f : D → Res (List D)} {d : D} {ds rest : List D} (h : go2 f (d :: ds) = .ok rest) : ∃ xs r, f d = .ok xs ∧ go2 f ds = .ok r ∧ rest = xs ++ r := by
  unfold go2 at h
  cases zf : f d with
  | error er => rw [zf] at h; cases h
  | ok xs =>
    rw [zf] at h
    have h : (go2 f ds >>= fun ys => .ok (xs ++ ys)) = Except.ok rest := h
    cases zr : go2 f ds with
    | error er => rw [zr] at h; cases h
    | ok r => rw [zr] at h; cases h; exact ⟨xs, r, rfl, rfl, rfl⟩
theorem lc2Step_ok {gt : D → Nv → Res Nv} {items1 : Nv → Res (List D)} {vs1 : List Nat} {gt1 : D → Nv → Res Nv} {t1 : Nv → Res Bool} {p : Ex} {ρ : Nv} {d : D} {xs : List D} (h : lc2Step gt items1 vs1 gt1 t1 p ρ d = .ok xs) :
    ∃ ρ1 es, gt d ρ = .ok ρ1 ∧ items1 ρ1 = .ok es ∧ lcGo (lcStep gt1 t1 p (wipeN ρ1 vs1)) es = .ok xs := by
  unfold lc2Step at h
  cases zg : gt d ρ with
  | error er => rw [zg] at h; cases h
  | ok ρ1 =>
    rw [zg] at h
    have h : (items1 ρ1 >>= fun es => lcGo (lcStep gt1 t1 p (wipeN ρ1 vs1)) es) = Except.ok xs := h
    cases zi : items1 ρ1 with
    | error er => rw [zi] at h; cases h
    | ok es => rw [zi] at h; exact ⟨ρ1, es, rfl, zi, h⟩
theorem wipeN_some {ρ : Nv} {i : Nat} {s : Sl} : ∀ {vs : List Nat}, (wipeN ρ vs)[i]? = some (some s) → ρ[i]? = some (some s) ∧ i ∉ vs
  | [], h => ⟨h, by simp⟩
  | v :: vs, h => by
    unfold wipeN at h
    by_cases hi : v = i
    · subst hi
      by_cases hv : v < (wipeN ρ vs).length
      · rw [List.getElem?_set_self hv] at h; cases h
      · rw [List.getElem?_eq_none (by simpa using hv)] at h; cases h
    · rw [List.getElem?_set_ne hi] at h
      obtain ⟨h1, h2⟩ := wipeN_some h
      exact ⟨h1, by simp only [List.mem_cons, not_or]; exact ⟨fun e => hi e.symm, h2⟩⟩
/-- a target makes no own lists -/
def OwnLe (gt : D → Nv → Res Nv) : Prop := ∀ d ρ ρ', gt d ρ = .ok ρ' → ∀ (i : Nat) s, ρ'[i]? = some (some (.own s)) → ρ[i]? = some (some (.own s))
theorem ownLe_N (i : Nat) : OwnLe (gtN i) := fun d ρ ρ' h j s e => by
  cases h
  by_cases hj : i = j
  · subst hj
    by_cases hl : i < ρ.length
    · rw [List.getElem?_set_self hl] at e; simp at e
    · rw [List.getElem?_eq_none (by simpa using hl)] at e; cases e
  · rw [List.getElem?_set_ne hj] at e; exact e
theorem tLc2_of {X : Cx} {W : WX} {items items1 : Nv → Res (List D)} {vs vs1 is is1 : List Nat} {gt gt1 : D → Nv → Res Nv} {t1 : Nv → Res Bool} {p : Ex} {σ : St} {H : Hp} {Q : VK} (hv : ∀ i ∈ is, i ∈ vs) (hv1 : ∀ i ∈ is1, i ∈ vs1) (ol : OwnLe gt)
    (h : tG X.gm W (RS X.gm) (eLC2 items vs gt items1 vs1 gt1 t1 p) σ H Q) :
    tLc2 (tG X.gm W (RIO X.gm) items) (tGt X.gm is gt) tYes (tG X.gm W0 (RIF X.gm) items1) (tGt X.gm is1 gt1) (tG X.gm W0 RT t1) (tG X.gm W0 (RV X.gm) p) vs vs1 σ H Q := by
  obtain ⟨B, F, ρ, rl, o⟩ := h
  refine tG_bind anti_S (f := fun ds ρ => noExc (go2 (lc2Step gt items1 vs1 gt1 t1 p (wipeN ρ vs)) ds) >>= fun xs => if xs.length ≤ lim then .ok (.own (.lst xs)) else stk) rl o fun ds J F1 H1 e1 g1 r1 q1 o1 => ?_
  obtain ⟨yl, hz⟩ := q1
  intro Dd nD
  cases zt : go2 (lc2Step gt items1 vs1 gt1 t1 p (wipeN ρ vs)) ds with
  | error er => rw [zt] at o1; exact o1.elim
  | ok total =>
    rw [zt] at o1
    have o1 : Out X.gm W (RS X.gm) F1 H1 σ (if total.length ≤ lim then .ok (.own (.lst total)) else stk) Q := o1
    split at o1
    case isFalse => exact o1.elim
    case isTrue htot =>
    have o1 : ∀ v F' H', Grow F1 H1 F' H' → RS X.gm H1 F' H' v (.own (.lst total)) → Q v H' := o1
    refine ⟨fun i m H2 => m = ds.length - i ∧ i ≤ ds.length ∧ ∃ F2 acc done rest, (Grow F1 H1 F2 H2 ∧ H2 Dd = some (.lst acc) ∧ F2 Dd = none) ∧ Dts X.gm F2 acc done ∧ go2 (lc2Step gt items1 vs1 gt1 t1 p (wipeN ρ vs)) (ds.drop i) = .ok rest ∧ done ++ rest = total, ⟨ds.length, by simp, Nat.zero_le _, F1, [], [], total, ⟨.newO r1.fh nD, upd_same, r1.fh.noneOf nD⟩, .nil, by simpa using zt, rfl⟩, ?_⟩
    rintro i m H2 ⟨rfl, hi, F2, acc, done, rest, ⟨g2, hD, fD⟩, qd, go, tot⟩
    have yy := yl F2 H2 g2.ff g2.fh g2.hh i
    by_cases hlt : i < ds.length
    · have hd : ds[i]? = some ds[i] := List.getElem?_eq_getElem hlt
      obtain ⟨jg, jy⟩ := yy.1 _ hd
      have hdrop : ds.drop i = ds[i] :: ds.drop (i + 1) := List.drop_eq_getElem_cons hlt
      rw [hdrop] at go
      obtain ⟨xs, r2, so, go2', er⟩ := go2_cons go
      subst er
      obtain ⟨ρ1, es, zg, zi, zl⟩ := lc2Step_ok so
      refine .inr ⟨jg, fun H' => i + 1 ≤ ds.length ∧ ∃ F2 acc done rest, (Grow F1 H1 F2 H' ∧ H' Dd = some (.lst acc) ∧ F2 Dd = none) ∧ Dts X.gm F2 acc done ∧ go2 (lc2Step gt items1 vs1 gt1 t1 p (wipeN ρ vs)) (ds.drop (i + 1)) = .ok rest ∧ done ++ rest = total, fun H' ⟨h1, h2⟩ => ⟨ds.length - (i + 1), by omega, rfl, h1, h2⟩, fun x H3 y => ?_⟩
      obtain ⟨F3, g3, dx⟩ := jy x H3 y
      have keep : ∀ {Fa Ha F' H'} {ac : List V}, Ha Dd = some (.lst ac) → Fa Dd = none → Grow Fa Ha F' H' → H' Dd = some (.lst ac) ∧ F' Dd = none := fun {Fa Ha F' H' ac} h f g => ⟨g.hh _ _ h, by
        cases z : F' Dd with
        | none => rfl
        | some u => have := g.nw _ _ z f; rw [h] at this; cases this⟩
      have rl3 : Rel X.gm B F3 H3 (L2.wipe σ vs) (wipeN ρ vs) := ((r1.grow g2).grow g3).wipe vs
      refine ⟨B, F3, wipeN ρ vs, ds[i], rl3, dx, ?_⟩
      rw [zg]
      refine fun σ3 rl4 sb => ⟨by rw [wipe_set sb hv, wipe_idem σ vs vs fun _ h => h], ?_⟩
      unfold tYes
      dsimp only
      rw [if_pos rfl]
      refine ⟨B, F3, ρ1, rl4, ?_⟩
      rw [zi]
      intro J1 F4 H4 g4 yl1
      have yl1 : YldF X.gm F4 J1 es := yl1
      have g14 : Grow F1 H1 F4 H4 := (g2.trans g3).trans g4
      obtain ⟨hD4, fD4⟩ := keep hD fD (g3.trans g4)
      have rl5 : Rel X.gm B F4 H4 (L2.wipe σ3 vs1) (wipeN ρ1 vs1) := (rl4.grow g4).wipe vs1
      -- the inner invariant
      refine ⟨fun j k H5 => k = es.length - j ∧ j ≤ es.length ∧ ∃ F5 acc done r1, (Grow F1 H1 F5 H5 ∧ H5 Dd = some (.lst acc) ∧ F5 Dd = none) ∧ Sub F4 F5 ∧ Rel X.gm B F5 H5 (L2.wipe σ3 vs1) (wipeN ρ1 vs1) ∧ Dts X.gm F5 acc done ∧ lcGo (lcStep gt1 t1 p (wipeN ρ1 vs1)) (es.drop j) = .ok r1 ∧ done ++ (r1 ++ r2) = total,
        ⟨es.length, by simp, Nat.zero_le _, F4, acc, done, xs, ⟨g14, hD4, fD4⟩, .refl _, rl5, qd.mono (g3.trans g4).ff, by simpa using zl, tot⟩, ?_⟩
      rintro j k H5 ⟨rfl, hj, F5, acc5, done5, r1', ⟨g5, hD5, fD5⟩, s5, rl6, qd5, go5, tot5⟩
      have y1 := yl1 F5 H5 s5 g5.fh j
      by_cases hjl : j < es.length
      · have he : es[j]? = some es[j] := List.getElem?_eq_getElem hjl
        obtain ⟨jg1, jy1⟩ := y1.1 _ he
        have hdrop1 : es.drop j = es[j] :: es.drop (j + 1) := List.drop_eq_getElem_cons hjl
        rw [hdrop1] at go5
        refine .inr ⟨jg1, fun H' => j + 1 ≤ es.length ∧ ∃ F5 acc done r1, (Grow F1 H1 F5 H' ∧ H' Dd = some (.lst acc) ∧ F5 Dd = none) ∧ Sub F4 F5 ∧ Rel X.gm B F5 H' (L2.wipe σ3 vs1) (wipeN ρ1 vs1) ∧ Dts X.gm F5 acc done ∧ lcGo (lcStep gt1 t1 p (wipeN ρ1 vs1)) (es.drop (j + 1)) = .ok r1 ∧ done ++ (r1 ++ r2) = total, fun H' ⟨h1, h2⟩ => ⟨es.length - (j + 1), by omega, rfl, h1, h2⟩, fun x1 H6 yy1 => ?_⟩
        obtain ⟨F6, g6, dx1⟩ := jy1 x1 H6 yy1
        have rl7 := rl6.grow g6
        refine ⟨B, F6, wipeN ρ1 vs1, es[j], rl7, dx1, ?_⟩
        have stepOk : ∃ o, lcStep gt1 t1 p (wipeN ρ1 vs1) es[j] = .ok o := by
          rcases lcGo_cons go5 with ⟨x, r, h, _⟩ | ⟨h, _⟩
          · exact ⟨_, h⟩
          · exact ⟨_, h⟩
        obtain ⟨o, so1⟩ := stepOk
        obtain ⟨ρ7, b, zg7, ztb, zb⟩ := lcStep_ok so1
        rw [zg7]
        refine fun σ7 rl8 sb7 => ⟨by rw [wipe_set sb7 hv1, wipe_idem σ3 vs1 vs1 fun _ h => h], B, F6, ρ7, rl8, ?_⟩
        rw [ztb]
        intro b' F7 H7 g7 eb
        have eb : b' = b := eb
        subst eb
        have g67 := g6.trans g7
        rcases zb with ⟨rfl, rfl⟩ | ⟨rfl, xv, zp, rfl⟩
        · rw [if_neg (by decide)]
          rcases lcGo_cons go5 with ⟨x, r, h, _⟩ | ⟨_, go6⟩
          · rw [so1] at h; cases h
          · exact ⟨hjl, F7, acc5, done5, r1', ⟨g5.trans g67, keep hD5 fD5 g67⟩, s5.trans g67.ff, rl6.grow g67, qd5.mono g67.ff, go6, tot5⟩
        · rw [if_pos rfl]
          refine ⟨B, F7, ρ7, rl8.grow g7, ?_⟩
          rw [zp]
          intro v F8 H8 g8 dv
          have g68 := g67.trans g8
          have hln : acc5.length = done5.length := qd5.length
          rcases lcGo_cons go5 with ⟨x', r, h, go6, er⟩ | ⟨h, _⟩
          · rw [so1] at h
            cases h
            subst er
            have g18 : Grow F1 H1 F8 H8 := g5.trans g68
            obtain ⟨hD8, fD8⟩ := keep hD5 fD5 g68
            have hlt5 : done5.length < total.length := by rw [← tot5]; simp
            have gU : Grow F1 H1 F8 (upd H8 Dd (.lst (acc5 ++ [v]))) := ⟨Sub.mut g18.hh nD, g18.ff, Sub.mut g18.fh fD8, g18.nw⟩
            refine ⟨acc5, hD8, by rw [lim_eq]; omega, hjl, F8, acc5 ++ [v], done5 ++ [xv], r, ⟨gU, upd_same, fD8⟩, s5.trans g68.ff, ?_, (qd5.mono g68.ff).append (.cons dv .nil), go6, by rw [← tot5]; simp⟩
            -- the relation behind the append
            have r9 := rl6.grow g68
            refine ⟨r9.len, r1.bh.trans gU.hh, gU.fh, fun i s e => ?_, r9.ap⟩
            obtain ⟨w, h1, h2⟩ := r9.sl i s e
            refine ⟨w, h1, ?_⟩
            cases h2 with
            | val h2 => exact .val h2
            | own h2 hf hb =>
              rename_i a d
              refine .own (h2.mono (.refl _) ?_) hf hb
              -- an own list is older than D
              have : a ≠ Dd := by
                intro e'
                subst e'
                obtain ⟨e1', _⟩ := wipeN_some e
                have e2' := ol _ _ _ zg i d e1'
                obtain ⟨e3', nv⟩ := wipeN_some e2'
                obtain ⟨w', h1', h2'⟩ := r1.sl i _ e3'
                have i1 : (L2.wipe σ3 vs1)[i]? = some (some (.ref a)) := h1
                obtain ⟨i2, _⟩ := wipe_some i1
                rw [sb.2 i fun z => nv (hv i z)] at i2
                obtain ⟨i3, _⟩ := wipe_some i2
                rw [i3] at h1'
                cases h1'
                cases h2' with
                | own h2' _ _ =>
                  obtain ⟨ob, z⟩ := h2'.some
                  rw [nD] at z
                  cases z
              rw [upd_ne this]
          · rw [so1] at h; cases h
      · have e : j = es.length := by omega
        subst e
        refine .inl ⟨y1.2 (Nat.le_refl _), hlt, F5, acc5, done5, r2, ⟨g5, hD5, fD5⟩, qd5, go2', ?_⟩
        rw [List.drop_length] at go5
        cases go5
        simpa using tot5
    · have e : i = ds.length := by omega
      subst e
      refine .inl ⟨yy.2 (Nat.le_refl _), ?_⟩
      rw [List.drop_length] at go
      cases go
      rw [List.append_nil] at tot
      subst tot
      exact o1 (.ref Dd) F2 H2 g2 ⟨Dd, rfl, .lst hD qd, fD, nD⟩
section
variable {X : Cx} {W : WX} {elt tg iter tg1 iter1 : Expr} {ifs1 : List Expr} {scope : Scope} {own : List (Str × Nat)} {vs1 : List Nat} {pos : Pos} {items items1 : Nv → Res (List D)} {is is1 : List Nat} {gt gt1 : D → Nv → Res Nv} {t1 : Nv → Res Bool} {p : Ex}
theorem sn_lc2 (hc : X.calm = true) (hN : X.N.Nodup) (hi : SimC X W tg iter items) (ok : BlkOk X.N X.env.scope scope own) (hv0 : ∀ i ∈ vs1, i ∈ own.map (·.2)) (hv : ∀ i ∈ is, i ∈ own.map (·.2)) (hv1 : ∀ i ∈ is1, i ∈ vs1) (ol : OwnLe gt)
    (hg : ∀ (s : Shared) (H : Hp) (C : Addr) (cl : List (Str × Addr)) (fp : List Addr), SimG (X.blk s H scope (compEnvC scope cl C X.env) fp) tg is gt)
    (hi1 : ∀ (s : Shared) (H : Hp) (C : Addr) (cl : List (Str × Addr)) (fp : List Addr), SimI (X.blk s H scope (compEnvC scope cl C X.env) fp) W0 tg1 iter1 items1)
    (hg1 : ∀ (s : Shared) (H : Hp) (C : Addr) (cl : List (Str × Addr)) (fp : List Addr), SimG (X.blk s H scope (compEnvC scope cl C X.env) fp) tg1 is1 gt1)
    (ht1 : ∀ (s : Shared) (H : Hp) (C : Addr) (cl : List (Str × Addr)) (fp : List Addr), SimTs (X.blk s H scope (compEnvC scope cl C X.env) fp) W0 ifs1 t1)
    (he : ∀ (s : Shared) (H : Hp) (C : Addr) (cl : List (Str × Addr)) (fp : List Addr), SimE (X.blk s H scope (compEnvC scope cl C X.env) fp) W0 elt p)
    (hs : ∀ x, foldedSetIterable iter X.env x = pure x := by intro _; rfl) (hs1 : ∀ env x, foldedSetIterable iter1 env x = pure x := by intro _ _; rfl) :
    SimN X W (.ListComp elt [⟨tg, iter, [], 0⟩, ⟨tg1, iter1, ifs1, 0⟩] scope pos) (eLC2 items (own.map (·.2)) gt items1 vs1 gt1 t1 p) :=
  PE.imp (pe_lc2 (g := tGt X.gm is gt) (tt := tYes) (wi1 := tG X.gm W0 (RIF X.gm) items1) (g1 := tGt X.gm is1 gt1) (tt1 := tG X.gm W0 RT t1) (te := tG X.gm W0 (RV X.gm) p) hc hN hi ok hv0 hg (fun _ _ _ _ _ => pts_nil) hi1 hg1 ht1 he hs hs1) fun _ _ _ h => tLc2_of hv hv1 ol h
end
end Sim

/-! Sim7: statements. -/
namespace Sim
open PySem L2

/-- what is newly frozen was not there at the def's entry -/
structure Gb (B F F' : Hp) : Prop where
  ff : Sub F F'
  nw : ∀ a o, F' a = some o → F a = none → B a = none
theorem Gb.refl (B F : Hp) : Gb B F F := ⟨.refl _, fun _ _ a b => by rw [a] at b; cases b⟩
theorem Gb.trans {B F F1 F2 : Hp} (a : Gb B F F1) (b : Gb B F1 F2) : Gb B F F2 :=
  ⟨a.ff.trans b.ff, fun x o h2 h0 => by
    cases h1 : F1 x with
    | some u => exact a.nw x u h1 h0
    | none => exact b.nw x o h2 h1⟩
theorem Grow.gb {B F H F' H' : Hp} (g : Grow F H F' H') (bh : Sub B H) : Gb B F F' := ⟨g.ff, fun a o h1 h2 => bh.noneOf (g.nw a o h1 h2)⟩

def OutS (mg : Gm) (W : WX) (B F : Hp) (r : Res (Fl × Nv)) (E : Ends) : Prop :=
  match r with
  | .ok (.nx, ρ') => ∀ σ' F' H', Gb B F F' → Rel mg B F' H' σ' ρ' → E.nx σ' H'
  | .ok (.bk, ρ') => ∀ σ' F' H', Gb B F F' → Rel mg B F' H' σ' ρ' → E.bk σ' H'
  | .ok (.ct, ρ') => ∀ σ' F' H', Gb B F F' → Rel mg B F' H' σ' ρ' → E.ct σ' H'
  | .ok (.rt d, _) => ∀ v F' H', Gb B F F' → Sub B H' → Sub F' H' → Dt mg F' v d → E.rt v H'
  | .error (.exc c x) => ∀ cls dx σ' F' H', Gb B F F' → Sub B H' → Sub F' H' → ExcAt mg F' H' cls dx c x → W cls dx σ' H'
  | .error .stuck => False
def tS (mg : Gm) (W : WX) (m : Sx) : TS := fun E σ H => ∃ B F ρ, Rel mg B F H σ ρ ∧ OutS mg W B F (m ρ) E
def SimS (X : Cx) (W : WX) (st : Stmt) (m : Sx) : Prop := PS X st (tS X.gm W m)
def SimB (X : Cx) (W : WX) (sts : List Stmt) (m : Sx) : Prop := PSs X sts (tS X.gm W m)
theorem OutS.grow {mg : Gm} {W : WX} {B F F1 : Hp} {r : Res (Fl × Nv)} {E : Ends} (g : Gb B F F1) (h : OutS mg W B F r E) : OutS mg W B F1 r E := by
  cases r with
  | ok p =>
    obtain ⟨f, ρ'⟩ := p
    cases f with
    | nx => exact fun σ' F' H' g2 r => h σ' F' H' (g.trans g2) r
    | bk => exact fun σ' F' H' g2 r => h σ' F' H' (g.trans g2) r
    | ct => exact fun σ' F' H' g2 r => h σ' F' H' (g.trans g2) r
    | rt d => exact fun v F' H' g2 a b c => h v F' H' (g.trans g2) a b c
  | error e =>
    cases e with
    | stuck => exact h
    | exc c x => exact fun cls dx σ' F' H' g2 a b q => h cls dx σ' F' H' (g.trans g2) a b q
/-- an expression ahead of the rest of a statement -/
theorem tS_bind {α β : Type} {mg : Gm} {W : WX} {R : Hp → Hp → Hp → α → β → Prop} {p : Nv → Res β} {f : β → Nv → Res (Fl × Nv)} {B F H : Hp} {σ : St} {ρ : Nv} {E : Ends} {Z : α → Hp → Prop} (rl : Rel mg B F H σ ρ) (h : OutS mg W B F (p ρ >>= fun d => f d ρ) E)
    (st : ∀ d v F1 H1, p ρ = .ok d → Grow F H F1 H1 → Rel mg B F1 H1 σ ρ → R H F1 H1 v d → OutS mg W B F1 (f d ρ) E → Z v H1) : tG mg W R p σ H Z := by
  refine ⟨B, F, ρ, rl, ?_⟩
  cases z : p ρ with
  | ok d =>
    rw [z] at h
    exact fun v F1 H1 g r => st d v F1 H1 z g (rl.grow g) r (OutS.grow (g.gb rl.bh) h)
  | error e =>
    rw [z] at h
    cases e with
    | stuck => exact h
    | exc c x => exact fun cls dx F1 H1 g q => h cls dx σ F1 H1 (g.gb rl.bh) (rl.bh.trans g.hh) g.fh q

section
variable {X : Cx} {W : WX} {st : Stmt} {sts body orelse : List Stmt} {a b c e tg iter : Expr} {es : List Expr} {p q r : Ex} {m m2 : Sx} {t : Nv → Res Bool} {pos pp p1 p2 : Pos}
theorem PS.imp {t t' : TS} (h : PS X st t) (q : ∀ D σ H, t' D σ H → t D σ H) : PS X st t' := ⟨fun pins s σ H D I z => h.run pins s σ H D I (q D σ H z)⟩
theorem PSs.imp {t t' : TS} (h : PSs X sts t) (q : ∀ D σ H, t' D σ H → t D σ H) : PSs X sts t' := ⟨fun pins s σ H D I z => h.run pins s σ H D I (q D σ H z)⟩

/-! ### blocks -/
def sNil : Sx := fun ρ => .ok (.nx, ρ)
def thenS (m : Sx) : Fl × Nv → Res (Fl × Nv)
  | (.nx, ρ) => m ρ
  | r => .ok r
def sSeq (m m2 : Sx) : Sx := fun ρ => do
  let r ← m ρ
  thenS m2 r
theorem sb_nil : SimB X W [] sNil := PSs.imp pss_nil fun E σ H ⟨B, F, ρ, rl, o⟩ => o σ F H (.refl _ _) rl
theorem sb_one (h : SimS X W st m) : SimB X W [st] m := pss_one h
theorem seqS {E : Ends} {σ : St} {H : Hp} (h : tS X.gm W (sSeq m m2) E σ H) : tSeq (tS X.gm W m) (tS X.gm W m2) E σ H := by
  obtain ⟨B, F, ρ, rl, o⟩ := h
  refine ⟨B, F, ρ, rl, ?_⟩
  have o : OutS X.gm W B F (m ρ >>= fun r => thenS m2 r) E := o
  cases z : m ρ with
  | ok pr =>
    rw [z] at o
    obtain ⟨f, ρ'⟩ := pr
    cases f with
    | nx => exact fun σ' F' H' g r => ⟨B, F', ρ', r, OutS.grow g o⟩
    | bk => exact o
    | ct => exact o
    | rt d => exact o
  | error er =>
    rw [z] at o
    cases er with
    | stuck => exact o
    | exc c x => exact o
theorem sb_cons (h : SimS X W st m) (k : SimB X W sts m2) : SimB X W (st :: sts) (sSeq m m2) := PSs.imp (pss_cons h k) fun _ _ _ h => seqS h
/-- slots are forgotten; own lists are frozen: ahead of a statement -/
def freeze1 (ρ : Nv) (i : Nat) : Nv := match ρ[i]? with
  | some (some (.own d)) => ρ.set i (some (.val d))
  | _ => ρ
def sFrz (is : List Nat) (m : Sx) : Sx := fun ρ => m (is.foldl freeze1 ρ)
def sKill (is : List Nat) (m : Sx) : Sx := fun ρ => m (wipeN ρ is)
theorem Rel.freeze1 {mg : Gm} {B F H : Hp} {σ : St} {ρ : Nv} (r : Rel mg B F H σ ρ) (i : Nat) : ∃ F', Gb B F F' ∧ Rel mg B F' H σ (freeze1 ρ i) := by
  unfold Sim.freeze1
  split
  · rename_i d e
    obtain ⟨v, h1, h2⟩ := r.sl i _ e
    cases h2 with
    | own h2 hf hb =>
      rename_i a
      obtain ⟨o, ho⟩ := h2.some
      have hs : Sub F (upd F a o) := .new hf
      have fh' : Sub (upd F a o) H := fun b u e => by
        by_cases hb : b = a
        · subst hb; rw [upd_same] at e; cases e; exact ho
        · rw [upd_ne hb] at e; exact r.fh b u e
      have dd : Dt mg (upd F a o) (.ref a) d := OwnAt.dt (h2.mono hs (by rw [upd_same, ho]))
      have hl : i < ρ.length := (List.getElem?_eq_some_iff.mp e).1
      refine ⟨upd F a o, ⟨hs, fun b u e1 e2 => ?_⟩, by simp [r.len], r.bh, fh', fun j s e1 => ?_, fun j k x y c hjk h3 h4 h5 => ?_⟩
      · by_cases hba : b = a
        · subst hba; exact hb
        · rw [upd_ne hba, e2] at e1; cases e1
      · by_cases hj : i = j
        · subst hj
          rw [List.getElem?_set_self hl] at e1
          cases e1
          exact ⟨_, h1, .val dd⟩
        · rw [List.getElem?_set_ne hj] at e1
          obtain ⟨w, h3, h4⟩ := r.sl j s e1
          refine ⟨w, h3, ?_⟩
          cases h4 with
          | val h4 => exact .val (h4.mono hs)
          | own h4 f4 b4 =>
            rename_i a' d'
            have ne : a' ≠ a := fun z => by
              subst z
              exact r.ap i j d d' a' hj e e1 h1 h3
            exact .own (h4.mono hs rfl) (by rw [upd_ne ne]; exact f4) b4
      · have hj : i ≠ j := by
          rintro rfl
          rw [List.getElem?_set_self hl] at h3; simp at h3
        have hk : i ≠ k := by
          rintro rfl
          rw [List.getElem?_set_self hl] at h4; simp at h4
        rw [List.getElem?_set_ne hj] at h3
        rw [List.getElem?_set_ne hk] at h4
        exact r.ap j k x y c hjk h3 h4 h5
  · exact ⟨F, .refl _ _, r⟩
theorem Rel.freezes {mg : Gm} {B F H : Hp} {σ : St} {ρ : Nv} (r : Rel mg B F H σ ρ) (is : List Nat) : ∃ F', Gb B F F' ∧ Rel mg B F' H σ (is.foldl Sim.freeze1 ρ) := by
  induction is generalizing F ρ with
  | nil => exact ⟨F, .refl _ _, r⟩
  | cons i is ih =>
    obtain ⟨F1, g1, r1⟩ := r.freeze1 i
    obtain ⟨F2, g2, r2⟩ := ih r1
    exact ⟨F2, g1.trans g2, r2⟩
theorem Rel.kill {mg : Gm} {B F H : Hp} {σ : St} {ρ : Nv} (r : Rel mg B F H σ ρ) : ∀ is : List Nat, Rel mg B F H σ (wipeN ρ is)
  | [] => r
  | i :: is => (Rel.kill r is).forget i
theorem ss_frz (is : List Nat) (h : SimS X W st m) : SimS X W st (sFrz is m) := by
  refine PS.imp h fun E σ H ⟨B, F, ρ, rl, o⟩ => ?_
  obtain ⟨F', g, r⟩ := rl.freezes is
  exact ⟨B, F', _, r, OutS.grow g o⟩
theorem ss_kill (is : List Nat) (h : SimS X W st m) : SimS X W st (sKill is m) := PS.imp h fun E σ H ⟨B, F, ρ, rl, o⟩ => ⟨B, F, _, rl.kill is, o⟩
theorem sb_kill (is : List Nat) (h : SimB X W sts m) : SimB X W sts (sKill is m) := PSs.imp h fun E σ H ⟨B, F, ρ, rl, o⟩ => ⟨B, F, _, rl.kill is, o⟩

/-! ### small statements -/
def sExpr (p : Ex) : Sx := fun ρ => do
  let _ ← p ρ
  .ok (.nx, ρ)
theorem ss_expr (h : SimE X W e p) (hs : swapsWith e none pos.line X.env = pure false := by rfl) : SimS X W (.Expr e pos) (sExpr p) := by
  refine PS.imp (ps_expr h hs) fun E σ H ⟨B, F, ρ, rl, o⟩ => ?_
  refine tS_bind (f := fun _ ρ => .ok (.nx, ρ)) rl o fun d v F1 H1 e1 g1 r1 q1 o1 => ?_
  exact o1 σ F1 H1 (.refl _ _) r1
def sRet (p : Ex) : Sx := fun ρ => do
  let d ← p ρ
  .ok (.rt d, ρ)
theorem ss_ret (h : SimE X W e p) : SimS X W (.Return (some e) pos) (sRet p) := by
  refine PS.imp (ps_ret h) fun E σ H ⟨B, F, ρ, rl, o⟩ => ?_
  refine tS_bind (f := fun d ρ => .ok (.rt d, ρ)) rl o fun d v F1 H1 e1 g1 r1 q1 o1 => ?_
  exact o1 v F1 H1 (.refl _ _) r1.bh r1.fh q1
def sPass : Sx := fun ρ => .ok (.nx, ρ)
theorem ss_pass : SimS X W (.Pass pos) sPass := PS.imp ps_pass fun E σ H ⟨B, F, ρ, rl, o⟩ => o σ F H (.refl _ _) rl
def sCont : Sx := fun ρ => .ok (.ct, ρ)
theorem ss_cont : SimS X W (.Continue pos) sCont := PS.imp ps_continue fun E σ H ⟨B, F, ρ, rl, o⟩ => o σ F H (.refl _ _) rl
def sBrk : Sx := fun ρ => .ok (.bk, ρ)
theorem ss_brk : SimS X W (.Break pos) sBrk := PS.imp ps_break fun E σ H ⟨B, F, ρ, rl, o⟩ => o σ F H (.refl _ _) rl
def sIf (t : Nv → Res Bool) (m m2 : Sx) : Sx := fun ρ => do
  let b ← t ρ
  if b = true then m ρ else m2 ρ
theorem ss_if (hc : SimT X W c t) (ha : SimB X W body m) (hb : SimB X W orelse m2) : SimS X W (.If c body orelse pos) (sIf t m m2) := by
  refine PS.imp (ps_if hc ha hb) fun E σ H ⟨B, F, ρ, rl, o⟩ => ?_
  refine tS_bind (f := fun b ρ => if b = true then m ρ else m2 ρ) rl o fun b v F1 H1 e1 g1 r1 q1 o1 => ?_
  cases q1
  cases b with
  | true => rw [if_pos rfl] at o1 ⊢; exact ⟨B, F1, ρ, r1, o1⟩
  | false => rw [if_neg (by decide)] at o1 ⊢; exact ⟨B, F1, ρ, r1, o1⟩
def sSet (i : Nat) (p : Ex) : Sx := fun ρ => do
  let d ← p ρ
  .ok (.nx, ρ.set i (some (.val d)))
theorem ss_set (i : Nat) {x : Str} (hN : X.N.Nodup) (h : SimE X W e p) (hi : X.N[i]? = some x := by rfl) (hx : Loc X.env.scope x := by first | exact Or.inl rfl | exact Or.inr rfl)
    (hs : swapsWith e (some (.Name x p1)) pos.line X.env = pure false := by rfl) (hf : X.fn x = true ∨ X.env.scope.names.lookup x = some .local := by first | exact .inl rfl | exact .inr rfl) : SimS X W (.Assign [.Name x p1] e pos) (sSet i p) := by
  refine PS.imp (ps_set hN hi hx h hs hf) fun E σ H ⟨B, F, ρ, rl, o⟩ => ?_
  refine tS_bind (f := fun d ρ => .ok (.nx, ρ.set i (some (.val d)))) rl o fun d v F1 H1 e1 g1 r1 q1 o1 => ?_
  exact o1 _ F1 H1 (.refl _ _) (r1.set q1 i)
def sSetN (i : Nat) (p : Nv → Res Sl) : Sx := fun ρ => do
  let s ← p ρ
  .ok (.nx, ρ.set i (some s))
theorem Rel.setSl {mg : Gm} {B F H F1 H1 : Hp} {σ : St} {ρ : Nv} (rl : Rel mg B F H σ ρ) (g : Grow F H F1 H1) {v : V} {s : Sl} (q : RS mg H F1 H1 v s) (i : Nat) : Rel mg B F1 H1 (σ.set i (some v)) (ρ.set i (some s)) := by
  have r1 := rl.grow g
  cases s with
  | val d => exact r1.set q i
  | own d =>
    obtain ⟨a, rfl, h1, h2, h3⟩ := q
    refine r1.setOwn h1 h2 (rl.bh.noneOf h3) (fun j x e1 e2 => ?_) i
    obtain ⟨w, h4, h5⟩ := rl.sl j _ e1
    rw [e2] at h4
    cases h4
    cases h5 with
    | own h5 _ _ =>
      obtain ⟨ob, z⟩ := h5.some
      rw [h3] at z
      cases z
theorem ss_setN (i : Nat) {x : Str} {p : Nv → Res Sl} (hN : X.N.Nodup) (h : SimN X W e p) (hi : X.N[i]? = some x := by rfl) (hx : Loc X.env.scope x := by first | exact Or.inl rfl | exact Or.inr rfl)
    (hs : swapsWith e (some (.Name x p1)) pos.line X.env = pure false := by rfl) (hf : X.fn x = true ∨ X.env.scope.names.lookup x = some .local := by first | exact .inl rfl | exact .inr rfl) : SimS X W (.Assign [.Name x p1] e pos) (sSetN i p) := by
  refine PS.imp (ps_set hN hi hx h hs hf) fun E σ H ⟨B, F, ρ, rl, o⟩ => ?_
  refine tS_bind (f := fun s ρ => .ok (.nx, ρ.set i (some s))) rl o fun s v F1 H1 e1 g1 r1 q1 o1 => ?_
  exact o1 _ F1 H1 (.refl _ _) (rl.setSl g1 q1 i)
/-- name = [..], name a local, on one line -/
theorem ss_setLc (i : Nat) {y : Str} {elt tg iter : Expr} {ifs : List Expr} {scope : Scope} {own : List (Str × Nat)} {items : Nv → Res (List D)} {is : List Nat} {gt : D → Nv → Res Nv} {t : Nv → Res Bool} {p : Ex}
    (hc : X.calm = true) (hN : X.N.Nodup) (hsc : X.env.scope.kind = .function) (hi : SimC X W tg iter items) (ok : BlkOk X.N X.env.scope scope own) (hv : ∀ i ∈ is, i ∈ own.map (·.2))
    (hg : ∀ (s : Shared) (H : Hp) (C : Addr) (cl : List (Str × Addr)) (fp : List Addr), SimG (X.blk s H scope (compEnvC scope cl C X.env) fp) tg is gt)
    (ht : ∀ (s : Shared) (H : Hp) (C : Addr) (cl : List (Str × Addr)) (fp : List Addr), SimTs (X.blk s H scope (compEnvC scope cl C X.env) fp) W0 ifs t)
    (he : ∀ (s : Shared) (H : Hp) (C : Addr) (cl : List (Str × Addr)) (fp : List Addr), SimE (X.blk s H scope (compEnvC scope cl C X.env) fp) W0 elt p)
    (hy : X.N[i]? = some y := by rfl) (hyl : X.env.scope.names.lookup y = some .local := by rfl) (hln : (p2.line == p1.line) = true := by rfl)
    (hno : (scope.names.any fun (n, k) => n == y && (k == .local || k == .cell)) = false := by decide +kernel) (hs : ∀ x, foldedSetIterable iter X.env x = pure x := by intro _; rfl) :
    SimS X W (.Assign [.Name y p2] (.ListComp elt [⟨tg, iter, ifs, 0⟩] scope p1) pos) (sSetN i (eLC items (own.map (·.2)) gt t p)) := by
  refine PS.imp (ps_setLc (g := tGt X.gm is gt) (tt := tG X.gm W0 RT t) (te := tG X.gm W0 (RV X.gm) p) hc hN hy hyl (sw_true hsc hyl hln hno) hi ok hg ht he hs) fun E σ H ⟨B, F, ρ, rl, o⟩ => ?_
  refine tLc_of (W := W) hv ?_
  refine tS_bind (f := fun s ρ => .ok (.nx, ρ.set i (some s))) rl o fun s v F1 H1 e1 g1 r1 q1 o1 => ?_
  exact o1 _ F1 H1 (.refl _ _) (rl.setSl g1 q1 i)
theorem ss_setLc2 (i : Nat) {y : Str} {elt tg iter tg1 iter1 : Expr} {ifs1 : List Expr} {scope : Scope} {own : List (Str × Nat)} {vs1 : List Nat} {items items1 : Nv → Res (List D)} {is is1 : List Nat} {gt gt1 : D → Nv → Res Nv} {t1 : Nv → Res Bool} {p : Ex}
    (hc : X.calm = true) (hN : X.N.Nodup) (hsc : X.env.scope.kind = .function) (hi : SimC X W tg iter items) (ok : BlkOk X.N X.env.scope scope own) (hv0 : ∀ i ∈ vs1, i ∈ own.map (·.2)) (hv : ∀ i ∈ is, i ∈ own.map (·.2)) (hv1 : ∀ i ∈ is1, i ∈ vs1) (ol : OwnLe gt)
    (hg : ∀ (s : Shared) (H : Hp) (C : Addr) (cl : List (Str × Addr)) (fp : List Addr), SimG (X.blk s H scope (compEnvC scope cl C X.env) fp) tg is gt)
    (hi1 : ∀ (s : Shared) (H : Hp) (C : Addr) (cl : List (Str × Addr)) (fp : List Addr), SimI (X.blk s H scope (compEnvC scope cl C X.env) fp) W0 tg1 iter1 items1)
    (hg1 : ∀ (s : Shared) (H : Hp) (C : Addr) (cl : List (Str × Addr)) (fp : List Addr), SimG (X.blk s H scope (compEnvC scope cl C X.env) fp) tg1 is1 gt1)
    (ht1 : ∀ (s : Shared) (H : Hp) (C : Addr) (cl : List (Str × Addr)) (fp : List Addr), SimTs (X.blk s H scope (compEnvC scope cl C X.env) fp) W0 ifs1 t1)
    (he : ∀ (s : Shared) (H : Hp) (C : Addr) (cl : List (Str × Addr)) (fp : List Addr), SimE (X.blk s H scope (compEnvC scope cl C X.env) fp) W0 elt p)
    (hy : X.N[i]? = some y := by rfl) (hyl : X.env.scope.names.lookup y = some .local := by rfl) (hln : (p2.line == p1.line) = true := by rfl)
    (hno : (scope.names.any fun (n, k) => n == y && (k == .local || k == .cell)) = false := by decide +kernel) (hs : ∀ x, foldedSetIterable iter X.env x = pure x := by intro _; rfl) (hs1 : ∀ env x, foldedSetIterable iter1 env x = pure x := by intro _ _; rfl) :
    SimS X W (.Assign [.Name y p2] (.ListComp elt [⟨tg, iter, [], 0⟩, ⟨tg1, iter1, ifs1, 0⟩] scope p1) pos) (sSetN i (eLC2 items (own.map (·.2)) gt items1 vs1 gt1 t1 p)) := by
  refine PS.imp (ps_setLc2 (g := tGt X.gm is gt) (tt := tYes) (wi1 := tG X.gm W0 (RIF X.gm) items1) (g1 := tGt X.gm is1 gt1) (tt1 := tG X.gm W0 RT t1) (te := tG X.gm W0 (RV X.gm) p) hc hN hy hyl (sw_true hsc hyl hln hno) hi ok hv0 hg (fun _ _ _ _ _ => pts_nil) hi1 hg1 ht1 he hs hs1) fun E σ H ⟨B, F, ρ, rl, o⟩ => ?_
  refine tLc2_of (W := W) hv hv1 ol ?_
  refine tS_bind (f := fun s ρ => .ok (.nx, ρ.set i (some s))) rl o fun s v F1 H1 e1 g1 r1 q1 o1 => ?_
  exact o1 _ F1 H1 (.refl _ _) (rl.setSl g1 q1 i)
/-- a target of any form -/
def sAsg (gt : D → Nv → Res Nv) (p : Ex) : Sx := fun ρ => do
  let d ← p ρ
  let ρ' ← noExc (gt d ρ)
  .ok (.nx, ρ')
theorem ss_asg {is : List Nat} {gt : D → Nv → Res Nv} (h : SimE X W e p) (hg : SimG X tg is gt) (hs : swapsWithSole [tg] e pos.line X.env = pure false := by rfl) (hw : swappedStores [tg] e X.env = pure none := by rfl)
    (h1 : (assignEach [tg] X.env).map (·.2) = [assign tg X.env] := by rfl) : SimS X W (.Assign [tg] e pos) (sAsg gt p) := by
  refine PS.imp (ps_asg h hg hs hw h1) fun E σ H ⟨B, F, ρ, rl, o⟩ => ?_
  refine tS_bind (f := fun d ρ => noExc (gt d ρ) >>= fun ρ' => .ok (.nx, ρ')) rl o fun d v F1 H1 e1 g1 r1 q1 o1 => ?_
  refine ⟨B, F1, ρ, d, r1, q1, ?_⟩
  cases z : gt d ρ with
  | ok ρ' =>
    rw [z] at o1
    exact fun σ' r2 _ => o1 σ' F1 H1 (.refl _ _) r2
  | error er => rw [z] at o1; exact o1.elim
/-- a, b = e1, e2 -/
def parM (i j : Nat) (ρ : Nv) : List D → Res (Fl × Nv)
  | [d, e] => .ok (.nx, (ρ.set i (some (.val d))).set j (some (.val e)))
  | _ => stk
def sPar (i j : Nat) (ps : Nv → Res (List D)) : Sx := fun ρ => do
  let ds ← ps ρ
  parM i j ρ ds
theorem ss_par (i j : Nat) {x y : Str} {ps : Nv → Res (List D)} {kt k2 : Nat} {px py pt pt2 : Pos} (hc : X.calm = true) (hN : X.N.Nodup) (ha : SimA X W [a, b] ps) (hij : i ≠ j := by decide) (hi : X.N[i]? = some x := by rfl) (hj : X.N[j]? = some y := by rfl)
    (hx : X.env.scope.names.lookup x = some .local := by rfl) (hy : X.env.scope.names.lookup y = some .local := by rfl) (hw : swappedStores [.Tuple [.Name x px, .Name y py] kt pt] (.Tuple [a, b] k2 pt2) X.env = pure (some [x, y]) := by rfl)
    (hs : swapsWithSole [.Tuple [.Name x px, .Name y py] kt pt] (.Tuple [a, b] k2 pt2) pos.line X.env = pure false := by rfl) :
    SimS X W (.Assign [.Tuple [.Name x px, .Name y py] kt pt] (.Tuple [a, b] k2 pt2) pos) (sPar i j ps) := by
  refine PS.imp (ps_par hc hN hi hj hij hx hy ha hw hs) fun E σ H ⟨B, F, ρ, rl, o⟩ => ?_
  refine tS_bind (f := fun ds ρ => parM i j ρ ds) rl o fun ds vs F1 H1 e1 g1 r1 q1 o1 => ?_
  have q1 : Dts X.gm F1 vs ds := q1
  match ds, q1, o1 with
  | [d, e], .cons h1 (.cons h2 .nil), o1 => exact ⟨_, _, rfl, o1 _ F1 H1 (.refl _ _) ((r1.set h1 i).set h2 j)⟩
  | [], _, o1 => exact o1.elim
  | [_], _, o1 => exact o1.elim
  | _ :: _ :: _ :: _, _, o1 => exact o1.elim
/-- x += e, ints -/
def augM : D → D → Res D
  | .int a, .int b => .ok (.int (a + b))
  | _, _ => stk
def sAug (i : Nat) (p : Ex) : Sx := fun ρ => do
  let d ← rd i ρ
  let e ← p ρ
  let z ← augM d e
  .ok (.nx, ρ.set i (some (.val z)))
theorem ss_aug (i : Nat) {x : Str} (hN : X.N.Nodup) (h : SimE X W e p) (hi : X.N[i]? = some x := by rfl) (hx : Loc X.env.scope x := by first | exact Or.inl rfl | exact Or.inr rfl)
    (hf : X.fn x = true ∨ X.env.scope.names.lookup x = some .local := by first | exact .inl rfl | exact .inr rfl) : SimS X W (.AugAssign (.Name x p1) .Add e pos) (sAug i p) := by
  refine PS.imp (ps_aug hN hi hx h ip_add hf) fun E σ H ⟨B, F, ρ, rl, o⟩ => ?_
  have o : OutS X.gm W B F (rd i ρ >>= fun d => p ρ >>= fun e => augM d e >>= fun z => .ok (.nx, ρ.set i (some (.val z)))) E := o
  unfold rd at o
  split at o
  · rename_i d ed
    obtain ⟨v, h1, h2⟩ := rl.sl i _ ed
    cases h2 with
    | val h2 =>
      refine ⟨v, h1, ?_⟩
      have o : OutS X.gm W B F (p ρ >>= fun e => augM d e >>= fun z => .ok (.nx, ρ.set i (some (.val z)))) E := o
      refine tS_bind (f := fun e ρ => augM d e >>= fun z => .ok (.nx, ρ.set i (some (.val z)))) rl o fun e u F1 H1 e1 g1 r1 q1 o1 => ?_
      cases d with
      | int a =>
        cases e with
        | int b =>
          cases h2
          cases q1
          exact ⟨a, b, rfl, rfl, o1 _ F1 H1 (.refl _ _) (r1.set (.int _) i)⟩
        | _ => exact o1.elim
      | _ => exact o1.elim
  · exact o.elim
end
end Sim

/-! Sim8: loops, stores. -/
namespace Sim
open PySem L2

section
variable {X : Cx} {W : WX} {st : Stmt} {sts body orelse : List Stmt} {a b c e tg iter : Expr} {es : List Expr} {p q r : Ex} {m m2 : Sx} {t : Nv → Res Bool} {pos pp p1 p2 : Pos}

/-! ### for -/
def forK (kill : List Nat) (next : Nv → Res (Fl × Nv)) : Fl × Nv → Res (Fl × Nv)
  | (.nx, ρ) => next (wipeN ρ kill)
  | (.ct, ρ) => next (wipeN ρ kill)
  | (.bk, ρ) => .ok (.nx, wipeN ρ kill)
  | (.rt d, ρ) => .ok (.rt d, ρ)
def forGo (gt : D → Nv → Res Nv) (kill : List Nat) (m : Sx) : List D → Sx
  | [], ρ => .ok (.nx, ρ)
  | d :: ds, ρ => do
    let ρ1 ← noExc (gt d ρ)
    let r ← m ρ1
    forK kill (forGo gt kill m ds) r
def sFor (items : Nv → Res (List D)) (gt : D → Nv → Res Nv) (kill : List Nat) (m : Sx) : Sx := fun ρ => do
  let ds ← items ρ
  forGo gt kill m ds (wipeN ρ kill)
theorem ss_for {items : Nv → Res (List D)} {is : List Nat} {gt : D → Nv → Res Nv} (kill : List Nat) (hp : PassesOwn (model X.prog X.w) X.A X.env X.xe) (hc : X.calm = true) (hi : SimI X W tg iter items) (hg : SimG X tg is gt) (hb : SimB X W body m)
    (hs : ∀ x, foldedSetIterable iter X.env x = pure x := by intro _; rfl) : SimS X W (.For tg iter body [] pos) (sFor items gt kill m) := by
  refine PS.imp (ps_for hp hc hi hg hb hs) fun E σ H ⟨B, F, ρ, rl, o⟩ => ?_
  refine tS_bind (f := fun ds ρ => forGo gt kill m ds (wipeN ρ kill)) rl o fun ds J F1 H1 e1 g1 r1 q1 o1 => ?_
  have yl : YldF X.gm F1 J ds := q1
  refine ⟨fun i k σ H => k = ds.length - i ∧ i ≤ ds.length ∧ ∃ F2 ρ2, Gb B F1 F2 ∧ Rel X.gm B F2 H σ ρ2 ∧ OutS X.gm W B F2 (forGo gt kill m (ds.drop i) ρ2) E, ⟨ds.length, by simp, Nat.zero_le _, F1, wipeN ρ kill, .refl _ _, r1.kill kill, by simpa using o1⟩, ?_⟩
  rintro i k σ2 H2 ⟨rfl, hi2, F2, ρ2, g2, r2, o2⟩
  have yy := yl F2 H2 g2.ff r2.fh i
  by_cases hlt : i < ds.length
  · have hd : ds[i]? = some ds[i] := List.getElem?_eq_getElem hlt
    obtain ⟨jg, jy⟩ := yy.1 _ hd
    have hdrop : ds.drop i = ds[i] :: ds.drop (i + 1) := List.drop_eq_getElem_cons hlt
    rw [hdrop] at o2
    refine .inr ⟨jg, fun σ' H' => i + 1 ≤ ds.length ∧ ∃ F2 ρ2, Gb B F1 F2 ∧ Rel X.gm B F2 H' σ' ρ2 ∧ OutS X.gm W B F2 (forGo gt kill m (ds.drop (i + 1)) ρ2) E, fun σ' H' ⟨h1, h2⟩ => ⟨ds.length - (i + 1), by omega, rfl, h1, h2⟩, fun x H3 y => ?_⟩
    obtain ⟨F3, g3, dx⟩ := jy x H3 y
    have g23 := g2.trans (g3.gb r2.bh)
    refine ⟨B, F3, ρ2, ds[i], r2.grow g3, dx, ?_⟩
    have o2 : OutS X.gm W B F3 (noExc (gt ds[i] ρ2) >>= fun ρ1 => m ρ1 >>= fun r => forK kill (forGo gt kill m (ds.drop (i + 1))) r) E := OutS.grow (g3.gb r2.bh) o2
    cases zg : gt ds[i] ρ2 with
    | error er => rw [zg] at o2; exact o2.elim
    | ok ρ3 =>
      rw [zg] at o2
      have o2 : OutS X.gm W B F3 (m ρ3 >>= fun r => forK kill (forGo gt kill m (ds.drop (i + 1))) r) E := o2
      refine fun σ4 r4 _ => ⟨B, F3, ρ3, r4, ?_⟩
      cases zm : m ρ3 with
      | error er =>
        rw [zm] at o2
        cases er with
        | stuck => exact o2
        | exc c x => exact o2
      | ok pr =>
        rw [zm] at o2
        obtain ⟨f, ρ5⟩ := pr
        cases f with
        | nx => exact fun σ' F' H' g r => ⟨hlt, F', wipeN ρ5 kill, g23.trans g, r.kill kill, OutS.grow g o2⟩
        | ct => exact fun σ' F' H' g r => ⟨hlt, F', wipeN ρ5 kill, g23.trans g, r.kill kill, OutS.grow g o2⟩
        | bk => exact fun σ' F' H' g r => o2 σ' F' H' g (r.kill kill)
        | rt d => exact o2
  · have e : i = ds.length := by omega
    subst e
    rw [List.drop_length] at o2
    exact .inl ⟨yy.2 (Nat.le_refl _), o2 σ2 F2 H2 (.refl _ _) r2⟩

/-! ### while -/
def whGo (t : Nv → Res Bool) (kill : List Nat) (m : Sx) : Nat → Sx
  | 0, _ => stk
  | n + 1, ρ => do
    let b ← t ρ
    if b = true then do
      let r ← m ρ
      forK kill (whGo t kill m n) r
    else .ok (.nx, ρ)
def fuel : Nat := 100000
def sWhile (t : Nv → Res Bool) (kill : List Nat) (m : Sx) : Sx := fun ρ => whGo t kill m fuel (wipeN ρ kill)
theorem ss_while (kill : List Nat) (hp : PassesOwn (model X.prog X.w) X.A X.env X.xe) (hc : SimT X W c t) (hb : SimB X W body m) : SimS X W (.While c body [] pos) (sWhile t kill m) := by
  refine PS.imp (ps_while hp hc hb) fun E σ H ⟨B, F, ρ, rl, o⟩ => ?_
  refine ⟨fun n σ H => ∃ F2 ρ2, Gb B F F2 ∧ Rel X.gm B F2 H σ ρ2 ∧ OutS X.gm W B F2 (whGo t kill m n ρ2) E, ⟨fuel, F, wipeN ρ kill, .refl _ _, rl.kill kill, o⟩, ?_⟩
  rintro n σ2 H2 ⟨F2, ρ2, g2, r2, o2⟩
  cases n with
  | zero => exact o2.elim
  | succ n =>
    refine tS_bind (f := fun b ρ2 => if b = true then (m ρ2 >>= fun r => forK kill (whGo t kill m n) r) else .ok (.nx, ρ2)) r2 o2 fun b v F3 H3 e3 g3 r3 q3 o3 => ?_
    cases q3
    have g23 := g2.trans (g3.gb r2.bh)
    cases b with
    | false => rw [if_neg (by decide)] at o3 ⊢; exact o3 σ2 F3 H3 (.refl _ _) r3
    | true =>
      rw [if_pos rfl] at o3 ⊢
      refine ⟨fun σ' H' => ∃ F2 ρ2, Gb B F F2 ∧ Rel X.gm B F2 H' σ' ρ2 ∧ OutS X.gm W B F2 (whGo t kill m n ρ2) E, fun σ' H' h => ⟨n, Nat.lt_succ_self _, h⟩, B, F3, ρ2, r3, ?_⟩
      cases zm : m ρ2 with
      | error er =>
        rw [zm] at o3
        cases er with
        | stuck => exact o3
        | exc c x => exact o3
      | ok pr =>
        rw [zm] at o3
        obtain ⟨f, ρ5⟩ := pr
        cases f with
        | nx => exact fun σ' F' H' g r => ⟨F', wipeN ρ5 kill, g23.trans g, r.kill kill, OutS.grow g o3⟩
        | ct => exact fun σ' F' H' g r => ⟨F', wipeN ρ5 kill, g23.trans g, r.kill kill, OutS.grow g o3⟩
        | bk => exact fun σ' F' H' g r => o3 σ' F' H' g (r.kill kill)
        | rt d => exact o3

/-! ### stores into an own list | dict -/
theorem Rel.write {mg : Gm} {B F H : Hp} {σ : St} {ρ : Nv} {i : Nat} {d0 d1 : D} {a : Addr} {ob : HO} (rl : Rel mg B F H σ ρ) (h : ρ[i]? = some (some (.own d0))) (hσ : σ[i]? = some (some (.ref a))) (hf : F a = none) (hb : B a = none) (new : OwnAt mg F (upd H a ob) a d1) :
    Rel mg B F (upd H a ob) σ (ρ.set i (some (.own d1))) := by
  have hl : i < ρ.length := (List.getElem?_eq_some_iff.mp h).1
  refine ⟨by simp [rl.len], Sub.mut rl.bh hb, Sub.mut rl.fh hf, fun j s e => ?_, fun j k x y c hjk h1 h2 h3 => ?_⟩
  · by_cases hj : i = j
    · subst hj
      rw [List.getElem?_set_self hl] at e
      cases e
      exact ⟨_, hσ, .own new hf hb⟩
    · rw [List.getElem?_set_ne hj] at e
      obtain ⟨w, h1, h2⟩ := rl.sl j s e
      refine ⟨w, h1, ?_⟩
      cases h2 with
      | val h2 => exact .val h2
      | own h2 f2 b2 =>
        rename_i a' d'
        have ne : a' ≠ a := fun z => by
          subst z
          exact rl.ap i j d0 d' a' hj h e hσ h1
        exact .own (h2.mono (.refl _) (upd_ne ne)) f2 b2
  · have key : ∀ (j : Nat) (x : D), (ρ.set i (some (.own d1)))[j]? = some (some (.own x)) → ∃ x', ρ[j]? = some (some (.own x')) := fun j x e => by
      by_cases hj : i = j
      · subst hj; exact ⟨_, h⟩
      · rw [List.getElem?_set_ne hj] at e; exact ⟨_, e⟩
    obtain ⟨x', e1⟩ := key j x h1
    obtain ⟨y', e2⟩ := key k y h2
    exact rl.ap j k x' y' c hjk e1 e2 h3
theorem own_at {mg : Gm} {B F H : Hp} {σ : St} {ρ : Nv} {i : Nat} {d : D} (rl : Rel mg B F H σ ρ) (h : ρ[i]? = some (some (.own d))) : ∃ a, σ[i]? = some (some (.ref a)) ∧ OwnAt mg F H a d ∧ F a = none ∧ B a = none := by
  obtain ⟨v, h1, h2⟩ := rl.sl i _ h
  cases h2 with
  | own h2 hf hb => exact ⟨_, h1, h2, hf, hb⟩
/-- found.append(e) -/
def appM (i : Nat) (ρ : Nv) (d : D) : Res (Fl × Nv) := match ρ[i]? with
  | some (some (.own (.lst ds))) => if ds.length < lim then .ok (.nx, ρ.set i (some (.own (.lst (ds ++ [d]))))) else stk
  | _ => stk
def isOwnL (i : Nat) (ρ : Nv) : Res Unit := match ρ[i]? with
  | some (some (.own (.lst _))) => .ok ()
  | _ => stk
def sApp (i : Nat) (p : Ex) : Sx := fun ρ => do
  let _ ← isOwnL i ρ
  let d ← p ρ
  appM i ρ d
theorem ownL_ok {i : Nat} {ρ : Nv} {B F : Hp} {mg : Gm} {f : Res (Fl × Nv)} {E : Ends} (o : OutS mg W B F (isOwnL i ρ >>= fun _ => f) E) : ∃ ds, ρ[i]? = some (some (.own (.lst ds))) ∧ OutS mg W B F f E := by
  unfold isOwnL at o
  split at o
  · rename_i ds h
    exact ⟨ds, h, o⟩
  · exact o.elim
theorem own_lst {mg : Gm} {F H : Hp} {a : Addr} {ds : List D} (h : OwnAt mg F H a (.lst ds)) : ∃ vs, H a = some (.lst vs) ∧ Dts mg F vs ds := by
  cases h with
  | lst h q => exact ⟨_, h, q⟩
theorem ss_app (i : Nat) {x : Str} {apos : Pos} (h : SimE X W e p) (hN : X.N[i]? = some x := by rfl) (hv : Vis X.env.scope x := by first | exact Or.inl rfl | exact Or.inr (Or.inl rfl) | exact Or.inr (Or.inr rfl))
    (hd : (x == ("__debug__" : Str)) = false := by decide) (hcd : (x == ("__classdict__" : Str)) = false := by decide) (hs : swapsWith (.Call (.Attribute (.Name x p1) "append" apos) [e] [] p2) none pos.line X.env = pure false := by rfl)
    (hbase : attributeBase (.Name x p1) "append" X.env (eval (.Name x p1) X.env) = eval (.Name x p1) X.env := by rfl)
    (hfew : ((backTo p2 (starEach [e] X.env)).all (fun x => !x.1) && (backToKw p2 (keywordEach [] X.env)).all (fun x => x.1.isSome) && decide ([e].length + ([] : List Keyword).length + (if ([] : List Keyword).isEmpty then 0 else 1) < 30)) = true := by rfl)
    (hline : (apos.endLine == p2.line) = true := by rfl) (hse : starEach [e] X.env = (false, eval e X.env) :: starEach [] X.env := by rfl) (hplain : (backTo p2 (starEach [] X.env)).any (·.1) = false := by rfl) :
    SimS X W (.Expr (.Call (.Attribute (.Name x p1) "append" apos) [e] [] p2) pos) (sApp i p) := by
  refine PS.imp (ps_expr (pe_bm PySem.F.plainAttrs_list PySem.F.slot_list_append PySem.F.type_list_append mt_append (pe_var (i := i) hN hv hd hcd) (pa_cons h pa_nil hse) hbase hfew hline hse hplain) hs) fun E σ H ⟨B, F, ρ, rl, o⟩ => ?_
  obtain ⟨ds, hi, o⟩ := ownL_ok (W := W) o
  obtain ⟨a, h1, h2, hf, hb⟩ := own_at rl hi
  obtain ⟨vs, hH, _⟩ := own_lst h2
  refine ⟨_, h1, .inl ⟨rfl, vs, SqL.of hH⟩, ?_⟩
  refine tS_bind (f := fun d ρ => appM i ρ d) rl o fun d v F1 H1 e1 g1 r1 q1 o1 => ?_
  unfold appM at o1
  rw [hi] at o1
  simp only at o1
  split at o1
  · rename_i hz
    obtain ⟨a', h1', h2', hf', hb'⟩ := own_at r1 hi
    rw [h1] at h1'
    cases h1'
    obtain ⟨vs', hH', q'⟩ := own_lst h2'
    refine ⟨a, vs', v, rfl, rfl, hH', by rw [q'.length, lim_eq]; exact hz, ?_⟩
    exact o1 σ F1 _ (.refl _ _) (r1.write hi h1 hf' hb' (.lst upd_same (q'.append (.cons q1 .nil))))
  · exact o1.elim
/-- waiting.extend(e) -/
def extM (i : Nat) (ρ : Nv) (d : D) : Res (Fl × Nv) := match ρ[i]?, d with
  | some (some (.own (.lst ds))), .lst es => if ds.length + es.length ≤ lim then .ok (.nx, ρ.set i (some (.own (.lst (ds ++ es))))) else stk
  | _, _ => stk
def sExt (i : Nat) (p : Ex) : Sx := fun ρ => do
  let _ ← isOwnL i ρ
  let d ← p ρ
  extM i ρ d
theorem ss_ext (i : Nat) {x : Str} {apos : Pos} (h : SimE X W e p) (hN : X.N[i]? = some x := by rfl) (hv : Vis X.env.scope x := by first | exact Or.inl rfl | exact Or.inr (Or.inl rfl) | exact Or.inr (Or.inr rfl))
    (hd : (x == ("__debug__" : Str)) = false := by decide) (hcd : (x == ("__classdict__" : Str)) = false := by decide) (hs : swapsWith (.Call (.Attribute (.Name x p1) "extend" apos) [e] [] p2) none pos.line X.env = pure false := by rfl)
    (hbase : attributeBase (.Name x p1) "extend" X.env (eval (.Name x p1) X.env) = eval (.Name x p1) X.env := by rfl)
    (hfew : ((backTo p2 (starEach [e] X.env)).all (fun x => !x.1) && (backToKw p2 (keywordEach [] X.env)).all (fun x => x.1.isSome) && decide ([e].length + ([] : List Keyword).length + (if ([] : List Keyword).isEmpty then 0 else 1) < 30)) = true := by rfl)
    (hline : (apos.endLine == p2.line) = true := by rfl) (hse : starEach [e] X.env = (false, eval e X.env) :: starEach [] X.env := by rfl) (hplain : (backTo p2 (starEach [] X.env)).any (·.1) = false := by rfl) :
    SimS X W (.Expr (.Call (.Attribute (.Name x p1) "extend" apos) [e] [] p2) pos) (sExt i p) := by
  refine PS.imp (ps_expr (pe_bm PySem.F.plainAttrs_list PySem.F.slot_list_extend PySem.F.type_list_extend mt_extend (pe_var (i := i) hN hv hd hcd) (pa_cons h pa_nil hse) hbase hfew hline hse hplain) hs) fun E σ H ⟨B, F, ρ, rl, o⟩ => ?_
  obtain ⟨ds, hi, o⟩ := ownL_ok (W := W) o
  obtain ⟨a, h1, h2, hf, hb⟩ := own_at rl hi
  obtain ⟨vs, hH, _⟩ := own_lst h2
  refine ⟨_, h1, .inl ⟨rfl, vs, SqL.of hH⟩, ?_⟩
  refine tS_bind (f := fun d ρ => extM i ρ d) rl o fun d v F1 H1 e1 g1 r1 q1 o1 => ?_
  unfold extM at o1
  rw [hi] at o1
  cases d with
  | lst es =>
    simp only at o1
    split at o1
    · rename_i hz
      obtain ⟨a', h1', h2', hf', hb'⟩ := own_at r1 hi
      rw [h1] at h1'
      cases h1'
      obtain ⟨vs', hH', q'⟩ := own_lst h2'
      cases q1 with
      | lst hq q2 =>
        refine ⟨a, _, vs', _, rfl, rfl, hH', r1.fh _ _ hq, by rw [q'.length, q2.length, lim_eq]; exact hz, ?_⟩
        exact o1 σ F1 _ (.refl _ _) (r1.write hi h1 hf' hb' (.lst upd_same (q'.append q2)))
    · exact o1.elim
  | _ => exact o1.elim
/-- x = y.pop() -/
def popM (j i : Nat) (ρ : Nv) : Res (Fl × Nv) := match ρ[i]? with
  | some (some (.own (.lst ds))) => match ds[ds.length - 1]? with
    | some d => .ok (.nx, (ρ.set i (some (.own (.lst ds.dropLast)))).set j (some (.val d)))
    | none => stk
  | _ => stk
def sPop (j i : Nat) : Sx := fun ρ => popM j i ρ
theorem ss_pop (j i : Nat) {x y : Str} {apos py : Pos} (hNd : X.N.Nodup) (hij : i ≠ j := by decide) (hNj : X.N[j]? = some y := by rfl) (hyl : Loc X.env.scope y := by first | exact Or.inl rfl | exact Or.inr rfl) (hN : X.N[i]? = some x := by rfl) (hv : Vis X.env.scope x := by first | exact Or.inl rfl | exact Or.inr (Or.inl rfl) | exact Or.inr (Or.inr rfl))
    (hd : (x == ("__debug__" : Str)) = false := by decide) (hcd : (x == ("__classdict__" : Str)) = false := by decide) (hs : swapsWith (.Call (.Attribute (.Name x p1) "pop" apos) [] [] p2) (some (.Name y py)) pos.line X.env = pure false := by rfl)
    (hbase : attributeBase (.Name x p1) "pop" X.env (eval (.Name x p1) X.env) = eval (.Name x p1) X.env := by rfl) (hline : (apos.endLine == p2.line) = true := by rfl)
    (hf : X.fn y = true ∨ X.env.scope.names.lookup y = some .local := by first | exact .inl rfl | exact .inr rfl) :
    SimS X W (.Assign [.Name y py] (.Call (.Attribute (.Name x p1) "pop" apos) [] [] p2) pos) (sPop j i) := by
  refine PS.imp (ps_set (i := j) hNd hNj hyl (pe_bm0 PySem.F.plainAttrs_list PySem.F.slot_list_pop PySem.F.type_list_pop mt_pop (pe_var (i := i) hN hv hd hcd) hbase hline) hs hf) fun E σ H ⟨B, F, ρ, rl, o⟩ => ?_
  unfold sPop popM at o
  split at o
  · rename_i ds hi
    obtain ⟨a, h1, h2, hf, hb⟩ := own_at rl hi
    obtain ⟨vs, hH, q⟩ := own_lst h2
    split at o
    · rename_i d hd'
      obtain ⟨v, hv1, hv2⟩ := q.get hd'
      refine ⟨_, h1, .inl ⟨rfl, vs, SqL.of hH⟩, a, vs, v, rfl, rfl, hH, by rw [q.length]; exact hv1, ?_⟩
      exact o _ F _ (.refl _ _) ((rl.write hi h1 hf hb (.lst upd_same q.dropLast)).set hv2 j)
    · exact o.elim
  · exact o.elim
/-- found.append(left.pop(e)) -/
def appPopM (i j : Nat) (ρ : Nv) (d : D) : Res (Fl × Nv) := match ρ[i]?, ρ[j]?, d with
  | some (some (.own (.lst ds))), some (some (.own (.lst ls))), .int k => match ixN ls.length k with
    | some n => match ls[n]? with
      | some x => if ds.length < lim ∧ smL 0 k = true then .ok (.nx, (ρ.set j (some (.own (.lst (ls.eraseIdx n))))).set i (some (.own (.lst (ds ++ [x]))))) else stk
      | none => stk
    | none => stk
  | _, _, _ => stk
def sAppPop (i j : Nat) (p : Ex) : Sx := fun ρ => do
  let _ ← isOwnL i ρ
  let _ ← isOwnL j ρ
  let d ← p ρ
  appPopM i j ρ d
theorem ss_appPop (i j : Nat) {x y : Str} {apos bpos p3 p4 : Pos} (h : SimE X W e p) (hij : i ≠ j := by decide) (hN : X.N[i]? = some x := by rfl) (hv : Vis X.env.scope x := by first | exact Or.inl rfl | exact Or.inr (Or.inl rfl) | exact Or.inr (Or.inr rfl))
    (hNj : X.N[j]? = some y := by rfl) (hvj : Vis X.env.scope y := by first | exact Or.inl rfl | exact Or.inr (Or.inl rfl) | exact Or.inr (Or.inr rfl))
    (hd : (x == ("__debug__" : Str)) = false := by decide) (hcd : (x == ("__classdict__" : Str)) = false := by decide) (hd2 : (y == ("__debug__" : Str)) = false := by decide) (hcd2 : (y == ("__classdict__" : Str)) = false := by decide)
    (hs : swapsWith (.Call (.Attribute (.Name x p1) "append" apos) [.Call (.Attribute (.Name y p3) "pop" bpos) [e] [] p4] [] p2) none pos.line X.env = pure false := by rfl)
    (hbase : attributeBase (.Name x p1) "append" X.env (eval (.Name x p1) X.env) = eval (.Name x p1) X.env := by rfl)
    (hfew : ((backTo p2 (starEach [.Call (.Attribute (.Name y p3) "pop" bpos) [e] [] p4] X.env)).all (fun x => !x.1) && (backToKw p2 (keywordEach [] X.env)).all (fun x => x.1.isSome) && decide ([(.Call (.Attribute (.Name y p3) "pop" bpos) [e] [] p4 : Expr)].length + ([] : List Keyword).length + (if ([] : List Keyword).isEmpty then 0 else 1) < 30)) = true := by rfl)
    (hline : (apos.endLine == p2.line) = true := by rfl) (hse : starEach [.Call (.Attribute (.Name y p3) "pop" bpos) [e] [] p4] X.env = (false, eval (.Call (.Attribute (.Name y p3) "pop" bpos) [e] [] p4) X.env) :: starEach [] X.env := by rfl) (hplain : (backTo p2 (starEach [] X.env)).any (·.1) = false := by rfl)
    (hbase2 : attributeBase (.Name y p3) "pop" X.env (eval (.Name y p3) X.env) = eval (.Name y p3) X.env := by rfl)
    (hfew2 : ((backTo p4 (starEach [e] X.env)).all (fun x => !x.1) && (backToKw p4 (keywordEach [] X.env)).all (fun x => x.1.isSome) && decide ([e].length + ([] : List Keyword).length + (if ([] : List Keyword).isEmpty then 0 else 1) < 30)) = true := by rfl)
    (hline2 : (bpos.endLine == p4.line) = true := by rfl) (hse2 : starEach [e] X.env = (false, eval e X.env) :: starEach [] X.env := by rfl) (hplain2 : (backTo p4 (starEach [] X.env)).any (·.1) = false := by rfl) :
    SimS X W (.Expr (.Call (.Attribute (.Name x p1) "append" apos) [.Call (.Attribute (.Name y p3) "pop" bpos) [e] [] p4] [] p2) pos) (sAppPop i j p) := by
  refine PS.imp (ps_expr (pe_bm PySem.F.plainAttrs_list PySem.F.slot_list_append PySem.F.type_list_append mt_append (pe_var (i := i) hN hv hd hcd)
    (pa_cons (pe_bm PySem.F.plainAttrs_list PySem.F.slot_list_pop PySem.F.type_list_pop mt_popAt (pe_var (i := j) hNj hvj hd2 hcd2) (pa_cons h pa_nil hse2) hbase2 hfew2 hline2 hse2 hplain2) pa_nil hse) hbase hfew hline hse hplain) hs) fun E σ H ⟨B, F, ρ, rl, o⟩ => ?_
  obtain ⟨ds, hi, o⟩ := ownL_ok (W := W) o
  obtain ⟨ls, hj, o⟩ := ownL_ok (W := W) o
  obtain ⟨a, h1, h2, hf, hb⟩ := own_at rl hi
  obtain ⟨vs, hH, _⟩ := own_lst h2
  obtain ⟨a2, k1, k2, kf, kb⟩ := own_at rl hj
  obtain ⟨us, kH, _⟩ := own_lst k2
  refine ⟨_, h1, .inl ⟨rfl, vs, SqL.of hH⟩, _, k1, .inl ⟨rfl, us, SqL.of kH⟩, ?_⟩
  refine tS_bind (f := fun d ρ => appPopM i j ρ d) rl o fun d v F1 H1 e1 g1 r1 q1 o1 => ?_
  unfold appPopM at o1
  rw [hi, hj] at o1
  cases d with
  | int k =>
    simp only at o1
    split at o1
    · rename_i n hn
      split at o1
      · rename_i xx hx
        split at o1
        · rename_i hz
          obtain ⟨a', h1', h2', hf', hb'⟩ := own_at r1 hi
          rw [h1] at h1'
          cases h1'
          obtain ⟨vs', hH', q'⟩ := own_lst h2'
          obtain ⟨a2', k1', k2', kf', kb'⟩ := own_at r1 hj
          rw [k1] at k1'
          cases k1'
          obtain ⟨us', kH', kq'⟩ := own_lst k2'
          cases q1
          obtain ⟨w, w1, w2⟩ := kq'.get hx
          have ne : a ≠ a2 := fun z => by
            subst z
            exact r1.ap i j _ _ a hij hi hj h1 k1
          obtain ⟨z1, _⟩ := ixN_seq hn
          refine ⟨a2, us', k, n, w, rfl, rfl, kH', (smL_ok hz.2).1, (smL_ok hz.2).2.1, by rw [kq'.length]; exact z1, w1, ?_⟩
          refine ⟨a, vs', w, rfl, rfl, by rw [upd_ne ne]; exact hH', by rw [q'.length, lim_eq]; exact hz.1, ?_⟩
          have r2 := r1.write hj k1 kf' kb' (ob := .lst (us'.eraseIdx n)) (.lst upd_same (kq'.eraseIdx n))
          have hi2 : (ρ.set j (some (.own (.lst (ls.eraseIdx n)))))[i]? = some (some (.own (.lst ds))) := by rw [List.getElem?_set_ne (Ne.symm hij)]; exact hi
          exact o1 σ F1 _ (.refl _ _) (r2.write hi2 h1 hf' hb' (.lst upd_same (q'.append (.cons w2 .nil))))
        · exact o1.elim
      · exact o1.elim
    · exact o1.elim
  | _ => exact o1.elim
/-- found[k] = e -/
def putI (kvs : List (Int × D)) (k : Int) (d : D) : List (Int × D) := if (kvs.any fun p => decide (p.1 = k)) = true then kvs.map fun p => if p.1 = k then (p.1, d) else p else kvs ++ [(k, d)]
def putT (kvs : List (List Int × D)) (k : List Int) (d : D) : List (List Int × D) := if (kvs.any fun p => decide (p.1 = k)) = true then kvs.map fun p => if p.1 = k then (p.1, d) else p else kvs ++ [(k, d)]
def setM (i : Nat) (ρ : Nv) (k d : D) : Res (Fl × Nv) := match ρ[i]?, k with
  | some (some (.own (.lst ds))), .int n => match ixN ds.length n with
    | some j => .ok (.nx, ρ.set i (some (.own (.lst (ds.set j d)))))
    | none => stk
  | some (some (.own (.dI kvs))), .int n => if kvs.length < lim then .ok (.nx, ρ.set i (some (.own (.dI (putI kvs n d))))) else stk
  | some (some (.own (.dT kvs))), .tup ks => match keyT ks with
    | some k => if kvs.length < lim then .ok (.nx, ρ.set i (some (.own (.dT (putT kvs k d))))) else stk
    | none => stk
  | _, _ => stk
def isOwn (i : Nat) (ρ : Nv) : Res Unit := match ρ[i]? with
  | some (some (.own _)) => .ok ()
  | _ => stk
def sSetI (i : Nat) (pk pd : Ex) : Sx := fun ρ => do
  let d ← pd ρ
  let _ ← isOwn i ρ
  let k ← pk ρ
  setM i ρ k d
end
end Sim

/-! Sim9: item stores, raise, defs. -/
namespace Sim
open PySem L2

theorem DkI.map {mg : Gm} {F : Hp} {n : Int} {v : V} {d : D} (h : Dt mg F v d) : ∀ {ks : List (Key × V)} {kvs : List (Int × D)}, DkI mg F ks kvs →
    DkI mg F (ks.map fun kv => if kv.1 = Sum.inl n then (kv.1, v) else kv) (kvs.map fun p => if p.1 = n then (p.1, d) else p)
  | _, _, .nil => .nil
  | _, _, .cons (i := i) h1 q => by
    rw [List.map_cons, List.map_cons]
    by_cases e : i = n
    · subst e
      simp only [if_true]
      exact .cons h (DkI.map h q)
    · rw [if_neg (show ¬ (Sum.inl i : Key) = Sum.inl n from fun z => e (Sum.inl.inj z)), if_neg (show ¬ (i, _).1 = n from e)]
      exact .cons h1 (DkI.map h q)
theorem DkI.app {mg : Gm} {F : Hp} : ∀ {ks ks2 : List (Key × V)} {kvs kvs2 : List (Int × D)}, DkI mg F ks kvs → DkI mg F ks2 kvs2 → DkI mg F (ks ++ ks2) (kvs ++ kvs2)
  | _, _, _, _, .nil, q => q
  | _, _, _, _, .cons h r, q => .cons h (DkI.app r q)
theorem DkI.anyK {mg : Gm} {F : Hp} {n : Int} : ∀ {ks : List (Key × V)} {kvs : List (Int × D)}, DkI mg F ks kvs → (ks.any fun kv => decide (kv.1 = Sum.inl n)) = kvs.any fun p => decide (p.1 = n)
  | _, _, .nil => rfl
  | _, _, .cons (i := i) h1 q => by
    rw [List.any_cons, List.any_cons, DkI.anyK q]
    congr 1
    by_cases e : i = n
    · subst e; simp
    · rw [decide_eq_false e, decide_eq_false fun z => e (Sum.inl.inj z)]
theorem DkI.put {mg : Gm} {F : Hp} {n : Int} {v : V} {d : D} (h : Dt mg F v d) {ks : List (Key × V)} {kvs : List (Int × D)} (q : DkI mg F ks kvs) : DkI mg F (putK ks (Sum.inl n) v) (putI kvs n d) := by
  unfold putK putI
  rw [q.anyK]
  split
  · exact q.map h
  · exact q.app (.cons h .nil)
theorem DkT.map {mg : Gm} {F : Hp} {n : List Int} {v : V} {d : D} (h : Dt mg F v d) : ∀ {ks : T3} {kvs : List (List Int × D)}, DkT mg F ks kvs →
    DkT mg F (ks.map fun x => if x.1 = n then (x.1, x.2.1, v) else x) (kvs.map fun p => if p.1 = n then (p.1, d) else p)
  | _, _, .nil => .nil
  | _, _, .cons (k := i) hb hd h1 q => by
    rw [List.map_cons, List.map_cons]
    by_cases e : i = n
    · subst e
      simp only [if_true]
      exact .cons hb hd h (DkT.map h q)
    · rw [if_neg (show ¬ (i, _, _).1 = n from e), if_neg (show ¬ (i, _).1 = n from e)]
      exact .cons hb hd h1 (DkT.map h q)
theorem DkT.app {mg : Gm} {F : Hp} : ∀ {ks ks2 : T3} {kvs kvs2 : List (List Int × D)}, DkT mg F ks kvs → DkT mg F ks2 kvs2 → DkT mg F (ks ++ ks2) (kvs ++ kvs2)
  | _, _, _, _, .nil, q => q
  | _, _, _, _, .cons hb hd h r, q => .cons hb hd h (DkT.app r q)
theorem DkT.anyK {mg : Gm} {F : Hp} {n : List Int} : ∀ {ks : T3} {kvs : List (List Int × D)}, DkT mg F ks kvs → (ks.any fun x => decide (x.1 = n)) = kvs.any fun p => decide (p.1 = n)
  | _, _, .nil => rfl
  | _, _, .cons (k := i) hb hd h1 q => by rw [List.any_cons, List.any_cons, DkT.anyK q]
theorem DkT.put {mg : Gm} {F : Hp} {n : List Int} {b : Addr} {v : V} {d : D} (hb : TupF F b (n.map V.int)) (h : Dt mg F v d) {ks : T3} {kvs : List (List Int × D)} (q : DkT mg F ks kvs) : DkT mg F (putT3 ks n b v) (putT kvs n d) := by
  obtain ⟨o, hb, hd⟩ := hb
  unfold putT3 putT
  rw [q.anyK]
  split
  · exact q.map h
  · exact q.app (.cons hb hd h .nil)

section
variable {X : Cx} {W : WX} {st : Stmt} {sts body orelse : List Stmt} {a b c e k tg iter : Expr} {es : List Expr} {p q r : Ex} {m m2 : Sx} {t : Nv → Res Bool} {pos pp p1 p2 : Pos}
/-- d[t] = v -/
def rSetT (g : Gm) : TSet := fun o i v H Q => ∃ a b xs k, o = V.ref a ∧ i = V.ref b ∧ H a = some (tdO g a xs) ∧ KAll H xs ∧ TupF H b (k.map V.int) ∧ xs.length < sizeLine ∧ Q (upd H a (tdO g a (putT3 xs k b v)))
theorem set_t (hu : X.A.units + 1 < cLine) : PSet X (rSetT X.gm) := by
  intro pins s σ H o i v ov iv u Q I ro ri rv h
  obtain ⟨a, b, xs, k, rfl, rfl, h1, h2, ⟨o2, h3, _⟩, hl, q⟩ := h
  cases ro
  cases ri
  exact td_setItem hu I h1 h2 h3 hl rv fun s' I' => ⟨_, I', q⟩
/-- o[i] = v, a list or a dict -/
def rSetA (g : Gm) : TSet := fun o i v H Q => (rSetL o i v H Q ∨ rSetD o i v H Q) ∨ rSetT g o i v H Q
theorem set_any (hu : X.A.units + 1 < cLine) : PSet X (rSetA X.gm) := by
  intro pins s σ H o i v ov iv u Q I ro ri rv h
  rcases h with (h | h) | h
  · exact set_list pins s σ H o i v ov iv u Q I ro ri rv h
  · exact set_dict hu pins s σ H o i v ov iv u Q I ro ri rv h
  · exact set_t hu pins s σ H o i v ov iv u Q I ro ri rv h
theorem own_ok {i : Nat} {ρ : Nv} {B F : Hp} {mg : Gm} {f : Res (Fl × Nv)} {E : Ends} (o : OutS mg W B F (isOwn i ρ >>= fun _ => f) E) : ∃ d, ρ[i]? = some (some (.own d)) ∧ OutS mg W B F f E := by
  unfold isOwn at o
  split at o
  · rename_i d h
    exact ⟨d, h, o⟩
  · exact o.elim
theorem ss_setI (i : Nat) {x : Str} (hu : X.A.units + 1 < cLine) (h : SimE X W e p) (hk : SimE X W k q) (hN : X.N[i]? = some x := by rfl) (hv : Vis X.env.scope x := by first | exact Or.inl rfl | exact Or.inr (Or.inl rfl) | exact Or.inr (Or.inr rfl))
    (hd : (x == ("__debug__" : Str)) = false := by decide) (hcd : (x == ("__classdict__" : Str)) = false := by decide)
    (ha : ∀ v, assign (.Subscript (.Name x p1) k p2) X.env v = (do
      let ov ← holding [v] (eval (.Name x p1) X.env)
      let iv ← holding [v, ov] (eval k X.env)
      standAt p2
      holding [v, ov, iv] (setItem ov iv v)
      release [v, ov, iv] []) := by intro _; rfl)
    (hs : swapsWithSole [.Subscript (.Name x p1) k p2] e pos.line X.env = pure false := by rfl) (hw : swappedStores [.Subscript (.Name x p1) k p2] e X.env = pure none := by rfl)
    (h1 : (assignEach [.Subscript (.Name x p1) k p2] X.env).map (·.2) = [assign (.Subscript (.Name x p1) k p2) X.env] := by rfl) : SimS X W (.Assign [.Subscript (.Name x p1) k p2] e pos) (sSetI i q p) := by
  refine PS.imp (ps_asg h (pg_sub (pe_var (i := i) hN hv hd hcd) hk (set_any hu) ha) hs hw h1) fun E σ H ⟨B, F, ρ, rl, o⟩ => ?_
  refine tS_bind (f := fun d ρ => isOwn i ρ >>= fun _ => q ρ >>= fun k => setM i ρ k d) rl o fun d v F1 H1 e1 g1 r1 q1 o1 => ?_
  obtain ⟨d0, hi, o1⟩ := own_ok (W := W) o1
  obtain ⟨a, a1, a2, af, ab⟩ := own_at r1 hi
  refine ⟨_, a1, ?_⟩
  refine tS_bind (f := fun k ρ => setM i ρ k d) r1 o1 fun kd kv F2 H2 e2 g2 r2 q2 o2 => ?_
  obtain ⟨a', b1, b2, bf, bb⟩ := own_at r2 hi
  rw [a1] at b1
  cases b1
  have q1' : Dt X.gm F2 v d := Dt.mono g2.ff q1
  unfold setM at o2
  rw [hi] at o2
  cases d0 with
  | lst ds =>
    cases kd with
    | int n =>
      simp only at o2
      split at o2
      · rename_i j hj
        obtain ⟨vs, hH, qq⟩ := own_lst b2
        cases q2
        refine .inl (.inl ⟨a, vs, n, j, rfl, rfl, hH, by rw [qq.length]; exact hj, ?_⟩)
        exact o2 σ F2 _ (.refl _ _) (r2.write hi a1 bf bb (.lst upd_same (qq.set q1' j)))
      · exact o2.elim
    | _ => exact o2.elim
  | dI kvs =>
    cases kd with
    | int n =>
      simp only at o2
      split at o2
      · rename_i hz
        cases b2 with
        | dI hH qq =>
          rename_i ks
          cases q2
          refine .inl (.inr ⟨a, _, rfl, DPut.k (k := Sum.inl n) hH (by rw [qq.length, lim_eq]; exact hz), ?_⟩)
          exact o2 σ F2 _ (.refl _ _) (r2.write hi a1 bf bb (.dI upd_same (qq.put q1')))
      · exact o2.elim
    | _ => exact o2.elim
  | dT kvs =>
    cases kd with
    | tup kk =>
      simp only at o2
      split at o2
      · rename_i kl hkl
        split at o2
        · rename_i hz
          cases b2 with
          | dT hH qq =>
            rename_i ks
            obtain ⟨b, rfl, hb, hbF⟩ := key_at r2.fh (DtO.val q2) hkl
            refine .inr ⟨a, b, ks, kl, rfl, rfl, hH, qq.all r2.fh, hb, by rw [qq.length, lim_eq]; exact hz, ?_⟩
            exact o2 σ F2 _ (.refl _ _) (r2.write hi a1 bf bb (.dT upd_same (qq.put hbF q1')))
        · exact o2.elim
      · exact o2.elim
    | _ => exact o2.elim
  | _ => exact o2.elim

/-! ### methods that read: index, count, get -/
def ix0 (d : D) : List D → Option Nat
  | [] => none
  | z :: r => if eqD z d = true then some 0 else (ix0 d r).map (· + 1)
theorem ix0_ok {d : D} : ∀ {ds : List D} {j : Nat}, ix0 d ds = some j → ∃ z, ds[j]? = some z ∧ eqD z d = true ∧ ∀ (m : Nat) z', m < j → ds[m]? = some z' → eqD z' d = false
  | [], j, h => by cases h
  | z :: r, j, h => by
    unfold ix0 at h
    split at h
    · rename_i e
      cases h
      exact ⟨z, rfl, e, fun m z' hm _ => absurd hm (Nat.not_lt_zero _)⟩
    · rename_i e
      rw [Option.map_eq_some_iff] at h
      obtain ⟨j', h1, rfl⟩ := h
      obtain ⟨z1, a1, a2, a3⟩ := ix0_ok h1
      refine ⟨z1, by simpa using a1, a2, fun m z' hm hz => ?_⟩
      cases m with
      | zero => simp at hz; subst hz; simpa using e
      | succ m => exact a3 m z' (by omega) (by simpa using hz)
theorem toPys_get : ∀ {ds : List D} {j : Nat}, (toPys ds)[j]? = (ds[j]?).map toPy
  | [], j => by simp [toPys]
  | d :: ds, 0 => by simp [toPys]
  | d :: ds, j + 1 => by simpa [toPys] using toPys_get (ds := ds) (j := j)
theorem toPys_map : ∀ ds : List D, toPys ds = ds.map toPy
  | [] => rfl
  | d :: ds => by rw [toPys, List.map_cons, toPys_map ds]
/-- x.index(y), x a tuple, y data -/
def rIndexT (K : PySem.W.Frag) : V → List V → Hp → VK → Prop := fun x xs H Q => ∃ (a : Addr) (y : V) (d : PyData) (ds : List PyData) (j : Nat) (z : PyData), x = V.ref a ∧ xs = [y] ∧ Dp K H (V.ref a) (.tuple ds) ∧ Dp K H y d ∧
  SeqAt.shaped (.tuple ds) = true ∧ SeqAt.shaped d = true ∧ ds[j]? = some z ∧ PyData.eqv z d = true ∧ (∀ (m : Nat) (z' : PyData), m < j → ds[m]? = some z' → PyData.eqv z' d = false) ∧ Q (.int (j : Nat)) H
theorem mt_indexT (hu : X.A.units + 65 < cLine) : MtR X "tuple.index" (rIndexT X.K) := by
  intro pins s σ H x xs v us Q I rx rxs h
  obtain ⟨a, y, d, ds, j, z, rfl, rfl, hl, hy, sl, sd, hz, hzj, hno, q⟩ := h
  cases rx
  cases rxs with
  | cons ry rt =>
    rename_i uy ut
    cases rt
    obtain ⟨bs, r1⟩ := Dp.reads I d y uy hy ry
    have hxs : PyData.canLayAll0 ds = true := by
      have := SeqAt.canLay_of_shaped sl
      simpa [PyData.canLay0] using this
    have hroom : X.A.units + 1 + min (PyData.depthAll ds) d.depth < cLine := PyProof.Rows.room_in_shaped sd hu
    cases hl with
    | tup hs ha =>
      obtain ⟨its, rv, ⟨⟨cls, dd, data, sls⟩, ho, hc, n, hdt⟩, hlen⟩ := I.tuple hs
      simp only at hc hdt
      subst hc hdt
      obtain ⟨as, h4⟩ := Dp.readsAll I ds _ its ha rv
      have hn : its.length = ds.length := SeqAt.ReadsAll.length ds its as h4
      have hmap : its.map (SeqAt.readOf s.heap) = ds := SeqAt.readsAll_map ds its as hxs h4
      obtain ⟨hjd, _⟩ := List.getElem?_eq_some_iff.mp hz
      have hjl : j < its.length := by omega
      have hj : j < its.toArray.size := by simpa using hjl
      have at_ : ∀ (m : Nat) (hm : m < its.toArray.size) (z' : PyData), ds[m]? = some z' → SeqAt.readOf s.heap its.toArray[m] = z' := by
        intro m hm z' hz'
        have hml : m < its.length := by simpa using hm
        rw [← hmap, List.getElem?_map, List.getElem?_eq_getElem hml] at hz'
        have e1 : SeqAt.readOf s.heap its[m] = z' := Option.some.inj (show some (SeqAt.readOf s.heap its[m]) = some z' from hz')
        simpa using e1
      refine call_meets PySem.F.slot_tuple_index ⟨_, ho, rfl⟩ PySem.F.entry_tuple_index (PySem.F.args_tuple_index_2 _ _)
        (TI.tuple_indexAt a its.toArray n dd sls uy (fun u => PyData.eqv (SeqAt.readOf s.heap u) d) j hj ?_ ?_) ⟨ho, SeqAt.items_eqAt (vs := its.toArray) (show ReadsAll s.heap its.toArray.toList ds as from h4) r1 hxs (SeqAt.canLay_of_shaped sd) hroom, ?_⟩
      · show PyData.eqv (SeqAt.readOf s.heap its.toArray[j]) d = true
        rw [at_ j hj z hz]
        exact hzj
      · intro m hm hmj
        have hmd : m < ds.length := by
          have : m < its.length := by simpa using hm
          omega
        have hz' : ds[m]? = some ds[m] := List.getElem?_eq_getElem hmd
        show PyData.eqv (SeqAt.readOf s.heap its.toArray[m]) d = false
        rw [at_ m hm _ hz']
        exact hno m _ hmj hz'
      · exact ⟨.int (j : Nat), H, I.tok _, ⟨_, rfl⟩, q⟩
end
end Sim

/-! SimX: methods of built-in types, star displays, [::-1]. -/
namespace Sim
open PySem L2

/-! ### t[::-1] -/
section
open PySem.Spec PyProof.Rows
theorem adj_rev (n : Nat) : Builtin.Slice.sliceAdjust none none (-1) (n : Int) = ((n : Int) - 1, -1) := by
  unfold Builtin.Slice.sliceAdjust
  simp
theorem plc_rev (n : Nat) : Builtin.Slice.slicePlaces ((n : Int) - 1) (-1) (-1) = n := by
  unfold Builtin.Slice.slicePlaces
  have h1 : ¬ ((-1 : Int) > 0) := by omega
  simp only [h1, if_false]
  split
  · rename_i h
    have : ((n : Int) - 1 - -1 - 1) / (- -1) + 1 = (n : Int) := by
      have e : (- -1 : Int) = 1 := by omega
      rw [e, Int.ediv_one]; omega
    rw [this]; omega
  · omega
theorem pick_rev (xs : Array Value) : ((List.range xs.size).filterMap fun (m : Nat) => xs[((xs.size : Int) - 1 + (m : Int) * (-1)).toNat]?).toArray = xs.toList.reverse.toArray := by
  congr 1
  apply List.ext_getElem?
  intro i
  have key : ∀ m, m < xs.size → xs[((xs.size : Int) - 1 + (m : Int) * (-1)).toNat]? = some (xs.toList.reverse.getD m .none) := by
    intro m hm
    have e : ((xs.size : Int) - 1 + (m : Int) * (-1)).toNat = xs.size - 1 - m := by omega
    rw [e, Array.getElem?_eq_getElem (by omega)]
    congr 1
    rw [List.getD_eq_getElem?_getD, List.getElem?_reverse (by simpa using hm)]
    simp only [Array.length_toList]
    rw [List.getElem?_eq_getElem (by simp; omega)]
    simp
  have e2 : (List.range xs.size).filterMap (fun (m : Nat) => xs[((xs.size : Int) - 1 + (m : Int) * (-1)).toNat]?) = (List.range xs.size).map fun m => xs.toList.reverse.getD m .none := by
    have gen : ∀ l : List Nat, (∀ m ∈ l, m < xs.size) → l.filterMap (fun (m : Nat) => xs[((xs.size : Int) - 1 + (m : Int) * (-1)).toNat]?) = l.map fun m => xs.toList.reverse.getD m .none := by
      intro l
      induction l with
      | nil => intro _; rfl
      | cons m l ih =>
        intro hl
        rw [List.filterMap_cons, key m (hl m List.mem_cons_self), List.map_cons, ih fun z hz => hl z (List.mem_cons_of_mem _ hz)]
    exact gen _ fun m hm => List.mem_range.mp hm
  rw [e2]
  by_cases hi : i < xs.size
  · rw [List.getElem?_map, List.getElem?_range hi, Option.map_some, List.getD_eq_getElem?_getD, List.getElem?_eq_getElem (by simpa using hi)]
    rfl
  · rw [List.getElem?_eq_none (by simpa using hi), List.getElem?_eq_none (by simpa using hi)]
section
variable {prog : Program} {w : World} {A : Around} {E : Value → Shared → Prop} {s : Shared}
theorem sliceApplied_rev {sl : Addr} {vl vu vs : Value} {n : Nat} {Q : Int × Int × Nat → Shared → Prop} (hs : s.heap.IsSliceOf sl vl vu vs) (pl : IsPart vl none) (pu : IsPart vu none) (ps : IsPart vs (some (-1)))
    (h : Q ((n : Int) - 1, -1, n) s) : wpAny (model prog w) A (Builtin.Slice.sliceApplied (.ref sl) (pure (n : Int))) Q E s := by
  obtain ⟨os, hos, hcs, hds⟩ := id hs
  unfold Builtin.Slice.sliceApplied Builtin.Slice.sliceFields
  refine wpAny_bind (wpAny_bind (wpAny_field hos hds (x := vl) rfl (wpAny_bind (wpAny_field hos hds (x := vu) rfl (wpAny_bind (wpAny_field hos hds (x := vs) rfl (wpAny_pure ?_)))))))
  refine wpAny_bind (HT.slicePart_ ps ?_)
  show wpAny _ _ (if ((-1 : Int) == 0) = true then _ else _) _ _ s
  rw [if_neg (by decide)]
  refine wpAny_bind (HT.slicePart_ pl (wpAny_bind (HT.slicePart_ pu (wpAny_bind (wpAny_pure ?_)))))
  show wpAny _ _ (match Builtin.Slice.sliceAdjust none none (-1) (n : Int) with | (lo, hi) => pure (lo, (-1 : Int), Builtin.Slice.slicePlaces lo hi (-1))) _ _ s
  rw [adj_rev n]
  show wpAny _ _ (pure ((n : Int) - 1, (-1 : Int), Builtin.Slice.slicePlaces ((n : Int) - 1) (-1) (-1))) _ _ s
  rw [plc_rev]
  exact wpAny_pure h
theorem getItem_tuple_rev {t sl : Addr} {items : Array Value} {vl vu vs : Value} {Q : Value → Shared → Prop} (ht : IsTup s.heap t items) (hs : s.heap.IsSliceOf sl vl vu vs) (pl : IsPart vl none) (pu : IsPart vu none) (ps : IsPart vs (some (-1)))
    (h : Q (.ref s.heap.objs.size) { s with heap := s.heap.push { cls := .type "tuple", data := .seq items.toList.reverse.toArray } })
    (hsz : items.size ≤ sizeLine) : wpAny (model prog w) A (getItem (.ref t) (.ref sl)) Q E s := by
  have htake : sizeOk (.seq items.toList.reverse.toArray) := by
    show items.toList.reverse.toArray.size ≤ sizeLine
    simpa using hsz
  obtain ⟨os, hos, hcs, hds⟩ := id hs
  have hTs : s.TypeIs (.ref sl) "slice" := ⟨os, hos, hcs⟩
  unfold getItem
  try with_reducible refine wpAny_holding ?_
  first | refine wpAny_bind (wpAny_pure ?_) | skip
  refine wpAny_bind (wpAny_sequenceKey ht.typeIs (by decide) ?_)
  refine wpAny_bind (wpAny_callSpecial?_slot (name := Str.ofString "__getitem__") ht.typeIs PyProof.Rows.slot_tuple_getitem
    (wpAny_call_entry PyProof.Rows.slot_tuple_getitem ht.typeIs entry_tuple_getitem ?_ (args_tuple_getitem _ _)))
  show wpAny _ _ (Builtin.Tuple.tupleItemsOf (.ref t) >>= _) _ _ s
  refine wpAny_bind (tupleItemsOf_ ht ?_)
  refine wpAny_bind (wpAny_typeOf hTs ?_)
  rw [if_pos (by decide)]
  refine wpAny_bind (sliceApplied_rev hs pl pu ps ?_)
  have hno : ¬ ((((items.size : Int) - 1) == 0 && (-1 : Int) == 1 && items.size == items.size) = true) := by simp
  show wpAny _ _ (if ((((items.size : Int) - 1) == 0 && (-1 : Int) == 1 && items.size == items.size) = true) then _ else _) _ _ s
  rw [if_neg hno, pick_rev]
  first
    | exact wpAny_bind (m := Builtin.Tuple.tupleExact _) (wpAny_newObj_type (wpAny_pure ⟨_, rfl, wpAny_pure h⟩) htake)
    | exact wpAny_bind (m := Builtin.Tuple.tupleExact _) (wpAny_newObj_type (wpAny_bind (wpAny_pure (wpAny_pure ⟨_, rfl, wpAny_pure h⟩))) htake)
    | exact wpAny_bind (wpAny_bind (m := Builtin.Tuple.tupleExact _) (wpAny_newObj_type (wpAny_pure (wpAny_pure ⟨_, rfl, wpAny_pure h⟩)) htake))
    | exact wpAny_bind (wpAny_bind (m := Builtin.Tuple.tupleExact _) (wpAny_newObj_type (wpAny_pure ⟨_, rfl, wpAny_pure h⟩) htake))
end
section
variable {X : Cx}
def tRevA (K : PySem.W.Frag) (te : TE) : TE := fun σ H Q => te σ H fun x H1 => (∃ a xs, x = .ref a ∧ SqL K H1 a xs ∧ ∀ p, H1 p = none → Q (.ref p) (upd H1 p (.lst xs.reverse))) ∨ (∃ a xs, x = .ref a ∧ SqT K H1 a xs ∧ nwT H1 xs.reverse Q)
theorem pe_revA {e : Expr} {te : TE} {k : Nat} {p1 p2 p3 pos : Pos} (he : PE X e te) : PE X (.Subscript e (.Slice none none (some (.UnaryOp .USub (.Constant (.int 1) k p1) p2)) p3) pos) (tRevA X.K te) := by
  refine ⟨fun pins s σ H Q I h => ?_⟩
  refine Subscript_ (thn (he.run pins s σ H _ I h) fun v s1 ⟨x, H1, I1, r1, q1⟩ => ?_)
  have hst : PO X (some (.UnaryOp .USub (.Constant (.int 1) k p1) p2)) (tPart (tUn (rU fun i => .int (-i)) (tC (.int 1)))) := po_some (pe_un un_neg pe_int)
  refine wpAny_Slice (thn (po_none.run pins s1 σ H1 (fun o H2 => o = none ∧ H2 = H1) I1 ⟨rfl, rfl⟩) fun vl s2 ⟨l, H2, I2, pl, el, e2⟩ => ?_)
  subst el e2
  refine thn (po_none.run pins s2 σ H2 (fun o H3 => o = none ∧ H3 = H2) I2 ⟨rfl, rfl⟩) fun vu s3 ⟨u, H3, I3, pu, eu, e3⟩ => ?_
  subst eu e3
  refine thn (hst.run pins s3 σ H3 (fun o H4 => o = some (-1) ∧ H4 = H3) I3 ⟨1, rfl, -1, rfl, rfl, rfl⟩) fun vs s4 ⟨o, H4, I4, ps, eo, e4⟩ => ?_
  subst eo e4
  have I5 : Inv X pins σ H4 { s4 with heap := s4.heap.push { cls := .type "slice", data := .fields #[vl, vu, vs] } } := I4.kept (t' := s4.toks) fun b ob q => Heap.get?_push_of_some _ q
  rcases q1 with ⟨a, xs, ex, hx, q⟩ | ⟨a, xs, ex, hx, q⟩
  · subst ex
    cases r1
    obtain ⟨its, r, ht, hz⟩ := I5.list hx
    have hlen := r.length
    show wpAny (model X.prog X.w) X.A (subscriptTail e (.Slice none none (some (.UnaryOp .USub (.Constant (.int 1) k p1) p2)) p3) (.ref a) (.ref s4.heap.objs.size)) (EP X pins σ Q) X.xe { s4 with heap := s4.heap.push { cls := .type "slice", data := .fields #[vl, vu, vs] } }
    refine tail_any (ops := [.ref a, .ref s4.heap.objs.size]) ht.isList.typeIs (PySem.slot_list_getitem.lookup) ?_ (by with_unfolding_all rfl)
    refine wpAny_getItem_list_slice ht.isList (Heap.IsSliceOf.new _ vl vu vs) pl pu ps (by decide) ?_ (by rw [List.size_toArray]; omega)
    rw [PySem.W.krv_pick]
    refine ⟨.ref _, _, I5.laid (t' := s4.toks) (o := .lst xs.reverse) (fun b ob q => Heap.get?_push_of_some _ q) (Nat.le_refl _) ?_, rfl, q _ (I5.hok.fresh (Nat.le_refl _))⟩
    exact ⟨by rw [List.length_reverse]; exact hz, _, 0, r.reverse, Heap.get?_push_size _ rfl⟩
  · subst ex
    cases r1
    obtain ⟨its, r, ht, hz⟩ := I5.tuple hx
    have hlen := r.length
    show wpAny (model X.prog X.w) X.A (subscriptTail e (.Slice none none (some (.UnaryOp .USub (.Constant (.int 1) k p1) p2)) p3) (.ref a) (.ref s4.heap.objs.size)) (EP X pins σ Q) X.xe { s4 with heap := s4.heap.push { cls := .type "slice", data := .fields #[vl, vu, vs] } }
    refine tail_any (ops := [.ref a, .ref s4.heap.objs.size]) ht.typeIs (PyProof.Rows.slot_tuple_getitem.lookup) ?_ (by with_unfolding_all rfl)
    refine getItem_tuple_rev ht (Heap.IsSliceOf.new _ vl vu vs) pl pu ps ?_ (by rw [List.size_toArray]; omega)
    exact lay_tup (t' := s4.toks) (its := its.toArray.toList.reverse.toArray) I5 (by rw [List.length_reverse]; exact hz) (by simpa using r.reverse) q
end
end
section
variable {X : Cx} {W : WX} {a : Expr} {p : Ex}
def eRev (p : Ex) : Nv → Res Sl := fun ρ => do
  match ← p ρ with
  | .lst xs => .ok (.own (.lst xs.reverse))
  | .tup xs => .ok (.val (.tup xs.reverse))
  | _ => stk
theorem sn_rev {k : Nat} {p1 p2 p3 pos : Pos} (h : SimO X W a p) : SimN X W (.Subscript a (.Slice none none (some (.UnaryOp .USub (.Constant (.int 1) k p1) p2)) p3) pos) (eRev p) := by
  refine PE.imp (pe_revA h) fun σ H Q ⟨B, F, ρ, rl, o⟩ => ?_
  have o : Out X.gm W (RS X.gm) F H σ (p ρ >>= fun d => match d with | .lst xs => .ok (.own (.lst xs.reverse)) | .tup xs => .ok (.val (.tup xs.reverse)) | _ => stk) Q := o
  refine tG_bind anti_S (f := fun d ρ => match d with | .lst xs => .ok (.own (.lst xs.reverse)) | .tup xs => .ok (.val (.tup xs.reverse)) | _ => stk) rl o fun d v F1 H1 e1 g1 r1 q1 o1 => ?_
  cases d with
  | lst xs =>
    obtain ⟨a, vs, rfl, h1, q2⟩ := q1.lst r1.fh
    refine .inl ⟨a, vs, rfl, SqL.of h1, fun p np => ?_⟩
    obtain ⟨g, t⟩ := grow_lst r1.fh np q2.reverse
    exact o1 _ _ _ g t
  | tup xs =>
    obtain ⟨a, vs, rfl, h1, _, q2⟩ := q1.tup r1.fh
    refine .inr ⟨a, vs, rfl, h1.sqt, fun p od hd np => ?_⟩
    obtain ⟨g, t⟩ := grow_tup r1.fh hd np q2.reverse
    exact o1 _ _ _ g t
  | _ => exact o1.elim
end

section
variable {X : Cx} {W : WX} {a b c e o : Expr} {es : List Expr} {p q r : Ex} {ps : Nv → Res (List D)} {pos pp apos cpos : Pos}

/-! ### o.m(e, ..) that changes nothing -/
def rM (mg : Gm) (f : D → List D → Res Sl) (d : D) : V → List V → Hp → VK → Prop := fun x xs H Q => ∃ F ds, Sub F H ∧ DtO mg F H x d ∧ Dts mg F xs ds ∧ okS mg F H Q (f d ds)
def eMeth (isr : D → Bool) (f : D → List D → Res Sl) (p : Ex) (ps : Nv → Res (List D)) : Nv → Res Sl := fun ρ => do
  let d ← p ρ
  if isr d = true then do
    let ds ← ps ρ
    noExc (f d ds)
  else stk
/-- which built-in type has it -/
structure MtOf (X : Cx) (name : Str) (d : D) (f : D → List D → Res Sl) : Prop where
  ex : ∃ T id, PlainAttrs T ∧ Slot T name id ∧ typeOf (.builtin id) = pure (.type "method_descriptor") ∧ MtR X id (rM X.gm f d) ∧
    ∀ (pins : List (Addr × Obj)) (s : Shared) (σ : St) (F H : Hp) (v : V) (u : Value), Inv X pins σ H s → Sub F H → RelV v u → DtO X.gm F H v d → s.TypeIs u T ∧ ∀ a, u = .ref a → ∃ ob, s.heap.get? a = some ob ∧ ob.dict = none
theorem sn_meth {name : Str} {isr : D → Bool} {f : D → List D → Res Sl} (hh : ∀ d, isr d = true → MtOf X name d f) (ho : SimO X W o p) (ha : SimA X W (e :: es) ps)
    (hbase : attributeBase o name X.env (eval o X.env) = eval o X.env := by rfl)
    (hfew : ((backTo cpos (starEach (e :: es) X.env)).all (fun x => !x.1) && (backToKw cpos (keywordEach [] X.env)).all (fun x => x.1.isSome)
      && decide ((e :: es).length + ([] : List Keyword).length + (if ([] : List Keyword).isEmpty then 0 else 1) < 30)) = true := by rfl)
    (hline : (apos.endLine == cpos.line) = true := by rfl) (hs : starEach (e :: es) X.env = (false, eval e X.env) :: starEach es X.env := by rfl) (hplain : (backTo cpos (starEach es X.env)).any (·.1) = false := by rfl) :
    SimN X W (.Call (.Attribute o name apos) (e :: es) [] cpos) (eMeth isr f p ps) := by
  refine ⟨fun pins s σ H Q I ⟨B, F, ρ, rl, oo⟩ => ?_⟩
  have h1 : tG X.gm W (RO X.gm) p σ H (fun v H1 => ∃ d F1, Rel X.gm B F1 H1 σ ρ ∧ DtO X.gm F1 H1 v d ∧ Out X.gm W (RS X.gm) F1 H1 σ (if isr d = true then (ps ρ >>= fun ds => noExc (f d ds)) else stk) Q) :=
    tG_bind anti_S (f := fun d ρ => if isr d = true then (ps ρ >>= fun ds => noExc (f d ds)) else stk) rl oo fun d v F1 H1 e1 g1 r1 q1 o1 => ⟨d, F1, r1, q1, o1⟩
  refine wpAny_Call_method_late hbase hfew hline rfl (thn (ho.run pins s σ H _ I h1) fun u s1 ⟨v, H1, I1, ru, d, F1, r1, q1, o1⟩ => ?_)
  by_cases hd : isr d = true
  · rw [if_pos hd] at o1
    obtain ⟨T, id, pa, slot, hty, hm, ht⟩ := (hh d hd).ex
    obtain ⟨t1, t2⟩ := ht pins s1 σ F1 H1 v u I1 r1.fh ru q1
    refine ⟨T, id, pa, slot, hty, t1, t2, ?_⟩
    have h2 : tG X.gm W (RA X.gm) ps σ H1 (fun vs H2 => ∃ ds F2, Rel X.gm B F2 H2 σ ρ ∧ Dts X.gm F2 vs ds ∧ DtO X.gm F2 H2 v d ∧ Out X.gm W (RS X.gm) F2 H2 σ (noExc (f d ds)) Q) :=
      tG_bind anti_S (f := fun ds ρ => noExc (f d ds)) r1 o1 fun ds vs F2 H2 e2 g2 r2 q2 o2 => ⟨ds, F2, r2, q2, DtO.grow g2 q1, o2⟩
    have hA := ha.run cpos pins s1 σ H1 _ I1 h2
    rw [hs] at hA ⊢
    refine Calls.callWith_builtin (by show (false || (backTo cpos (starEach es X.env)).any (·.1)) = false; rw [hplain] <;> rfl) (Calls.evalArgs_plain ?_)
    exact thn hA fun us s2 ⟨vs, H2, I2, ruu, ds, F2, r2, q2, q3, o2⟩ => hm pins s2 σ H2 v vs u us Q I2 ru ruu ⟨F2, ds, r2.fh, q3, q2, okS_noExc o2⟩
  · rw [if_neg hd] at o1
    exact o1.elim
theorem ty_tup {pins : List (Addr × Obj)} {s : Shared} {σ : St} {F H : Hp} {v : V} {u : Value} {xs : List D} (I : Inv X pins σ H s) (fh : Sub F H) (ru : RelV v u) (h : DtO X.gm F H v (.tup xs)) : s.TypeIs u "tuple" ∧ ∀ a, u = .ref a → ∃ ob, s.heap.get? a = some ob ∧ ob.dict = none := by
  obtain ⟨a, vs, rfl, ⟨ob, h1, h2⟩, _, _⟩ := h.tup fh
  cases ru
  obtain ⟨its, r, p1, _⟩ := I.tuple (a := a) (xs := vs) (.inl (.inr ⟨ob, h1⟩))
  obtain ⟨e1, _⟩ := (show ObjOk X.prog X.w H s.heap a (.frz ob (.tup vs)) from I.hok a _ h1)
  exact ⟨p1.typeIs, fun b e => by cases e; exact ⟨ob, e1, h2⟩⟩
theorem ty_lst {pins : List (Addr × Obj)} {s : Shared} {σ : St} {F H : Hp} {v : V} {u : Value} {xs : List D} (I : Inv X pins σ H s) (fh : Sub F H) (ru : RelV v u) (h : DtO X.gm F H v (.lst xs)) : s.TypeIs u "list" ∧ ∀ a, u = .ref a → ∃ ob, s.heap.get? a = some ob ∧ ob.dict = none := by
  obtain ⟨a, vs, rfl, h1, _⟩ := h.lst fh
  cases ru
  obtain ⟨_, its, n, _, e1⟩ := (show ObjOk X.prog X.w H s.heap a (.lst vs) from I.hok a _ h1)
  exact ⟨⟨_, e1, rfl⟩, fun b e => by cases e; exact ⟨_, e1, rfl⟩⟩

/-! index -/
def isSq : D → Bool
  | .tup _ => true
  | .lst _ => true
  | _ => false
def ixSq (xs : List D) (k : D) : Res Sl := if okD 60 k = true ∧ okDs 59 xs = true then match ix0 k xs with
  | some j => .ok (.val (.int (j : Nat)))
  | none => stk
  else stk
def mIndex : D → List D → Res Sl
  | .tup xs, [k] => ixSq xs k
  | .lst xs, [k] => ixSq xs k
  | _, _ => stk
theorem ix_facts {mg : Gm} {F H : Hp} {Q : VK} {xs : List D} {k : D} (o : okS mg F H Q (ixSq xs k)) (fh : Sub F H) : okD 60 k = true ∧ okDs 59 xs = true ∧ ∃ j z, (toPys xs)[j]? = some z ∧ PyData.eqv z (toPy k) = true ∧ (∀ (m : Nat) (z' : PyData), m < j → (toPys xs)[m]? = some z' → PyData.eqv z' (toPy k) = false) ∧ Q (.int (j : Nat)) H := by
  unfold ixSq at o
  split at o
  · rename_i hc
    cases hj : ix0 k xs with
    | none => rw [hj] at o; exact o.elim
    | some j =>
      rw [hj] at o
      obtain ⟨z, h1, h2, h3⟩ := ix0_ok hj
      refine ⟨hc.1, hc.2, j, toPy z, by rw [toPys_get, h1]; rfl, h2, fun m z' hm hz => ?_, o _ F H (.refl fh) (.int _)⟩
      rw [toPys_get] at hz
      cases hx : xs[m]? with
      | none => rw [hx] at hz; cases hz
      | some w =>
        rw [hx] at hz
        cases hz
        exact h3 m w hm hx
  · exact o.elim
theorem MtR.imp {id : String} {r r' : V → List V → Hp → VK → Prop} (h : MtR X id r) (q : ∀ x xs H Q, r' x xs H Q → r x xs H Q) : MtR X id r' := fun pins s σ H x xs v us Q I rx rxs z => h pins s σ H x xs v us Q I rx rxs (q x xs H Q z)
theorem mt_index_tup (hu : X.A.units + 65 < cLine) (xs : List D) : MtOf X "index" (.tup xs) mIndex := by
  refine ⟨"tuple", "tuple.index", PySem.F.plainAttrs_tuple, PySem.F.slot_tuple_index, PySem.F.type_tuple_index, ?_, fun pins s σ F H v u I fh ru h => ty_tup I fh ru h⟩
  refine MtR.imp (mt_indexT hu) fun x vs H Q ⟨F, ds, fh, hx, hd, o⟩ => ?_
  obtain ⟨a, ws, rfl, h1, h2, h3⟩ := hx.tup fh
  cases hd with
  | nil => exact o.elim
  | cons hk hr =>
    cases hr with
    | cons _ _ => exact o.elim
    | nil =>
      obtain ⟨k1, k2, j, z, z1, z2, z3, z4⟩ := ix_facts o fh
      have hl := hx.dp (K := X.K) fh (okDs_tup k2)
      rw [toPy] at hl
      exact ⟨a, _, toPy _, toPys xs, j, z, rfl, rfl, hl, hk.dp fh 60 _ k1, okD_shaped (okDs_tup k2), okD_shaped k1, z1, z2, z3, z4⟩
theorem mt_index_lst (hu : X.A.units + 65 < cLine) (xs : List D) : MtOf X "index" (.lst xs) mIndex := by
  refine ⟨"list", "list.index", PySem.F.plainAttrs_list, PySem.F.slot_list_index, PySem.F.type_list_index, ?_, fun pins s σ F H v u I fh ru h => ty_lst I fh ru h⟩
  refine MtR.imp (mt_indexD hu) fun x vs H Q ⟨F, ds, fh, hx, hd, o⟩ => ?_
  obtain ⟨a, ws, rfl, h1, h3⟩ := hx.lst fh
  cases hd with
  | nil => exact o.elim
  | cons hk hr =>
    cases hr with
    | cons _ _ => exact o.elim
    | nil =>
      obtain ⟨k1, k2, j, z, z1, z2, z3, z4⟩ := ix_facts o fh
      have hl := hx.dp (K := X.K) fh (okDs_lst k2)
      rw [toPy] at hl
      exact ⟨a, _, toPy _, toPys xs, j, z, rfl, rfl, hl, hk.dp fh 60 _ k1, okD_shaped (okDs_lst k2), okD_shaped k1, z1, z2, z3, z4⟩
theorem mt_index (hu : X.A.units + 65 < cLine) (d : D) (h : isSq d = true) : MtOf X "index" d mIndex := by
  cases d with
  | tup xs => exact mt_index_tup hu xs
  | lst xs => exact mt_index_lst hu xs
  | _ => cases h
/-! count, of a list -/
def isLs : D → Bool
  | .lst _ => true
  | _ => false
def mCount : D → List D → Res Sl
  | .lst xs, [k] => if okD 60 k = true ∧ okDs 59 xs = true then .ok (.val (.int ((xs.countP fun z => eqD z k : Nat) : Int))) else stk
  | _, _ => stk
theorem mt_count (hu : X.A.units + 65 < cLine) (d : D) (h : isLs d = true) : MtOf X "count" d mCount := by
  cases d with
  | lst xs =>
    refine ⟨"list", "list.count", PySem.F.plainAttrs_list, PySem.F.slot_list_count, PySem.F.type_list_count, ?_, fun pins s σ F H v u I fh ru h => ty_lst I fh ru h⟩
    intro pins s σ H x vs v us Q I rx rxs ⟨F, ds, fh, hx, hd, o⟩
    cases hd with
    | nil => exact o.elim
    | cons hk hr =>
      cases hr with
      | cons _ _ => exact o.elim
      | nil =>
        rename_i kd
        cases rxs with
        | cons ry rt =>
          rename_i uy ut
          cases rt
          unfold mCount at o
          simp only at o
          split at o
          · rename_i hc
            have hl := hx.dp (K := X.K) fh (okDs_lst hc.2)
            rw [toPy] at hl
            have sl := okD_shaped (okDs_lst hc.2)
            have sd := okD_shaped hc.1
            obtain ⟨a, ws, rfl, h1, h3⟩ := hx.lst fh
            cases rx
            obtain ⟨bs, r1⟩ := Dp.reads I (toPy kd) _ uy (hk.dp fh 60 _ hc.1) ry
            have hxs : PyData.canLayAll0 (toPys xs) = true := SeqAt.canLay_of_shaped (d := .list (toPys xs)) (by rw [toPy] at sl; exact sl)
            have hroom : X.A.units + 1 + min (PyData.depthAll (toPys xs)) (toPy kd).depth < cLine := PyProof.Rows.room_in_shaped sd hu
            cases hl with
            | lst hs ha =>
              obtain ⟨its, rv, ⟨⟨cls, dd, data, sls⟩, n, ho, hc2, hdn, hdt⟩, hlen⟩ := I.list hs
              simp only at hc2 hdt
              subst hc2 hdt
              obtain ⟨as, h4⟩ := Dp.readsAll I _ _ its ha rv
              have hmap : its.map (SeqAt.readOf s.heap) = toPys xs := SeqAt.readsAll_map _ its as hxs h4
              refine call_meets PySem.F.slot_list_count ⟨_, ho, rfl⟩ PySem.F.entry_list_count (PySem.F.args_list_count_2 _ _)
                (SeqAt.list_countAt a its.toArray n dd sls uy (fun u => PyData.eqv (SeqAt.readOf s.heap u) (toPy kd))) ⟨ho, SeqAt.items_eqAt (vs := its.toArray) (show ReadsAll s.heap its.toArray.toList _ as from h4) r1 hxs (SeqAt.canLay_of_shaped sd) hroom, ?_⟩
              have ec : (its.toArray.toList.countP fun u => PyData.eqv (SeqAt.readOf s.heap u) (toPy kd)) = xs.countP fun z => eqD z kd := by
                have e1 : (its.countP fun u => PyData.eqv (SeqAt.readOf s.heap u) (toPy kd)) = ((its.map (SeqAt.readOf s.heap)).countP fun z => PyData.eqv z (toPy kd)) := by rw [List.countP_map]; rfl
                show its.countP _ = _
                rw [e1, hmap, toPys_map, List.countP_map]
                rfl
              rw [ec]
              exact ⟨.int _, H, I.tok _, ⟨_, rfl⟩, o _ F H (.refl fh) (.int _)⟩
          · exact o.elim
  | _ => cases h

/-! ### star items -/
def aStar (p : Ex) (q : Nv → Res (List D)) : Nv → Res (List D) := fun ρ => do
  let d ← p ρ
  let xs ← itD d
  let ds ← q ρ
  .ok (xs ++ ds)
theorem sa_star {q : Nv → Res (List D)} (h : SimE X W e p) (k : SimA X W es q) (hs : starEach (.Starred e pp :: es) X.env = (true, eval e X.env) :: starEach es X.env := by rfl) : SimA X W (.Starred e pp :: es) (aStar p q) := by
  refine PA.imp (StX.pa_star h k hs) fun σ H Q ⟨B, F, ρ, rl, o⟩ => ?_
  refine tG_bind anti_A (f := fun d ρ => itD d >>= fun xs => q ρ >>= fun ds => .ok (xs ++ ds)) rl o fun d v F1 H1 e1 g1 r1 q1 o1 => ?_
  have key : ∀ {vs : List V} {xs : List D}, itD d = .ok xs → Dts X.gm F1 vs xs → tG X.gm W (RA X.gm) q σ H1 (fun ys H2 => Q (vs ++ ys) H2) := fun {vs xs} ei qv => by
    rw [ei] at o1
    refine tG_bind anti_A (f := fun ds ρ => .ok (xs ++ ds)) r1 o1 fun ds ws F2 H2 e2 g2 r2 q2 o2 => ?_
    exact o2 (vs ++ ws) F2 H2 (.refl r2.fh) ((qv.mono g2.ff).append q2)
  cases d with
  | lst ds =>
    cases q1 with
    | lst h q => exact ⟨_, _, rfl, .inr (SqL.of (r1.fh _ _ h)), key rfl q⟩
  | tup ds =>
    cases q1 with
    | tup h od q => exact ⟨_, _, rfl, .inl (.inl (.inr ⟨_, r1.fh _ _ h⟩)), key rfl q⟩
  | _ => exact o1.elim

end
end Sim

/-! SimD: a def by its body. -/
namespace Sim
open PySem L2

theorem hu65 {k : Nat} {A : Around} (r : Room k A) : A.units + 65 < cLine := by
  have h := r.un
  omega
theorem hu64 {k : Nat} {A : Around} (r : Room k A) : A.units + 64 < cLine := by
  have h := r.un
  omega
theorem hu1 {k : Nat} {A : Around} (r : Room k A) : A.units + 1 < cLine := by
  have h := r.un
  omega
def endF : Fl × Nv → Res D
  | (.nx, _) => .ok .non
  | (.rt d, _) => .ok d
  | _ => stk
/-- n arguments, l names -/
def runF (n l : Nat) (m : Sx) : List D → Res D := fun ds => if ds.length = n then (do
  let r ← m (ds.map (fun d => some (.val d)) ++ List.replicate (l - n) none)
  endF r) else stk
theorem runF_ar {n l : Nat} {m : Sx} (ds : List D) (h : ds.length ≠ n) : runF n l m ds = stk := if_neg h

section
variable {X : Cx} {W : WX} {pos pp : Pos}
theorem se_call0 {k n : Nat} {x : Str} {φ : List D → Res D} (F : Fn X.prog X.w X.K X.mg X.base k x n φ) (hr : Room k X.A) (tk : Takes X W) (hg : Gl X x := by rfl) (hdb : (x == ("__debug__" : Str)) = false := by decide) : SimE X W (.Call (.Name x pp) [] [] pos) (eCall φ aNil) := by
  obtain ⟨f, fd, pl, mf, kf, bf, G⟩ := F.ex
  refine ⟨fun pins s σ H Q I ⟨B, F0, ρ, rl, o⟩ => ?_⟩
  refine wpAny_Call_Name_kw (ld_glob I hg mf ?_ hdb)
  refine PySem.W.callWith_K0 I.kIn kf (run_fnS (E := WE W) (us := []) (vs := []) G hr bf (passAt tk σ) I .nil ?_)
  have o : Out X.gm W (RV X.gm) F0 H σ (φ []) Q := o
  by_cases hl : n = 0
  · refine ⟨hl.symm, F0, [], rl.fh, .nil, ?_⟩
    cases z : φ [] with
    | ok d => rw [z] at o; exact o
    | error er =>
      rw [z] at o
      cases er with
      | stuck => exact o
      | exc c x => exact o
  · rw [F.ar [] (fun e => hl e.symm)] at o
    exact o.elim
end
theorem gt3_len {i j k : Nat} (ds : List D) (ρ ρ' : Nv) (h : gtCons (gtN i) (gtCons (gtN j) (gtCons (gtN k) gtNil)) ds ρ = .ok ρ') : ds.length = 3 := by
  match ds, h with
  | [_, _, _], _ => rfl
  | [], h => cases h
  | [_], h => cases h
  | [_, _], h => cases h
  | _ :: _ :: _ :: _ :: _, h => cases h
theorem fnok_of {P : Program} {w : World} {K : PySem.W.Frag} {mg : Mg} {base : Heap} {x qual : Str} {st : Stmt} {f : Addr} {fd : FuncData} {N ps : List Str} {k : Nat} {m : Sx} (F : Fun K x qual st f fd) (S : FnScope N ps (defScope st)) 
    (hb : ∀ (cdv : Value) (A : Around) (outer : List Env) (s : Shared) (H : Hp) (E : XK), Room k (A.deeper (PyProof.Rows.envOfC qual (defScope st) s.heap.objs.size f cdv)) →
      Takes (cxOf (L2.CX P w) P w K mg base N qual (defScope st) f cdv A outer s H E) (fun cls d _ H => E cls d H) →
      PassesOwn (model P w) (cxOf (L2.CX P w) P w K mg base N qual (defScope st) f cdv A outer s H E).A (cxOf (L2.CX P w) P w K mg base N qual (defScope st) f cdv A outer s H E).env (cxOf (L2.CX P w) P w K mg base N qual (defScope st) f cdv A outer s H E).xe →
      SimB (cxOf (L2.CX P w) P w K mg base N qual (defScope st) f cdv A outer s H E) (fun cls d _ H => E cls d H) (defBody st) m) :
    FnOk P w K mg base (L2.CX P w) (k + 1) f fd ps (spF ⟨mg, P, w, K⟩ ps.length (runF ps.length N.length m)) := by
  refine F.okX S (fun vs H Q E h => h.1) (fun cdv A outer s H vs Q E hr h => ?_)
  have tk : Takes (cxOf (L2.CX P w) P w K mg base N qual (defScope st) f cdv A outer s H E) (fun cls d _ H => E cls d H) := takes_of rfl rfl rfl rfl
  refine ⟨_, hb cdv A outer s H E hr tk (passes_of rfl), ?_⟩
  obtain ⟨hl, F0, ds, fh, q, o⟩ := h
  have hd : ds.length = ps.length := by rw [← q.length]; exact hl
  have e : start N vs = vs.map some ++ List.replicate (N.length - ps.length) none := by unfold L2.start; rw [hl]
  rw [e]
  refine ⟨H, F0, _, Rel.start fh q (N.length - ps.length), ?_⟩
  unfold runF at o
  rw [if_pos hd] at o
  have gr : ∀ {F' H'}, Gb H F0 F' → Sub H H' → Sub F' H' → Grow F0 H F' H' := fun g a b => ⟨a, g.ff, b, g.nw⟩
  cases z : m (ds.map (fun d => some (.val d)) ++ List.replicate (N.length - ps.length) none) with
  | error er =>
    rw [z] at o
    cases er with
    | stuck => exact o.elim
    | exc c x => exact fun cls dx σ' F' H' g a b r => o cls dx F' H' (gr g a b) r
  | ok p =>
    rw [z] at o
    obtain ⟨fl, ρ'⟩ := p
    cases fl with
    | nx => exact fun σ' F' H' g r => o .non F' H' (gr g r.bh r.fh) .non
    | bk => exact o.elim
    | ct => exact o.elim
    | rt d => exact fun v F' H' g a b r => o v F' H' (gr g a b) r
theorem fn_ok {P : Program} {w : World} {K : PySem.W.Frag} {mg : Mg} {base : Heap} {x qual : Str} {st : Stmt} {f : Addr} {fd : FuncData} {N ps : List Str} {k : Nat} {m : Sx} (F : Fun K x qual st f fd) (S : FnScope N ps (defScope st)) (hg : mg x = some (.ref f)) (bf : Binds K fd ps [])
    (hb : ∀ (cdv : Value) (A : Around) (outer : List Env) (s : Shared) (H : Hp) (E : XK), Room k (A.deeper (PyProof.Rows.envOfC qual (defScope st) s.heap.objs.size f cdv)) →
      Takes (cxOf (L2.CX P w) P w K mg base N qual (defScope st) f cdv A outer s H E) (fun cls d _ H => E cls d H) →
      PassesOwn (model P w) (cxOf (L2.CX P w) P w K mg base N qual (defScope st) f cdv A outer s H E).A (cxOf (L2.CX P w) P w K mg base N qual (defScope st) f cdv A outer s H E).env (cxOf (L2.CX P w) P w K mg base N qual (defScope st) f cdv A outer s H E).xe →
      SimB (cxOf (L2.CX P w) P w K mg base N qual (defScope st) f cdv A outer s H E) (fun cls d _ H => E cls d H) (defBody st) m) :
    Fn P w K mg base (k + 1) x ps.length (runF ps.length N.length m) := ⟨⟨f, fd, ps, hg, F.kp, bf, fnok_of F S hb⟩, runF_ar⟩

/-! ### the law -/
def spLaw (K : PySem.W.Frag) : Sp := fun vs H Q _ => ∃ (a : Addr) (ns : List Int), vs = [.ref a] ∧ SqL K H a (ns.map V.int) ∧ ns.length ≤ 63 ∧ ∀ H', Q (.bl true) H'
theorem law_imp {g : Gm} {φ : List D → Res D} (hφ : ∀ ns : List Int, ns.length ≤ 63 → φ [.scr ns] = .ok (.bl true)) (vs : List V) (H : Hp) (Q : VK) (E : XK) (h : spLaw g.K vs H Q E) : spF g 1 φ vs H Q E := by
  obtain ⟨a, ns, rfl, hs, hl, q⟩ := h
  refine ⟨rfl, H, [.scr ns], .refl _, .cons (.scr hs) .nil, ?_⟩
  rw [hφ ns hl]
  intro v F' H' _ hv
  cases hv
  exact q H'
theorem walk_sim {l : PySem.W.OpenLaw} {k : Nat} {q : Program} {loose : List Str} {XP : (Str → Option Value) → Heap → Prop} {YP : World → Heap → Prop} {d : DefRec} {K : Params → PySem.W.Frag} (hn : l.most = some 63) (hdf : d.params.defaults = []) (hr : Room k callerA)
    (hY : ∀ (w : World) (h : Heap), YP w h → (K w.params).In h)
    (F : ∀ (w : World) (mg : Str → Option Value) (fa : Addr) (h : Heap), (K w.params).In h → h.Ns mainGlobals mg → mg d.name = some (.ref fa) →
      ∃ fd : FuncData, (∀ (s : Shared) (u : Value), BindsTo s fd ⟨[u], []⟩ [("script", u)]) ∧ ∀ base : Heap, (K w.params).In base → base.Ns mainGlobals mg → FnOk l.prog w (K w.params) mg base (L2.CX l.prog w) k fa fd ["script"] (spLaw (K w.params))) :
    PySem.W.WalkO q loose XP YP l.row.toRowW d [] (fun f vs => PySem.call f vs) :=
  L2.walk_of (n := 63) (k := k) (x := "script") (CX := fun w => L2.CX l.prog w) (sp := fun w => spLaw (K w.params)) hn (by decide) hdf hr hY F (fun _ _ a ns hl _ hS => ⟨a, ns, rfl, hS, hl, fun _ => rfl⟩) fun _ _ _ _ _ h => by
    obtain ⟨_, _, _, _, _, _, _, _, _, _, _, _, z⟩ := h
    exact z.elim
end Sim

/-! Com: the plain functions of all defs. -/
namespace Sim
open PySem L2
/-- law_k49_whole_walks_undone -/
def m__law_row : Sx := sSeq (sSetN 2 (b1 biAbs (ro 0))) (sSeq (sSet 3 (ofB (cmp2 cmGe (ro 2) (frz (op2 opPow (cst (.int 10)) (cst (.int 18))))))) (sSeq (sSetN 4 (op2 opMod (frz (b1 biInt (ro 2))) (cst (.int 2147483647)))) (sSeq (sSetN 5 (eLst aNil)) (sSeq (sFor (itR (cst (.int 0)) (frz (b1 biLen (ro 1)))) (gtN 6) [6] (sSeq (sSetN 4 (op2 opMod (frz (b1 biInt (frz (op2 opAdd (frz (op2 opAdd (frz (op2 opMul (ro 4) (cst (.int 48271)))) (frz (op2 opMul (cst (.int 29)) (ro 6))))) (cst (.int 17)))))) (cst (.int 2147483647)))) (sSeq (sSetN 4 (op2 opMod (frz (b1 biInt (frz (op2 opAdd (frz (op2 opAdd (frz (op2 opMul (ro 4) (cst (.int 69621)))) (frz (op2 opMul (cst (.int 13)) (ro 6))))) (cst (.int 5)))))) (cst (.int 2147483629)))) (sIf (tAnd' (tru (ro 3)) (cmp2 cmGt (ro 2) (cst (.int 0)))) (sSeq (sApp 5 (frz (op2 opMod (frz (b1 biInt (ro 2))) (eIx (ro 1) (rd 6))))) (sSetN 2 (op2 opDiv (ro 2) (eIx (ro 1) (rd 6))))) (sApp 5 (frz (op2 opMod (frz (b1 biInt (frz (op2 opDiv (ro 4) (cst (.int 7)))))) (eIx (ro 1) (rd 6))))))))) (sFrz [5] (sRet (rd 5)))))))
def f__law_row : List D → Res D := runF 2 7 m__law_row
/-- law_k49_whole_walks_undone -/
def m__law_cell : Sx := sSeq (sIf (cmp2 cmLt (ro 1) (frz (b1 biLen (ro 0)))) (sRet (eIx (ro 0) (rd 1))) sNil) (sRet (cst (.int 0)))
def f__law_cell : List D → Res D := runF 2 2 m__law_cell
/-- law_k49_whole_walks_undone -/
def m__law_named : Sx := sSeq (sSetN 2 (op2 opMul (frz (eLst (aCons (cst .non) aNil))) (frz (b1 biLen (ro 1))))) (sSeq (sFor (itR (cst (.int 0)) (frz (b1 biLen (ro 1)))) (gtN 3) [3, 4, 5] (sSeq (sSetN 4 (op2 opMul (frz (eLst (aCons (cst (.int 0)) aNil))) (frz (b1 biLen (ro 1))))) (sSeq (sFor (itR (cst (.int 0)) (frz (b1 biLen (ro 1)))) (gtN 5) [5] (sSetI 4 (eIx (ro 1) (rd 5)) (eIx (ro 1) (eIx (eIx (ro 0) (rd 3)) (rd 5))))) (sSetI 2 (eIx (ro 1) (rd 3)) (frz (b1 biTuple (ro 4))))))) (sRet (frz (b1 biTuple (ro 2)))))
def f__law_named : List D → Res D := runF 2 6 m__law_named
/-- law_k49_whole_walks_undone -/
def m__law_shuffled : Sx := sSeq (sSet 3 (eCall f__law_row (aCons (rd 0) (aCons (frz (op2 opAdd (frz (eLC (itRC (cst (.int 0)) (rd 1)) [2] (gtN 2) tsYes (frz (op2 opSub (ro 1) (ro 2))))) (frz (eLst (aCons (cst (.int 1)) aNil))))) aNil)))) (sSeq (sSetN 4 (eListR (cst (.int 0)) (rd 1))) (sSeq (sSetN 5 (eLst aNil)) (sSeq (sFor (itR (cst (.int 0)) (rd 1)) (gtN 2) [2] (sSeq (sApp 5 (eIx (ro 4) (eIx (ro 3) (rd 2)))) (sSetN 4 (op2 opAdd (frz (eSl (ro 4) oNone (oSome (eIx (ro 3) (rd 2))))) (frz (eSl (ro 4) (oSome (frz (op2 opAdd (eIx (ro 3) (rd 2)) (cst (.int 1))))) oNone)))))) (sRet (frz (b1 biTuple (ro 5)))))))
def f__law_shuffled : List D → Res D := runF 2 6 m__law_shuffled
/-- law_k49_whole_walks_undone -/
def m__law_why : Sx := sSeq (sSetN 1 (b1 biLen (ro 0))) (sSeq (sFor (itR (cst (.int 0)) (rd 1)) (gtN 2) [2, 3, 4] (sFor (itR (cst (.int 0)) (rd 1)) (gtN 3) [3, 4] (sSeq (sSet 4 (eIx (eIx (ro 0) (rd 2)) (rd 3))) (sIf (cmp2 cmNe (eIx (eIx (ro 0) (eIx (ro 4) (cst (.int 0)))) (eIx (ro 4) (cst (.int 1)))) (eTup (aCons (rd 2) (aCons (rd 3) aNil)))) (sRet (eTup (aCons (cst (.str "back")) (aCons (rd 2) (aCons (rd 3) aNil))))) sNil)))) (sSeq (sFor (itR (cst (.int 0)) (cst (.int 2))) (gtN 5) [2, 3, 5, 6] (sFor (itR (cst (.int 0)) (rd 1)) (gtN 2) [2, 3, 6] (sFor (itR (cst (.int 0)) (rd 1)) (gtN 3) [3, 6] (sFor (itR (frz (op2 opAdd (ro 3) (cst (.int 1)))) (rd 1)) (gtN 6) [6] (sSeq (sIf (tAnd' (cmp2 cmEq (ro 5) (cst (.int 0))) (cmp2 cmEq (eIx (eIx (eIx (ro 0) (rd 2)) (rd 3)) (cst (.int 0))) (eIx (eIx (eIx (ro 0) (rd 2)) (rd 6)) (cst (.int 0))))) (sRet (eTup (aCons (cst (.str "turning")) (aCons (rd 2) (aCons (rd 3) (aCons (rd 6) aNil)))))) sNil) (sIf (tAnd' (cmp2 cmEq (ro 5) (cst (.int 1))) (cmp2 cmEq (eIx (eIx (eIx (ro 0) (rd 3)) (rd 2)) (cst (.int 1))) (eIx (eIx (eIx (ro 0) (rd 6)) (rd 2)) (cst (.int 1))))) (sRet (eTup (aCons (cst (.str "back turning")) (aCons (rd 2) (aCons (rd 3) (aCons (rd 6) aNil)))))) sNil)))))) (sRet (cst .non))))
def f__law_why : List D → Res D := runF 1 7 m__law_why
/-- law_k49_whole_walks_undone -/
def m__law_rows_of : Sx := sSeq (sSetN 1 (eLst aNil)) (sSeq (sFor (itR (cst (.int 0)) (frz (b1 biLen (ro 0)))) (gtN 2) [2] (sApp 1 (frz (b1 biTuple (frz (eLC (its (eIx (ro 0) (rd 2))) [3] (gtN 3) tsYes (eTup (aCons (rd 3) (aCons (frz (eMeth isSq mIndex (eIx (ro 0) (rd 3)) (aCons (rd 2) aNil))) aNil))))))))) (sRet (frz (b1 biTuple (ro 1)))))
def f__law_rows_of : List D → Res D := runF 1 4 m__law_rows_of
/-- law_k49_whole_walks_undone -/
def m_all_tuples : Sx := sSeq (sSetN 2 (eLst (aCons (eTup aNil) aNil))) (sSeq (sFor (itR (cst (.int 0)) (rd 0)) (gtN 3) [3] (sSetN 2 (eLC2 (its (ro 2)) [4, 5] (gtN 4) (itR (cst (.int 0)) (rd 1)) [5] (gtN 5) tsYes (frz (op2 opAdd (ro 4) (eTup (aCons (rd 5) aNil))))))) (sFrz [2] (sRet (rd 2))))
def f_all_tuples : List D → Res D := runF 2 6 m_all_tuples
/-- law_k49_whole_walks_undone -/
def m_first_twice : Sx := sSeq (sSetN 1 (eLC2 (itRC (cst (.int 0)) (frz (b1 biLen (ro 0)))) [2, 3] (gtN 2) (itR (frz (op2 opAdd (ro 2) (cst (.int 1)))) (frz (b1 biLen (ro 0)))) [3] (gtN 3) (cmp2 cmEq (eIx (ro 0) (rd 2)) (eIx (ro 0) (rd 3))) (eTup (aCons (rd 2) (aCons (rd 3) aNil))))) (sRet (eIf (tru (ro 1)) (eIx (ro 1) (cst (.int 0))) (cst .non)))
def f_first_twice : List D → Res D := runF 1 4 m_first_twice
/-- law_k49_whole_walks_undone -/
def m_turning_of : Sx := sRet (frz (b1 biTuple (frz (eLC (its (eIx (eRows (rd 0)) (rd 1))) [2] (gtN 2) tsYes (eIx (ro 2) (cst (.int 0)))))))
def f_turning_of : List D → Res D := runF 2 3 m_turning_of
/-- law_k49_whole_walks_undone -/
def m_back_turning_of : Sx := sRet (frz (b1 biTuple (frz (eLC (its (eRows (rd 0))) [2] (gtN 2) tsYes (eIx (eIx (ro 2) (rd 1)) (cst (.int 1)))))))
def f_back_turning_of : List D → Res D := runF 2 3 m_back_turning_of
/-- law_k49_whole_walks_undone -/
def m_why_not_mutual : Sx := sSeq (sFor (its (eCall f_all_tuples (aCons (cst (.int 2)) (aCons (eKinds (rd 0)) aNil)))) (gtT (gtCons (gtN 1) (gtCons (gtN 2) gtNil))) [1, 2, 3, 4] (sSeq (sAsg (gtT (gtCons (gtN 3) (gtCons (gtN 4) gtNil))) (eIx (eIx (eRows (rd 0)) (rd 1)) (rd 2))) (sIf (cmp2 cmNe (eIx (eIx (eRows (rd 0)) (rd 3)) (rd 4)) (eTup (aCons (rd 1) (aCons (rd 2) aNil)))) (sRet (eTup (aCons (cst (.str "back")) (aCons (rd 1) (aCons (rd 2) aNil))))) sNil))) (sSeq (sFor (itR (cst (.int 0)) (eKinds (rd 0))) (gtN 1) [1, 5] (sSeq (sSet 5 (eCall f_first_twice (aCons (eCall f_turning_of (aCons (rd 0) (aCons (rd 1) aNil))) aNil))) (sIf (cmp2 cmIsNot (ro 5) (cst .non)) (sRet (frz (op2 opAdd (eTup (aCons (cst (.str "turning")) (aCons (rd 1) aNil))) (ro 5)))) sNil))) (sSeq (sFor (itR (cst (.int 0)) (eKinds (rd 0))) (gtN 2) [2, 5] (sSeq (sSet 5 (eCall f_first_twice (aCons (eCall f_back_turning_of (aCons (rd 0) (aCons (rd 2) aNil))) aNil))) (sIf (cmp2 cmIsNot (ro 5) (cst .non)) (sRet (frz (op2 opAdd (eTup (aCons (cst (.str "back turning")) (aCons (rd 2) aNil))) (ro 5)))) sNil))) (sRet (cst .non))))
def f_why_not_mutual : List D → Res D := runF 1 6 m_why_not_mutual
/-- law_k49_whole_walks_undone -/
def m_is_mutual : Sx := sRet (ofB (cmp2 cmIs (eCall f_why_not_mutual (aCons (rd 0) aNil)) (cst .non)))
def f_is_mutual : List D → Res D := runF 1 1 m_is_mutual
/-- law_k49_whole_walks_undone -/
def m__law_hats : Sx := sRet (frz (b1 biTuple (eCall f__law_row (aCons (rd 0) (aCons (frz (op2 opMul (frz (eLst (aCons (rd 1) aNil))) (ro 2))) aNil)))))
def f__law_hats : List D → Res D := runF 3 3 m__law_hats
/-- law_k49_whole_walks_undone -/
def m_is_whole : Sx := sRet (eAnd (eIsi isInt (ro 0)) (eNot (eIsi isBool (ro 0))))
def f_is_whole : List D → Res D := runF 1 1 m_is_whole
/-- law_k49_whole_walks_undone -/
def m_is_below : Sx := sRet (eAnd (eCall f_is_whole (aCons (rd 0) aNil)) (ofB (cmp3 cmLe cmLt (cst (.int 0)) (ro 0) (ro 1))))
def f_is_below : List D → Res D := runF 2 2 m_is_below
/-- law_k49_whole_walks_undone -/
def m_is_row : Sx := sRet (eAnd (eIsi isTuple (ro 1)) (frz (b1 biAll (frz (eLC (its (ro 1)) [2] (gtN 2) tsYes (eCall f_is_below (aCons (rd 2) (aCons (eKinds (rd 0)) aNil))))))))
def f_is_row : List D → Res D := runF 2 3 m_is_row
/-- law_k49_whole_walks_undone -/
def m_are_places : Sx := sSeq (sIf (tOr' (tNot' (tru (eIsi isTuple (ro 0)))) (cmp2 cmGt (frz (b1 biLen (ro 0))) (ro 2))) (sRet (cst (.bl false))) sNil) (sRet (frz (b1 biAll (frz (eLC (its (ro 0)) [3] (gtN 3) tsYes (eCall f_is_below (aCons (rd 3) (aCons (frz (op2 opSub (ro 1) (cst (.int 1)))) aNil))))))))
def f_are_places : List D → Res D := runF 3 4 m_are_places
/-- law_k49_whole_walks_undone -/
def m_behind_pass : Sx := sRet (frz (op2 opAdd (frz (op2 opAdd (frz (eSl (ro 1) oNone (oSome (rd 2)))) (eIx (eIx (eRows (rd 0)) (eIx (ro 1) (rd 2))) (eIx (ro 1) (frz (op2 opAdd (ro 2) (cst (.int 1)))))))) (frz (eSl (ro 1) (oSome (frz (op2 opAdd (ro 2) (cst (.int 2))))) oNone))))
def f_behind_pass : List D → Res D := runF 3 3 m_behind_pass
/-- law_k49_whole_walks_undone -/
def m_behind_passes : Sx := sSeq (sFor (its (rd 2)) (gtN 3) [3] (sSet 1 (eCall f_behind_pass (aCons (rd 0) (aCons (rd 1) (aCons (rd 3) aNil)))))) (sRet (rd 1))
def f_behind_passes : List D → Res D := runF 3 4 m_behind_passes
/-- law_k49_whole_walks_undone -/
def m__law_pass : Sx := sRet (frz (op2 opAdd (frz (op2 opAdd (frz (eSl (ro 1) oNone (oSome (rd 2)))) (eIx (eIx (ro 0) (eIx (ro 1) (rd 2))) (eIx (ro 1) (frz (op2 opAdd (ro 2) (cst (.int 1)))))))) (frz (eSl (ro 1) (oSome (frz (op2 opAdd (ro 2) (cst (.int 2))))) oNone))))
def f__law_pass : List D → Res D := runF 3 3 m__law_pass
/-- law_k49_whole_walks_undone -/
def m__law_walk : Sx := sSeq (sFor (its (rd 2)) (gtN 3) [3] (sSet 1 (eCall f__law_pass (aCons (rd 0) (aCons (rd 1) (aCons (rd 3) aNil)))))) (sRet (rd 1))
def f__law_walk : List D → Res D := runF 3 4 m__law_walk
/-- law_k50_folding -/
def m__law_numbers : Sx := sSeq (sSetN 3 (b1 biAbs (frz (b1 biInt (eCall f__law_cell (aCons (rd 0) (aCons (rd 1) aNil))))))) (sSeq (sIf (cmp2 cmGe (ro 3) (frz (op2 opPow (cst (.int 10)) (cst (.int 15))))) (sSeq (sSetN 4 (eLst aNil)) (sSeq (sFor (itR (cst (.int 0)) (rd 2)) (gtN 5) [5] (sSeq (sApp 4 (frz (op2 opMod (ro 3) (cst (.int 840))))) (sSetN 3 (op2 opDiv (ro 3) (cst (.int 840)))))) (sFrz [4] (sRet (rd 4))))) sNil) (sSeq (sSetN 6 (op2 opMod (frz (op2 opAdd (frz (op2 opAdd (ro 3) (frz (op2 opMul (cst (.int 12345)) (ro 1))))) (cst (.int 7)))) (cst (.int 1000003)))) (sSeq (sSetN 4 (eLst aNil)) (sSeq (sFor (itR (cst (.int 0)) (rd 2)) (gtN 5) [5] (sSeq (sSetN 6 (op2 opMod (frz (op2 opAdd (frz (op2 opMul (ro 6) (cst (.int 48271)))) (cst (.int 12345)))) (cst (.int 1000003)))) (sApp 4 (frz (op2 opMod (frz (op2 opDiv (ro 6) (cst (.int 7)))) (cst (.int 840))))))) (sFrz [4] (sRet (rd 4)))))))
def f__law_numbers : List D → Res D := runF 3 7 m__law_numbers
/-- law_k50_folding -/
def m__law_order : Sx := sSeq (sSetN 3 (eListR (cst (.int 0)) (rd 2))) (sSeq (sSetN 4 (eLst aNil)) (sSeq (sFor (itR (cst (.int 0)) (rd 2)) (gtN 5) [5] (sAppPop 4 3 (frz (op2 opMod (frz (op2 opDiv (eIx (ro 0) (frz (op2 opMod (frz (op2 opAdd (ro 1) (ro 5))) (frz (b1 biLen (ro 0)))))) (frz (op2 opAdd (ro 5) (cst (.int 1)))))) (frz (b1 biLen (ro 3))))))) (sRet (frz (b1 biTuple (ro 4))))))
def f__law_order : List D → Res D := runF 3 6 m__law_order
/-- law_k50_folding -/
def m__law_behind : Sx := sRet (frz (b1 biTuple (frz (eLC (its (ro 1)) [2] (gtN 2) tsYes (eIx (ro 0) (rd 2))))))
def f__law_behind : List D → Res D := runF 2 3 m__law_behind
/-- law_k50_folding -/
def m__law_power : Sx := sSeq (sSet 2 (eTupR (cst (.int 0)) (frz (b1 biLen (ro 0))))) (sSeq (sFor (itR (cst (.int 0)) (rd 1)) (gtN 3) [3] (sSet 2 (eCall f__law_behind (aCons (rd 0) (aCons (rd 2) aNil))))) (sRet (rd 2)))
def f__law_power : List D → Res D := runF 2 4 m__law_power
/-- law_k50_folding -/
def m__law_joined : Sx := sSeq (sSetN 4 (b1 biLen (ro 0))) (sSeq (sSetN 5 (eLst aNil)) (sSeq (sFor (itR (cst (.int 0)) (rd 4)) (gtN 6) [6] (sApp 5 (frz (op2 opAdd (eIx (ro 0) (rd 6)) (frz (b1 biTuple (frz (eLC (its (ro 3)) [8] (gtN 8) tsYes (frz (op2 opAdd (ro 4) (ro 8))))))))))) (sSeq (sFor (itR (cst (.int 0)) (frz (b1 biLen (ro 1)))) (gtN 7) [7] (sApp 5 (frz (op2 opAdd (ro 2) (frz (b1 biTuple (frz (eLC (its (eIx (ro 1) (rd 7))) [8] (gtN 8) tsYes (frz (op2 opAdd (ro 4) (ro 8))))))))))) (sRet (frz (b1 biTuple (ro 5)))))))
def f__law_joined : List D → Res D := runF 4 9 m__law_joined
/-- law_k50_folding -/
def m__law_menu : Sx := sSeq (sSetN 1 (eLst (aCons (eTup (aCons (eTup (aCons (cst (.int 0)) (aCons (cst (.int 1)) (aCons (cst (.int 2)) aNil)))) (aCons (eTup (aCons (cst (.int 0)) (aCons (cst (.int 1)) (aCons (cst (.int 2)) aNil)))) (aCons (eTup (aCons (cst (.int 1)) (aCons (cst (.int 0)) (aCons (cst (.int 2)) aNil)))) aNil)))) (aCons (eTup (aCons (eTup (aCons (cst (.int 1)) (aCons (cst (.int 0)) (aCons (cst (.int 2)) aNil)))) (aCons (eTup (aCons (cst (.int 1)) (aCons (cst (.int 0)) (aCons (cst (.int 2)) aNil)))) (aCons (eTup (aCons (cst (.int 0)) (aCons (cst (.int 1)) (aCons (cst (.int 2)) aNil)))) aNil)))) (aCons (frz (op2 opMul (eTup (aCons (eTup (aCons (cst (.int 1)) (aCons (cst (.int 2)) (aCons (cst (.int 0)) aNil)))) aNil)) (cst (.int 3)))) aNil))))) (sSeq (sApp 1 (eTup (aCons (eTup (aCons (cst (.int 0)) (aCons (cst (.int 1)) (aCons (cst (.int 3)) (aCons (cst (.int 2)) aNil))))) (aCons (eTup (aCons (cst (.int 2)) (aCons (cst (.int 3)) (aCons (cst (.int 1)) (aCons (cst (.int 0)) aNil))))) (aCons (eTup (aCons (cst (.int 3)) (aCons (cst (.int 2)) (aCons (cst (.int 0)) (aCons (cst (.int 1)) aNil))))) (aCons (eTup (aCons (cst (.int 1)) (aCons (cst (.int 0)) (aCons (cst (.int 2)) (aCons (cst (.int 3)) aNil))))) aNil)))))) (sSeq (sApp 1 (eTup (aCons (eTup (aCons (cst (.int 0)) (aCons (cst (.int 1)) (aCons (cst (.int 2)) (aCons (cst (.int 3)) aNil))))) (aCons (eTup (aCons (cst (.int 0)) (aCons (cst (.int 1)) (aCons (cst (.int 2)) (aCons (cst (.int 3)) aNil))))) (aCons (eTup (aCons (cst (.int 1)) (aCons (cst (.int 0)) (aCons (cst (.int 2)) (aCons (cst (.int 3)) aNil))))) (aCons (eTup (aCons (cst (.int 1)) (aCons (cst (.int 0)) (aCons (cst (.int 2)) (aCons (cst (.int 3)) aNil))))) aNil)))))) (sSeq (sApp 1 (eTup (aCons (eTup (aCons (cst (.int 0)) (aCons (cst (.int 1)) (aCons (cst (.int 3)) (aCons (cst (.int 2)) aNil))))) (aCons (eTup (aCons (cst (.int 0)) (aCons (cst (.int 1)) (aCons (cst (.int 3)) (aCons (cst (.int 2)) aNil))))) (aCons (eTup (aCons (cst (.int 1)) (aCons (cst (.int 0)) (aCons (cst (.int 2)) (aCons (cst (.int 3)) aNil))))) (aCons (eTup (aCons (cst (.int 1)) (aCons (cst (.int 0)) (aCons (cst (.int 2)) (aCons (cst (.int 3)) aNil))))) aNil)))))) (sSeq (sApp 1 (frz (op2 opMul (eTup (aCons (eTup (aCons (cst (.int 0)) (aCons (cst (.int 1)) aNil))) aNil)) (cst (.int 2))))) (sSeq (sApp 1 (frz (op2 opMul (eTup (aCons (eTup (aCons (cst (.int 1)) (aCons (cst (.int 0)) aNil))) aNil)) (cst (.int 2))))) (sRet (eIx (ro 1) (frz (op2 opMod (ro 0) (cst (.int 8)))))))))))
def f__law_menu : List D → Res D := runF 1 2 m__law_menu
/-- law_k50_folding -/
def m__law_pairs : Sx := sSeq (sSetN 2 (b1 biLen (ro 1))) (sSeq (sSetN 3 (eLst aNil)) (sSeq (sFor (itR (cst (.int 0)) (frz (b1 biLen (ro 0)))) (gtN 4) [4, 5, 6, 7] (sFor (itR (cst (.int 0)) (rd 2)) (gtN 5) [5, 6, 7] (sSeq (sSetN 6 (eLst aNil)) (sSeq (sFor (itR (cst (.int 0)) (frz (b1 biLen (ro 0)))) (gtN 7) [7] (sSetN 6 (op2 opAdd (ro 6) (frz (eLC (itRC (cst (.int 0)) (rd 2)) [8] (gtN 8) tsYes (frz (op2 opAdd (frz (op2 opMul (eIx (eIx (ro 0) (rd 4)) (rd 7)) (ro 2))) (eIx (eIx (ro 1) (rd 5)) (rd 8))))))))) (sApp 3 (frz (b1 biTuple (ro 6)))))))) (sRet (frz (b1 biTuple (ro 3))))))
def f__law_pairs : List D → Res D := runF 2 9 m__law_pairs
/-- law_k50_folding -/
def m__law_renamed : Sx := sSeq (sSetN 2 (eLC (itRC (cst (.int 0)) (frz (b1 biLen (ro 1)))) [5] (gtN 5) tsYes (frz (eMeth isSq mIndex (ro 1) (aCons (rd 5) aNil))))) (sSeq (sSetN 3 (eLst aNil)) (sSeq (sFor (itR (cst (.int 0)) (frz (b1 biLen (ro 1)))) (gtN 4) [4] (sApp 3 (frz (b1 biTuple (frz (eLC (itRC (cst (.int 0)) (frz (b1 biLen (ro 1)))) [6] (gtN 6) tsYes (eIx (ro 1) (eIx (eIx (ro 0) (eIx (ro 2) (rd 4))) (eIx (ro 2) (rd 6)))))))))) (sRet (frz (b1 biTuple (ro 3))))))
def f__law_renamed : List D → Res D := runF 2 7 m__law_renamed
/-- law_k50_folding -/
def m__law_turn_of : Sx := sSeq (sSet 2 (eCall f__law_order (aCons (rd 1) (aCons (cst (.int 11)) (aCons (frz (b1 biLen (ro 0))) aNil))))) (sSeq (sFor (itR (cst (.int 0)) (cst (.int 12))) (gtN 3) [3] (sSeq (sIf (cmp2 cmEq (eCall f__law_renamed (aCons (rd 0) (aCons (rd 2) aNil))) (ro 0)) (sRet (rd 2)) sNil) (sSet 2 (eCall f__law_order (aCons (rd 1) (aCons (frz (op2 opAdd (cst (.int 12)) (ro 3))) (aCons (frz (b1 biLen (ro 0))) aNil))))))) (sRet (eTupR (cst (.int 0)) (frz (b1 biLen (ro 0))))))
def f__law_turn_of : List D → Res D := runF 2 4 m__law_turn_of
/-- law_k50_folding -/
def m__law_clear : Sx := sSeq (sSetN 1 (op2 opMod (eIx (ro 0) (cst (.int 0))) (cst (.int 6)))) (sSeq (sIf (cmp2 cmEq (ro 1) (cst (.int 0))) (sSeq (sSetN 2 (op2 opAdd (cst (.int 1)) (frz (op2 opMod (eIx (ro 0) (cst (.int 1))) (cst (.int 6)))))) (sRet (frz (op2 opMul (eTup (aCons (eCall f__law_order (aCons (rd 0) (aCons (cst (.int 2)) (aCons (rd 2) aNil)))) aNil)) (ro 2))))) sNil) (sSeq (sIf (cmp2 cmEq (ro 1) (cst (.int 1))) (sSeq (sSet 3 (eCall f__law_order (aCons (rd 0) (aCons (cst (.int 2)) (aCons (frz (op2 opAdd (cst (.int 1)) (frz (op2 opMod (eIx (ro 0) (cst (.int 1))) (cst (.int 3)))))) aNil))))) (sSeq (sSet 4 (eCall f__law_order (aCons (rd 0) (aCons (cst (.int 6)) (aCons (frz (op2 opAdd (cst (.int 1)) (frz (op2 opMod (frz (op2 opDiv (eIx (ro 0) (cst (.int 1))) (cst (.int 3)))) (cst (.int 3)))))) aNil))))) (sSeq (sSet 5 (eCall f__law_power (aCons (rd 3) (aCons (frz (op2 opMod (eIx (ro 0) (cst (.int 9))) (cst (.int 3)))) aNil)))) (sSeq (sSet 6 (eCall f__law_power (aCons (rd 4) (aCons (frz (op2 opMod (frz (op2 opDiv (eIx (ro 0) (cst (.int 9))) (cst (.int 3)))) (cst (.int 3)))) aNil)))) (sSet 7 (eCall f__law_joined (aCons (frz (op2 opMul (eTup (aCons (rd 3) aNil)) (frz (b1 biLen (ro 3))))) (aCons (frz (op2 opMul (eTup (aCons (rd 4) aNil)) (frz (b1 biLen (ro 4))))) (aCons (rd 5) (aCons (rd 6) aNil)))))))))) (sIf (cmp2 cmEq (ro 1) (cst (.int 2))) (sSet 7 (eCall f__law_menu (aCons (eIx (ro 0) (cst (.int 1))) aNil))) (sIf (cmp2 cmEq (ro 1) (cst (.int 3))) (sSet 7 (eCall f__law_pairs (aCons (eCall f__law_menu (aCons (frz (op2 opAdd (cst (.int 6)) (frz (op2 opMod (eIx (ro 0) (cst (.int 1))) (cst (.int 2)))))) aNil)) (aCons (eCall f__law_menu (aCons (frz (op2 opMod (eIx (ro 0) (cst (.int 2))) (cst (.int 3)))) aNil)) aNil)))) (sIf (cmp2 cmEq (ro 1) (cst (.int 4))) (sSeq (sSet 3 (eCall f__law_menu (aCons (eIx (ro 0) (cst (.int 1))) aNil))) (sSeq (sSet 4 (eCall f__law_menu (aCons (frz (op2 opAdd (cst (.int 6)) (frz (op2 opMod (eIx (ro 0) (cst (.int 2))) (cst (.int 2)))))) aNil))) (sSeq (sSet 6 (eIx (ro 4) (frz (op2 opMod (eIx (ro 0) (cst (.int 3))) (cst (.int 2)))))) (sSet 7 (eCall f__law_joined (aCons (rd 3) (aCons (rd 4) (aCons (eCall f__law_turn_of (aCons (rd 3) (aCons (rd 0) aNil))) (aCons (rd 6) aNil))))))))) (sSeq (sSet 3 (eCall f__law_menu (aCons (frz (op2 opMod (eIx (ro 0) (cst (.int 1))) (cst (.int 3)))) aNil))) (sSet 7 (eCall f__law_joined (aCons (rd 3) (aCons (eTup (aCons (eTup (aCons (cst (.int 0)) aNil)) aNil)) (aCons (eCall f__law_turn_of (aCons (rd 3) (aCons (rd 0) aNil))) (aCons (eTup (aCons (cst (.int 0)) aNil)) aNil))))))))))) (sRet (eCall f__law_renamed (aCons (rd 7) (aCons (eCall f__law_order (aCons (rd 0) (aCons (cst (.int 13)) (aCons (frz (b1 biLen (ro 7))) aNil)))) aNil))))))
def f__law_clear : List D → Res D := runF 1 8 m__law_clear
/-- law_k50_folding -/
def m__law_rows : Sx := sSeq (sSetN 1 (eLst aNil)) (sSeq (sFor (itR (cst (.int 0)) (frz (b1 biLen (ro 0)))) (gtN 2) [2, 3, 4, 5] (sSeq (sSetN 3 (eLst aNil)) (sSeq (sFor (itR (cst (.int 0)) (frz (b1 biLen (ro 0)))) (gtN 4) [4, 5] (sSeq (sSet 5 (eIx (eIx (ro 0) (rd 2)) (rd 4))) (sApp 3 (eTup (aCons (rd 5) (aCons (frz (eMeth isSq mIndex (eIx (ro 0) (rd 5)) (aCons (rd 2) aNil))) aNil)))))) (sApp 1 (frz (b1 biTuple (ro 3))))))) (sRet (frz (b1 biTuple (ro 1)))))
def f__law_rows : List D → Res D := runF 1 6 m__law_rows
/-- law_k50_folding -/
def m_three_break : Sx := sSeq (sFor (its (eCall f_all_tuples (aCons (cst (.int 3)) (aCons (eKinds (rd 0)) aNil)))) (gtN 1) [1] (sIf (cmp2 cmNe (eCall f_behind_passes (aCons (rd 0) (aCons (rd 1) (aCons (eTup (aCons (cst (.int 0)) (aCons (cst (.int 1)) (aCons (cst (.int 0)) aNil)))) aNil)))) (eCall f_behind_passes (aCons (rd 0) (aCons (rd 1) (aCons (eTup (aCons (cst (.int 1)) (aCons (cst (.int 0)) (aCons (cst (.int 1)) aNil)))) aNil))))) (sRet (rd 1)) sNil)) (sRet (cst .non))
def f_three_break : List D → Res D := runF 1 2 m_three_break
/-- law_k50_folding -/
def m_is_fair : Sx := sRet (ofB (cmp2 cmIs (eCall f_three_break (aCons (rd 0) aNil)) (cst .non)))
def f_is_fair : List D → Res D := runF 1 1 m_is_fair
/-- law_k50_folding -/
def m_is_clear : Sx := sRet (eAnd (eCall f_is_mutual (aCons (rd 0) aNil)) (eCall f_is_fair (aCons (rd 0) aNil)))
def f_is_clear : List D → Res D := runF 1 1 m_is_clear
/-- law_k50_folding -/
def m_twins_of : Sx := sSeq (sSetN 1 (eLst aNil)) (sSeq (sSetN 2 (eLst aNil)) (sSeq (sFor (itR (cst (.int 0)) (eKinds (rd 0))) (gtN 3) [3, 4] (sSeq (sSet 4 (eCall f_turning_of (aCons (rd 0) (aCons (rd 3) aNil)))) (sSeq (sIf (cmp2 cmNotIn (ro 4) (ro 1)) (sApp 1 (rd 4)) sNil) (sApp 2 (frz (eMeth isSq mIndex (ro 1) (aCons (rd 4) aNil))))))) (sRet (frz (b1 biTuple (ro 2))))))
def f_twins_of : List D → Res D := runF 1 5 m_twins_of
/-- law_k50_folding -/
def m__law_is_number : Sx := sRet (eAnd (eIsi isInt (ro 0)) (eAnd (eNot (eIsi isBool (ro 0))) (ofB (cmp2 cmGe (ro 0) (cst (.int 0))))))
def f__law_is_number : List D → Res D := runF 1 1 m__law_is_number
/-- law_k50_folding -/
def m__law_is_row : Sx := sSeq (sIf (tOr' (tNot' (tru (eIsi isTuple (ro 0)))) (cmp2 cmNe (frz (b1 biLen (ro 0))) (ro 1))) (sRet (cst (.bl false))) sNil) (sRet (frz (b1 biAll (frz (eLC (its (ro 0)) [3] (gtN 3) tsYes (eAnd (eCall f__law_is_number (aCons (rd 3) aNil)) (ofB (cmp2 cmLt (ro 3) (ro 2)))))))))
def f__law_is_row : List D → Res D := runF 3 4 m__law_is_row
/-- law_k50_folding -/
def m__law_classes : Sx := sSeq (sSetN 1 (eLst aNil)) (sSeq (sSetN 2 (eLst aNil)) (sSeq (sFor (its (rd 0)) (gtN 3) [3] (sSeq (sIf (cmp2 cmNotIn (ro 3) (ro 1)) (sApp 1 (rd 3)) sNil) (sApp 2 (frz (eMeth isSq mIndex (ro 1) (aCons (rd 3) aNil)))))) (sRet (frz (b1 biTuple (ro 2))))))
def f__law_classes : List D → Res D := runF 1 4 m__law_classes
/-- law_k52_split_whole -/
def m__law_is_lot : Sx := sSeq (sIf (tOr' (tNot' (tru (eIsi isTuple (ro 0)))) (tNot' (tru (eCall f__law_is_row (aCons (rd 0) (aCons (frz (b1 biLen (ro 0))) (aCons (rd 1) aNil))))))) (sRet (cst (.bl false))) sNil) (sRet (ofB (cmp2 cmEq (frz (eLC (itRC (cst (.int 1)) (frz (b1 biLen (ro 0)))) [2] (gtN 2) (cmp2 cmGe (eIx (ro 0) (frz (op2 opSub (ro 2) (cst (.int 1))))) (eIx (ro 0) (rd 2))) (rd 2))) (frz (eLst aNil)))))
def f__law_is_lot : List D → Res D := runF 2 3 m__law_is_lot
/-- law_k52_split_whole -/
def m__law_is_fast : Sx := sSeq (sFor (its (rd 0)) (gtN 2) [2] (sIf (cmp2 cmNe (frz (eLC (its (ro 1)) [3] (gtN 3) (cmp2 cmNotIn (eIx (ro 2) (rd 3)) (ro 1)) (rd 3))) (frz (eLst aNil))) (sRet (cst (.bl false))) sNil)) (sRet (cst (.bl true)))
def f__law_is_fast : List D → Res D := runF 2 4 m__law_is_fast
/-- law_k52_split_whole -/
def m_is_told : Sx := sRet (eAnd (eIsi isTuple (ro 0)) (eAnd (ofB (cmp2 cmEq (frz (b1 biLen (ro 0))) (ro 2))) (eAnd (eIsi isStr (eIx (ro 0) (cst (.int 0)))) (ofB (cmp2 cmEq (eIx (ro 0) (cst (.int 0))) (ro 1))))))
def f_is_told : List D → Res D := runF 3 3 m_is_told
/-- law_k52_split_whole -/
def m_is_ascending : Sx := sRet (frz (b1 biAll (frz (eLC (itRC (cst (.int 1)) (frz (b1 biLen (ro 0)))) [1] (gtN 1) tsYes (ofB (cmp2 cmLt (eIx (ro 0) (frz (op2 opSub (ro 1) (cst (.int 1))))) (eIx (ro 0) (rd 1))))))))
def f_is_ascending : List D → Res D := runF 1 2 m_is_ascending
/-- law_k52_split_whole -/
def m_is_lot : Sx := sSeq (sIf (tOr' (tNot' (tru (eIsi isTuple (ro 1)))) (tNot' (tru (frz (b1 biAll (frz (eLC (its (ro 1)) [2] (gtN 2) tsYes (eCall f_is_below (aCons (rd 2) (aCons (eKinds (rd 0)) aNil)))))))))) (sRet (cst (.bl false))) sNil) (sRet (eCall f_is_ascending (aCons (rd 1) aNil)))
def f_is_lot : List D → Res D := runF 2 3 m_is_lot
/-- law_k52_split_whole -/
def m_is_fast : Sx := sRet (frz (b1 biAll (frz (eLC2 (itRC (cst (.int 0)) (eKinds (rd 0))) [2, 3] (gtN 2) (its (rd 1)) [3] (gtN 3) tsYes (ofB (cmp2 cmIn (eIx (eCall f_turning_of (aCons (rd 0) (aCons (rd 2) aNil))) (rd 3)) (ro 1)))))))
def f_is_fast : List D → Res D := runF 2 4 m_is_fast
/-- law_k53_splits_judged -/
def m__law_says : Sx := sRet (eAnd (eIsi isBool (ro 0)) (ofB (cmp2 cmEq (ro 0) (ro 1))))
def f__law_says : List D → Res D := runF 2 2 m__law_says
/-- law_k54_lot_tables -/
def m__law_any_rows : Sx := sSeq (sSetN 2 (eLst aNil)) (sSeq (sFor (itR (cst (.int 0)) (rd 1)) (gtN 3) [3, 4, 5, 6] (sSeq (sSetN 4 (eLst aNil)) (sSeq (sFor (itR (cst (.int 0)) (rd 1)) (gtN 5) [5, 6] (sSeq (sSet 6 (eIx (ro 0) (frz (op2 opMod (frz (op2 opAdd (frz (op2 opAdd (cst (.int 5)) (frz (op2 opMul (cst (.int 6)) (ro 3))))) (ro 5))) (frz (b1 biLen (ro 0))))))) (sApp 4 (eTup (aCons (frz (op2 opMod (frz (op2 opDiv (ro 6) (cst (.int 5)))) (ro 1))) (aCons (frz (op2 opMod (frz (op2 opDiv (ro 6) (cst (.int 40)))) (ro 1))) aNil)))))) (sApp 2 (frz (b1 biTuple (ro 4))))))) (sRet (frz (b1 biTuple (ro 2)))))
def f__law_any_rows : List D → Res D := runF 2 7 m__law_any_rows
/-- law_k55_quiet_hats_whole -/
def m_quiet_hats : Sx := sRet (frz (b1 biTuple (frz (eLC (itRC (cst (.int 0)) (eKinds (rd 0))) [1] (gtN 1) (cmp2 cmEq (eIx (eIx (eRows (rd 0)) (rd 1)) (rd 1)) (eTup (aCons (rd 1) (aCons (rd 1) aNil)))) (rd 1)))))
def f_quiet_hats : List D → Res D := runF 1 2 m_quiet_hats
/-- law_k56_gone_round -/
def m__law_hats_k56 : Sx := sRet (frz (b1 biTuple (frz (eLC (itRC (cst (.int 0)) (rd 2)) [4] (gtN 4) tsYes (frz (op2 opMod (frz (op2 opDiv (eIx (ro 0) (frz (op2 opMod (frz (op2 opAdd (ro 1) (ro 4))) (frz (b1 biLen (ro 0)))))) (frz (op2 opAdd (cst (.int 1)) (frz (op2 opMod (ro 4) (cst (.int 5)))))))) (ro 3)))))))
def f__law_hats_k56 : List D → Res D := runF 4 5 m__law_hats_k56
/-- law_k56_gone_round -/
def m_behind_round : Sx := sSeq (sSetN 3 (b1 biList (ro 1))) (sSeq (sFor (itR (cst (.int 1)) (frz (b1 biLen (ro 1)))) (gtN 4) [4, 5, 6] (sSeq (sSetN 5 (op2 opMod (frz (op2 opAdd (ro 2) (ro 4))) (frz (b1 biLen (ro 1))))) (sSeq (sSet 6 (eIx (eIx (eRows (rd 0)) (eIx (ro 3) (rd 2))) (eIx (ro 3) (rd 5)))) (sSeq (sSetI 3 (rd 5) (eIx (ro 6) (cst (.int 0)))) (sSetI 3 (rd 2) (eIx (ro 6) (cst (.int 1)))))))) (sRet (frz (b1 biTuple (ro 3)))))
def f_behind_round : List D → Res D := runF 3 7 m_behind_round
/-- law_k56_gone_round -/
def m__law_round : Sx := sSeq (sSetN 3 (b1 biList (ro 1))) (sSeq (sFor (itR (cst (.int 1)) (frz (b1 biLen (ro 1)))) (gtN 4) [4, 5, 6] (sSeq (sSetN 5 (op2 opMod (frz (op2 opAdd (ro 2) (ro 4))) (frz (b1 biLen (ro 1))))) (sSeq (sSet 6 (eIx (eIx (ro 0) (eIx (ro 3) (rd 2))) (eIx (ro 3) (rd 5)))) (sSeq (sSetI 3 (rd 5) (eIx (ro 6) (cst (.int 0)))) (sSetI 3 (rd 2) (eIx (ro 6) (cst (.int 1)))))))) (sRet (frz (b1 biTuple (ro 3)))))
def f__law_round : List D → Res D := runF 3 7 m__law_round
/-- law_k60_touching_journeys -/
def m_signed_order : Sx := sSeq (sIf (cmp2 cmLt (ro 1) (cst (.int 0))) (sSeq (sAsg (gtT (gtCons (gtN 2) (gtCons (gtN 3) gtNil))) (eIx (ro 0) (cst (.int 0)))) (sRet (eTup (aCons (eTup (aCons (rd 2) (aCons (eNot (rd 3)) aNil))) (aStar (frz (eSl (ro 0) (oSome (cst (.int 1))) oNone)) aNil))))) sNil) (sRet (frz (op2 opAdd (frz (op2 opAdd (frz (eSl (ro 0) oNone (oSome (rd 1)))) (eTup (aCons (eIx (ro 0) (frz (op2 opAdd (ro 1) (cst (.int 1))))) (aCons (eIx (ro 0) (rd 1)) aNil))))) (frz (eSl (ro 0) (oSome (frz (op2 opAdd (ro 1) (cst (.int 2))))) oNone)))))
def f_signed_order : List D → Res D := runF 2 4 m_signed_order
/-- law_k60_touching_journeys -/
def m_inversions : Sx := sSeq (sSetN 1 (eLC (its (ro 0)) [5, 6] (gtT (gtCons (gtN 5) (gtCons (gtN 6) gtNil))) tsYes (eIf (tru (ro 6)) (frz (op2 opSub (eNeg (cst (.int 1))) (ro 5))) (frz (op2 opAdd (cst (.int 1)) (ro 5)))))) (sSeq (sSetN 2 (b1 biLen (frz (eLC (its (ro 1)) [7] (gtN 7) (cmp2 cmLt (ro 7) (cst (.int 0))) (cst (.int 1)))))) (sSeq (sFor (itR (cst (.int 0)) (frz (b1 biLen (ro 1)))) (gtN 3) [3, 4] (sFor (itR (frz (op2 opAdd (ro 3) (cst (.int 1)))) (frz (b1 biLen (ro 1)))) (gtN 4) [4] (sAug 2 (frz (op2 opAdd (frz (b1 biInt (ofB (cmp2 cmGt (eIx (ro 1) (rd 3)) (eIx (ro 1) (rd 4)))))) (frz (b1 biInt (ofB (cmp2 cmLt (frz (op2 opAdd (eIx (ro 1) (rd 3)) (eIx (ro 1) (rd 4)))) (cst (.int 0))))))))))) (sRet (rd 2))))
def f_inversions : List D → Res D := runF 1 8 m_inversions
/-- law_k60_touching_journeys -/
def m_are_moves : Sx := sSeq (sIf (tOr' (tNot' (tru (eIsi isTuple (ro 0)))) (cmp2 cmGt (frz (b1 biLen (ro 0))) (ro 2))) (sRet (cst (.bl false))) sNil) (sRet (frz (b1 biAll (frz (eLC (its (ro 0)) [3] (gtN 3) tsYes (eAnd (eCall f_is_whole (aCons (rd 3) aNil)) (ofB (cmp3 cmLe cmLt (eNeg (cst (.int 1))) (ro 3) (frz (b2 biMax2 (frz (op2 opSub (ro 1) (cst (.int 1)))) (eIf (tru (ro 1)) (cst (.int 0)) (eNeg (cst (.int 1))))))))))))))
def f_are_moves : List D → Res D := runF 3 4 m_are_moves
/-- law_k62_touch_breaks_whole -/
def m__law_all_rows : Sx := sSeq (sSetN 2 (eLst (aCons (eTup aNil) aNil))) (sSeq (sFor (itR (cst (.int 0)) (rd 0)) (gtN 3) [3, 4, 5] (sSeq (sSetN 4 (eLst aNil)) (sSeq (sFrz [2] (sFor (its (rd 2)) (gtN 5) [5] (sSetN 4 (op2 opAdd (ro 4) (frz (eLC (itRC (cst (.int 0)) (rd 1)) [6] (gtN 6) tsYes (frz (op2 opAdd (ro 5) (eTup (aCons (rd 6) aNil)))))))))) (sFrz [4] (sSet 2 (rd 4)))))) (sFrz [2] (sRet (rd 2))))
def f__law_all_rows : List D → Res D := runF 2 7 m__law_all_rows
/-- law_k62_touch_breaks_whole -/
def m__law_move : Sx := sSeq (sIf (cmp2 cmLt (ro 3) (cst (.int 0))) (sRet (frz (op2 opAdd (eTup (aCons (eIx (ro 1) (eIx (ro 2) (cst (.int 0)))) aNil)) (frz (eSl (ro 2) (oSome (cst (.int 1))) oNone))))) sNil) (sRet (eCall f__law_pass (aCons (rd 0) (aCons (rd 2) (aCons (rd 3) aNil)))))
def f__law_move : List D → Res D := runF 4 4 m__law_move
/-- law_k62_touch_breaks_whole -/
def m_are_below : Sx := sSeq (sIf (tOr' (tNot' (tru (eIsi isTuple (ro 0)))) (cmp2 cmNe (frz (b1 biLen (ro 0))) (ro 1))) (sRet (cst (.bl false))) sNil) (sRet (frz (b1 biAll (frz (eLC (its (ro 0)) [3] (gtN 3) tsYes (eCall f_is_below (aCons (rd 3) (aCons (rd 2) aNil))))))))
def f_are_below : List D → Res D := runF 3 4 m_are_below
/-- law_k62_touch_breaks_whole -/
def m_behind_move : Sx := sSeq (sIf (cmp2 cmLt (ro 3) (cst (.int 0))) (sRet (eTup (aCons (eIx (ro 1) (eIx (ro 2) (cst (.int 0)))) (aStar (frz (eSl (ro 2) (oSome (cst (.int 1))) oNone)) aNil)))) sNil) (sRet (eCall f_behind_pass (aCons (rd 0) (aCons (rd 2) (aCons (rd 3) aNil)))))
def f_behind_move : List D → Res D := runF 4 4 m_behind_move
/-- law_k63_all_touches -/
def m__law_holds : Sx := sSeq (sFor (its (eCall f__law_all_rows (aCons (cst (.int 2)) (aCons (frz (b1 biLen (ro 0))) aNil)))) (gtN 2) [2, 3, 4, 5] (sSeq (sSet 3 (rd 2)) (sSeq (sSet 4 (rd 2)) (sSeq (sFor (itR (cst (.int 0)) (cst (.int 2))) (gtN 5) [5] (sSeq (sSet 3 (eCall f__law_move (aCons (rd 0) (aCons (rd 1) (aCons (eCall f__law_move (aCons (rd 0) (aCons (rd 1) (aCons (rd 3) (aCons (eNeg (cst (.int 1))) aNil))))) (aCons (cst (.int 0)) aNil)))))) (sSet 4 (eCall f__law_move (aCons (rd 0) (aCons (rd 1) (aCons (eCall f__law_move (aCons (rd 0) (aCons (rd 1) (aCons (rd 4) (aCons (cst (.int 0)) aNil))))) (aCons (eNeg (cst (.int 1))) aNil)))))))) (sIf (cmp2 cmNe (ro 3) (ro 4)) (sRet (cst (.bl false))) sNil))))) (sRet (cst (.bl true)))
def f__law_holds : List D → Res D := runF 2 6 m__law_holds
/-- law_k64_brace_break -/
def m__law_bent : Sx := sSeq (sSetN 2 (b1 biLen (eIx (ro 0) (cst (.int 0))))) (sSeq (sSetN 3 (op2 opMod (eIx (ro 1) (cst (.int 10))) (ro 2))) (sSeq (sSetN 4 (op2 opMod (eIx (ro 1) (cst (.int 11))) (ro 2))) (sSeq (sSetN 5 (op2 opMod (eIx (ro 1) (cst (.int 12))) (cst (.int 2)))) (sSeq (sSet 6 (eIx (ro 0) (rd 5))) (sSeq (sSetN 7 (op2 opAdd (frz (op2 opAdd (frz (eSl (eIx (ro 6) (rd 3)) oNone (oSome (rd 4)))) (eTup (aCons (frz (op2 opMod (frz (op2 opAdd (frz (op2 opAdd (eIx (eIx (ro 6) (rd 3)) (rd 4)) (cst (.int 1)))) (eIx (ro 1) (cst (.int 13))))) (ro 2))) aNil)))) (frz (eSl (eIx (ro 6) (rd 3)) (oSome (frz (op2 opAdd (ro 4) (cst (.int 1))))) oNone)))) (sSeq (sSetN 8 (op2 opAdd (frz (op2 opAdd (frz (eSl (ro 6) oNone (oSome (rd 3)))) (eTup (aCons (rd 7) aNil)))) (frz (eSl (ro 6) (oSome (frz (op2 opAdd (ro 3) (cst (.int 1))))) oNone)))) (sSeq (sSetN 9 (eLst (aCons (rd 0) (aCons (frz (eRev (ro 0))) (aCons (frz (eSl (ro 0) oNone (oSome (cst (.int 1))))) (aCons (frz (b1 biList (ro 0))) (aCons (eTup (aCons (frz (b1 biList (eIx (ro 0) (cst (.int 0))))) (aCons (eIx (ro 0) (cst (.int 1))) aNil))) (aCons (eTup (aCons (eIx (ro 0) (cst (.int 0))) (aCons (frz (eSl (eIx (ro 0) (cst (.int 1))) (oSome (cst (.int 1))) oNone)) aNil))) aNil)))))))) (sSeq (sSetN 9 (op2 opAdd (ro 9) (frz (eLst (aCons (eTup (aCons (eIx (ro 0) (cst (.int 0))) (aCons (eIx (ro 0) (cst (.int 1))) (aCons (eTup aNil) aNil)))) (aCons (cst .non) (aCons (cst (.int 7)) (aCons (eTup (aCons (eTup aNil) (aCons (eTup aNil) aNil))) (aCons (eTup (aCons (frz (eSl (eIx (ro 0) (cst (.int 0))) oNone (oSome (eNeg (cst (.int 1)))))) (aCons (frz (eSl (eIx (ro 0) (cst (.int 1))) oNone (oSome (eNeg (cst (.int 1)))))) aNil))) aNil))))))))) (sSeq (sApp 9 (eTup (aCons (rd 8) (aCons (eIx (ro 0) (cst (.int 1))) aNil)))) (sSeq (sApp 9 (eTup (aCons (eIx (ro 0) (cst (.int 0))) (aCons (rd 8) aNil)))) (sSeq (sApp 9 (eTup (aCons (eIx (ro 0) (cst (.int 0))) (aCons (frz (op2 opAdd (frz (op2 opAdd (frz (eSl (ro 6) oNone (oSome (rd 3)))) (eTup (aCons (frz (op2 opAdd (frz (op2 opAdd (frz (eSl (eIx (ro 6) (rd 3)) oNone (oSome (rd 4)))) (eTup (aCons (rd 2) aNil)))) (frz (eSl (eIx (ro 6) (rd 3)) (oSome (frz (op2 opAdd (ro 4) (cst (.int 1))))) oNone)))) aNil)))) (frz (eSl (ro 6) (oSome (frz (op2 opAdd (ro 3) (cst (.int 1))))) oNone)))) aNil)))) (sFrz [9] (sRet (rd 9))))))))))))))
def f__law_bent : List D → Res D := runF 2 10 m__law_bent
/-- law_k64_brace_break -/
def m__law_braces : Sx := sSeq (sSet 0 (eTup (aCons (eTup (aCons (cst (.int 0)) (aCons (cst (.int 1)) (aCons (cst (.int 2)) (aCons (cst (.int 3)) aNil))))) (aCons (eTup (aCons (cst (.int 1)) (aCons (cst (.int 0)) (aCons (cst (.int 3)) (aCons (cst (.int 2)) aNil))))) (aCons (eTup (aCons (cst (.int 2)) (aCons (cst (.int 3)) (aCons (cst (.int 0)) (aCons (cst (.int 1)) aNil))))) (aCons (eTup (aCons (cst (.int 3)) (aCons (cst (.int 2)) (aCons (cst (.int 1)) (aCons (cst (.int 0)) aNil))))) aNil)))))) (sSeq (sSetN 1 (b1 biTuple (frz (eLC (itRC (cst (.int 0)) (cst (.int 4))) [12] (gtN 12) tsYes (frz (b1 biTuple (frz (eLC (itRC (cst (.int 0)) (cst (.int 4))) [13] (gtN 13) tsYes (frz (op2 opMod (frz (op2 opAdd (ro 12) (ro 13))) (cst (.int 4)))))))))))) (sSeq (sSetN 2 (b1 biTuple (frz (eLC (itRC (cst (.int 0)) (cst (.int 4))) [12] (gtN 12) tsYes (frz (b1 biTuple (frz (eLC (itRC (cst (.int 0)) (cst (.int 4))) [13] (gtN 13) tsYes (frz (op2 opMod (frz (op2 opAdd (frz (op2 opAdd (ro 12) (ro 13))) (frz (op2 opMul (frz (op2 opMul (cst (.int 2)) (ro 12))) (ro 13))))) (cst (.int 4)))))))))))) (sSeq (sSet 3 (eTup (aCons (eTup (aCons (cst (.int 0)) (aCons (cst (.int 1)) (aCons (cst (.int 2)) (aCons (cst (.int 3)) aNil))))) (aCons (eTup (aCons (cst (.int 1)) (aCons (cst (.int 2)) (aCons (cst (.int 3)) (aCons (cst (.int 0)) aNil))))) (aCons (eTup (aCons (cst (.int 2)) (aCons (cst (.int 3)) (aCons (cst (.int 0)) (aCons (cst (.int 1)) aNil))))) (aCons (eTup (aCons (cst (.int 3)) (aCons (cst (.int 0)) (aCons (cst (.int 1)) (aCons (cst (.int 2)) aNil))))) aNil)))))) (sSeq (sSetN 4 (b1 biTuple (frz (eLC (itRC (cst (.int 0)) (cst (.int 3))) [12] (gtN 12) tsYes (frz (b1 biTuple (frz (eLC (itRC (cst (.int 0)) (cst (.int 3))) [13] (gtN 13) tsYes (frz (op2 opMod (frz (op2 opAdd (ro 12) (ro 13))) (cst (.int 3)))))))))))) (sSeq (sSetN 5 (b1 biTuple (frz (eLC (itRC (cst (.int 0)) (cst (.int 6))) [12] (gtN 12) tsYes (frz (b1 biTuple (frz (eLC (itRC (cst (.int 0)) (cst (.int 6))) [13] (gtN 13) tsYes (frz (op2 opMod (frz (op2 opAdd (ro 12) (ro 13))) (cst (.int 6)))))))))))) (sSeq (sSetN 6 (b1 biTuple (frz (eLC (itRC (cst (.int 0)) (cst (.int 6))) [12] (gtN 12) tsYes (frz (b1 biTuple (frz (eLC (itRC (cst (.int 0)) (cst (.int 6))) [13] (gtN 13) tsYes (frz (op2 opMod (frz (op2 opAdd (ro 12) (frz (op2 opMul (ro 13) (frz (op2 opAdd (cst (.int 1)) (frz (op2 opMul (frz (op2 opMod (ro 12) (cst (.int 2)))) (cst (.int 4)))))))))) (cst (.int 6)))))))))))) (sSeq (sSet 7 (eTup (aCons (eTup (aCons (cst (.int 0)) (aCons (cst (.int 1)) aNil))) (aCons (eTup (aCons (cst (.int 1)) (aCons (cst (.int 0)) aNil))) aNil)))) (sSeq (sSetN 8 (b1 biTuple (frz (eLC (itRC (cst (.int 0)) (cst (.int 9))) [12] (gtN 12) tsYes (frz (b1 biTuple (frz (eLC (itRC (cst (.int 0)) (cst (.int 9))) [13] (gtN 13) tsYes (frz (op2 opMod (frz (op2 opAdd (ro 12) (ro 13))) (cst (.int 9)))))))))))) (sSeq (sSetN 9 (b1 biTuple (frz (eLC (itRC (cst (.int 0)) (cst (.int 9))) [12] (gtN 12) tsYes (frz (b1 biTuple (frz (eLC (itRC (cst (.int 0)) (cst (.int 9))) [13] (gtN 13) tsYes (frz (op2 opMod (frz (op2 opAdd (frz (op2 opAdd (ro 12) (ro 13))) (frz (op2 opMul (frz (op2 opMul (cst (.int 3)) (ro 12))) (ro 13))))) (cst (.int 9)))))))))))) (sSeq (sSetN 10 (b1 biTuple (frz (eLC (itRC (cst (.int 0)) (cst (.int 8))) [12] (gtN 12) tsYes (frz (b1 biTuple (frz (eLC (itRC (cst (.int 0)) (cst (.int 8))) [13] (gtN 13) tsYes (frz (op2 opMod (frz (op2 opAdd (ro 12) (ro 13))) (cst (.int 8)))))))))))) (sSeq (sSetN 11 (b1 biTuple (frz (eLC (itRC (cst (.int 0)) (cst (.int 8))) [12] (gtN 12) tsYes (frz (b1 biTuple (frz (eLC (itRC (cst (.int 0)) (cst (.int 8))) [13] (gtN 13) tsYes (frz (op2 opMod (frz (op2 opAdd (frz (op2 opAdd (ro 12) (ro 13))) (frz (op2 opMul (frz (op2 opMul (cst (.int 2)) (ro 12))) (ro 13))))) (cst (.int 8)))))))))))) (sRet (frz (eLst (aCons (eTup (aCons (eTup (aCons (eTup (aCons (cst (.int 0)) aNil)) aNil)) (aCons (eTup (aCons (eTup (aCons (cst (.int 0)) aNil)) aNil)) aNil))) (aCons (eTup (aCons (rd 7) (aCons (rd 7) aNil))) (aCons (eTup (aCons (rd 4) (aCons (rd 4) aNil))) (aCons (eTup (aCons (rd 1) (aCons (rd 1) aNil))) (aCons (eTup (aCons (rd 1) (aCons (rd 2) aNil))) (aCons (eTup (aCons (rd 0) (aCons (rd 0) aNil))) (aCons (eTup (aCons (rd 1) (aCons (rd 3) aNil))) (aCons (eTup (aCons (rd 5) (aCons (rd 5) aNil))) (aCons (eTup (aCons (rd 5) (aCons (rd 6) aNil))) (aCons (eTup (aCons (rd 8) (aCons (rd 9) aNil))) (aCons (eTup (aCons (rd 10) (aCons (rd 11) aNil))) aNil)))))))))))))))))))))))))
def f__law_braces : List D → Res D := runF 0 14 m__law_braces
/-- law_k64_brace_break -/
def m__law_grids_renamed : Sx := sSeq (sSetN 2 (eLC (itRC (cst (.int 0)) (frz (b1 biLen (ro 1)))) [7] (gtN 7) tsYes (frz (eMeth isSq mIndex (ro 1) (aCons (rd 7) aNil))))) (sSeq (sSetN 3 (eLst aNil)) (sSeq (sFor (its (rd 0)) (gtN 4) [4, 5, 6] (sSeq (sSetN 5 (eLst aNil)) (sSeq (sFor (itR (cst (.int 0)) (frz (b1 biLen (ro 1)))) (gtN 6) [6] (sApp 5 (frz (b1 biTuple (frz (eLC (itRC (cst (.int 0)) (frz (b1 biLen (ro 1)))) [8] (gtN 8) tsYes (eIx (ro 1) (eIx (eIx (ro 4) (eIx (ro 2) (rd 6))) (eIx (ro 2) (rd 8)))))))))) (sApp 3 (frz (b1 biTuple (ro 5))))))) (sRet (frz (b1 biTuple (ro 3))))))
def f__law_grids_renamed : List D → Res D := runF 2 9 m__law_grids_renamed
/-- law_k64_brace_break -/
def m__law_brace : Sx := sSeq (sSet 1 (eCall f__law_braces aNil)) (sSeq (sSet 2 (eIx (ro 1) (frz (op2 opMod (eIx (ro 0) (cst (.int 0))) (frz (b1 biLen (ro 1))))))) (sSeq (sSetN 3 (op2 opAdd (eTup (aCons (cst (.int 0)) aNil)) (frz (b1 biTuple (frz (eLC (its (eCall f__law_order (aCons (rd 0) (aCons (cst (.int 1)) (aCons (frz (op2 opSub (frz (b1 biLen (eIx (ro 2) (cst (.int 0))))) (cst (.int 1)))) aNil))))) [4] (gtN 4) tsYes (frz (op2 opAdd (cst (.int 1)) (ro 4))))))))) (sRet (eCall f__law_grids_renamed (aCons (rd 2) (aCons (rd 3) aNil))))))
def f__law_brace : List D → Res D := runF 1 5 m__law_brace
/-- law_k64_brace_break -/
def m__law_group_at : Sx := sSeq (sIf (cmp2 cmNe (eIx (eIx (ro 0) (rd 1)) (eIx (eIx (ro 0) (rd 2)) (rd 3))) (eIx (eIx (ro 0) (eIx (eIx (ro 0) (rd 1)) (rd 2))) (rd 3))) (sRet (cst (.bl false))) sNil) (sRet (eAnd (ofB (cmp2 cmEq (eIx (eIx (ro 0) (cst (.int 0))) (rd 1)) (ro 1))) (ofB (cmp2 cmIn (cst (.int 0)) (eIx (ro 0) (rd 1))))))
def f__law_group_at : List D → Res D := runF 4 4 m__law_group_at
/-- law_k64_brace_break -/
def m__law_fault : Sx := sSeq (sIf (tOr' (tNot' (tru (eIsi isTuple (ro 0)))) (tOr' (cmp2 cmNe (frz (b1 biLen (ro 0))) (cst (.int 2))) (tNot' (tru (eIsi isTuple (eIx (ro 0) (cst (.int 0)))))))) (sRet (eTup (aCons (cst (.str "tables")) aNil))) sNil) (sSeq (sSetN 1 (b1 biLen (eIx (ro 0) (cst (.int 0))))) (sSeq (sIf (tOr' (cmp2 cmLt (ro 1) (cst (.int 1))) (cmp2 cmGt (ro 1) (cst (.int 24)))) (sRet (eTup (aCons (cst (.str "tables")) aNil))) sNil) (sSeq (sFor (its (rd 0)) (gtN 2) [2] (sSeq (sIf (tOr' (tNot' (tru (eIsi isTuple (ro 2)))) (cmp2 cmNe (frz (b1 biLen (ro 2))) (ro 1))) (sRet (eTup (aCons (cst (.str "tables")) aNil))) sNil) (sIf (cmp2 cmNe (frz (eLC (its (ro 2)) [9] (gtN 9) (tNot' (tru (eCall f__law_is_row (aCons (rd 9) (aCons (rd 1) (aCons (rd 1) aNil)))))) (rd 9))) (frz (eLst aNil))) (sRet (eTup (aCons (cst (.str "tables")) aNil))) sNil))) (sSeq (sAsg (gtT (gtCons (gtN 3) (gtCons (gtN 4) gtNil))) (rd 0)) (sSeq (sFor (its (eCall f__law_all_rows (aCons (cst (.int 3)) (aCons (rd 1) aNil)))) (gtT (gtCons (gtN 5) (gtCons (gtN 6) (gtCons (gtN 7) gtNil)))) [5, 6, 7] (sIf (tOr' (tNot' (tru (eCall f__law_group_at (aCons (rd 3) (aCons (rd 5) (aCons (rd 6) (aCons (rd 7) aNil))))))) (cmp2 cmNe (eIx (eIx (ro 3) (rd 5)) (rd 6)) (eIx (eIx (ro 3) (rd 6)) (rd 5)))) (sRet (eTup (aCons (cst (.str "sums")) (aCons (rd 5) (aCons (rd 6) (aCons (rd 7) aNil)))))) sNil)) (sSeq (sFor (its (eCall f__law_all_rows (aCons (cst (.int 3)) (aCons (rd 1) aNil)))) (gtT (gtCons (gtN 5) (gtCons (gtN 6) (gtCons (gtN 7) gtNil)))) [5, 6, 7] (sIf (tNot' (tru (eCall f__law_group_at (aCons (rd 4) (aCons (rd 5) (aCons (rd 6) (aCons (rd 7) aNil))))))) (sRet (eTup (aCons (cst (.str "times")) (aCons (rd 5) (aCons (rd 6) (aCons (rd 7) aNil)))))) sNil)) (sSeq (sFor (its (eCall f__law_all_rows (aCons (cst (.int 3)) (aCons (rd 1) aNil)))) (gtT (gtCons (gtN 5) (gtCons (gtN 6) (gtCons (gtN 7) gtNil)))) [5, 6, 7, 8] (sSeq (sSetN 8 (eMeth isSq mIndex (eIx (ro 3) (rd 5)) (aCons (cst (.int 0)) aNil))) (sIf (cmp2 cmNe (eIx (eIx (ro 4) (rd 5)) (eIx (eIx (ro 3) (rd 6)) (rd 7))) (eIx (eIx (ro 3) (eIx (eIx (ro 4) (rd 5)) (rd 6))) (eIx (eIx (ro 3) (rd 8)) (eIx (eIx (ro 4) (rd 5)) (rd 7))))) (sRet (eTup (aCons (cst (.str "both")) (aCons (rd 5) (aCons (rd 6) (aCons (rd 7) aNil)))))) sNil))) (sRet (cst .non)))))))))
def f__law_fault : List D → Res D := runF 1 10 m__law_fault
/-- law_k64_brace_break -/
def m_is_grid : Sx := sRet (eAnd (eIsi isTuple (ro 0)) (eAnd (ofB (cmp2 cmEq (frz (b1 biLen (ro 0))) (ro 1))) (frz (b1 biAll (frz (eLC (its (ro 0)) [2] (gtN 2) tsYes (eCall f_are_below (aCons (rd 2) (aCons (rd 1) (aCons (rd 1) aNil))))))))))
def f_is_grid : List D → Res D := runF 2 3 m_is_grid
/-- law_k64_brace_break -/
def m_are_grids : Sx := sSeq (sIf (tOr' (tNot' (tru (eIsi isTuple (ro 0)))) (tOr' (cmp2 cmNe (frz (b1 biLen (ro 0))) (cst (.int 2))) (tNot' (tru (eIsi isTuple (eIx (ro 0) (cst (.int 0)))))))) (sRet (cst (.bl false))) sNil) (sSeq (sSetN 1 (b1 biLen (eIx (ro 0) (cst (.int 0))))) (sRet (eAnd (ofB (cmp3 cmLe cmLe (cst (.int 1)) (ro 1) (cst (.int 24)))) (eAnd (eCall f_is_grid (aCons (eIx (ro 0) (cst (.int 0))) (aCons (rd 1) aNil))) (eCall f_is_grid (aCons (eIx (ro 0) (cst (.int 1))) (aCons (rd 1) aNil)))))))
def f_are_grids : List D → Res D := runF 1 2 m_are_grids
/-- law_k64_brace_break -/
def m_is_group_at : Sx := sRet (eAnd (ofB (cmp2 cmEq (eIx (eIx (ro 0) (rd 1)) (eIx (eIx (ro 0) (rd 2)) (rd 3))) (eIx (eIx (ro 0) (eIx (eIx (ro 0) (rd 1)) (rd 2))) (rd 3)))) (eAnd (ofB (cmp2 cmEq (eIx (eIx (ro 0) (cst (.int 0))) (rd 1)) (ro 1))) (ofB (cmp2 cmIn (cst (.int 0)) (eIx (ro 0) (rd 1))))))
def f_is_group_at : List D → Res D := runF 4 4 m_is_group_at
/-- law_k64_brace_break -/
def m_group_break : Sx := sSeq (sFor (its (eCall f_all_tuples (aCons (cst (.int 3)) (aCons (frz (b1 biLen (ro 0))) aNil)))) (gtT (gtCons (gtN 2) (gtCons (gtN 3) (gtCons (gtN 4) gtNil)))) [2, 3, 4] (sIf (tOr' (tNot' (tru (eCall f_is_group_at (aCons (rd 0) (aCons (rd 2) (aCons (rd 3) (aCons (rd 4) aNil))))))) (tAnd' (tru (ro 1)) (cmp2 cmNe (eIx (eIx (ro 0) (rd 2)) (rd 3)) (eIx (eIx (ro 0) (rd 3)) (rd 2))))) (sRet (eTup (aCons (rd 2) (aCons (rd 3) (aCons (rd 4) aNil))))) sNil)) (sRet (cst .non))
def f_group_break : List D → Res D := runF 2 5 m_group_break
/-- law_k64_brace_break -/
def m_minus : Sx := sRet (frz (eMeth isSq mIndex (eIx (ro 0) (rd 1)) (aCons (cst (.int 0)) aNil)))
def f_minus : List D → Res D := runF 2 2 m_minus
/-- law_k64_brace_break -/
def m_joint_break : Sx := sSeq (sAsg (gtT (gtCons (gtN 1) (gtCons (gtN 2) gtNil))) (rd 0)) (sSeq (sFor (its (eCall f_all_tuples (aCons (cst (.int 3)) (aCons (frz (b1 biLen (ro 1))) aNil)))) (gtT (gtCons (gtN 3) (gtCons (gtN 4) (gtCons (gtN 5) gtNil)))) [3, 4, 5] (sIf (cmp2 cmNe (eIx (eIx (ro 2) (rd 3)) (eIx (eIx (ro 1) (rd 4)) (rd 5))) (eIx (eIx (ro 1) (eIx (eIx (ro 2) (rd 3)) (rd 4))) (eIx (eIx (ro 1) (eCall f_minus (aCons (rd 1) (aCons (rd 3) aNil)))) (eIx (eIx (ro 2) (rd 3)) (rd 5))))) (sRet (eTup (aCons (rd 3) (aCons (rd 4) (aCons (rd 5) aNil))))) sNil)) (sRet (cst .non)))
def f_joint_break : List D → Res D := runF 1 6 m_joint_break
/-- law_k64_brace_break -/
def m_first_fault : Sx := sSeq (sIf (tNot' (tru (eCall f_are_grids (aCons (rd 0) aNil)))) (sRet (eTup (aCons (cst (.str "tables")) aNil))) sNil) (sSeq (sSet 1 (eCall f_group_break (aCons (eIx (ro 0) (cst (.int 0))) (aCons (cst (.bl true)) aNil)))) (sSeq (sIf (cmp2 cmIsNot (ro 1) (cst .non)) (sRet (eTup (aCons (cst (.str "sums")) (aStar (rd 1) aNil)))) sNil) (sSeq (sSet 1 (eCall f_group_break (aCons (eIx (ro 0) (cst (.int 1))) (aCons (cst (.bl false)) aNil)))) (sSeq (sIf (cmp2 cmIsNot (ro 1) (cst .non)) (sRet (eTup (aCons (cst (.str "times")) (aStar (rd 1) aNil)))) sNil) (sSeq (sSet 1 (eCall f_joint_break (aCons (rd 0) aNil))) (sRet (eIf (cmp2 cmIs (ro 1) (cst .non)) (cst .non) (eTup (aCons (cst (.str "both")) (aStar (rd 1) aNil))))))))))
def f_first_fault : List D → Res D := runF 1 2 m_first_fault
/-- law_k64_brace_break -/
def m_brace_break : Sx := sRet (eCall f_first_fault (aCons (rd 0) aNil))
def f_brace_break : List D → Res D := runF 1 1 m_brace_break
/-- law_k64_brace_break -/
def m_is_brace : Sx := sRet (ofB (cmp2 cmIs (eCall f_first_fault (aCons (rd 0) aNil)) (cst .non)))
def f_is_brace : List D → Res D := runF 1 1 m_is_brace
/-- law_k64_brace_break -/
def m_law_k64 : Sx := sSeq (sSet 1 (eCall f__law_numbers (aCons (rd 0) (aCons (cst (.int 0)) (aCons (cst (.int 30)) aNil))))) (sSeq (sFor (its (eCall f__law_bent (aCons (eCall f__law_brace (aCons (rd 1) aNil)) (aCons (rd 1) aNil)))) (gtN 2) [2, 3, 4] (sSeq (sSet 3 (eCall f__law_fault (aCons (rd 2) aNil))) (sSeq (sSet 4 (eCall f_brace_break (aCons (rd 2) aNil))) (sSeq (sIf (cmp2 cmIs (ro 3) (cst .non)) (sIf (cmp2 cmIsNot (ro 4) (cst .non)) (sRet (cst (.bl false))) sNil) (sIf (tOr' (tNot' (tru (eIsi isTuple (ro 4)))) (cmp2 cmNe (ro 4) (ro 3))) (sRet (cst (.bl false))) sNil)) (sIf (tNot' (tru (eCall f__law_says (aCons (eCall f_is_brace (aCons (rd 2) aNil)) (aCons (ofB (cmp2 cmIs (ro 3) (cst .non))) aNil))))) (sRet (cst (.bl false))) sNil))))) (sRet (cst (.bl true))))
def f_law_k64 : List D → Res D := runF 1 5 m_law_k64
/-- law_k65_brace_tables_whole -/
def m_deed_in : Sx := sSeq (sAsg (gtT (gtCons (gtN 2) (gtCons (gtN 3) gtNil))) (rd 0)) (sRet (frz (b1 biTuple (frz (eLC (itRC (cst (.int 0)) (frz (b1 biLen (ro 2)))) [4] (gtN 4) tsYes (eIx (eIx (ro 2) (eCall f_minus (aCons (rd 2) (aCons (rd 1) aNil)))) (eIx (eIx (ro 3) (rd 1)) (rd 4))))))))
def f_deed_in : List D → Res D := runF 2 5 m_deed_in
/-- law_k65_brace_tables_whole -/
def m__law_deed : Sx := sSeq (sAsg (gtT (gtCons (gtN 2) (gtCons (gtN 3) gtNil))) (rd 0)) (sSeq (sSetN 4 (eMeth isSq mIndex (eIx (ro 2) (rd 1)) (aCons (cst (.int 0)) aNil))) (sRet (frz (b1 biTuple (frz (eLC (itRC (cst (.int 0)) (frz (b1 biLen (ro 2)))) [5] (gtN 5) tsYes (eIx (eIx (ro 2) (rd 4)) (eIx (eIx (ro 3) (rd 1)) (rd 5)))))))))
def f__law_deed : List D → Res D := runF 2 6 m__law_deed
/-- law_k65_brace_tables_whole -/
def m_is_number_lot : Sx := sSeq (sSetN 2 (b1 biLen (eIx (ro 0) (cst (.int 0))))) (sRet (eAnd (eIsi isTuple (ro 1)) (eAnd (frz (b1 biAll (frz (eLC (its (ro 1)) [3] (gtN 3) tsYes (eCall f_is_below (aCons (rd 3) (aCons (rd 2) aNil))))))) (eCall f_is_ascending (aCons (rd 1) aNil)))))
def f_is_number_lot : List D → Res D := runF 2 4 m_is_number_lot
/-- law_k65_brace_tables_whole -/
def m_led_from : Sx := sSeq (sAsg (gtT (gtCons (gtN 2) (gtCons (gtN 3) gtNil))) (rd 0)) (sSeq (sSetN 4 (eLst (aCons (eCall f_minus (aCons (rd 2) (aCons (rd 1) aNil))) aNil))) (sSeq (sFor (itR (cst (.int 0)) (frz (b1 biLen (ro 2)))) (gtN 5) [5] (sSeq (sApp 4 (eIx (eIx (ro 2) (eCall f_minus (aCons (rd 2) (aCons (rd 5) aNil)))) (eIx (eIx (ro 3) (rd 5)) (rd 1)))) (sApp 4 (eIx (eIx (ro 3) (rd 5)) (eIx (eIx (ro 3) (rd 1)) (frz (eMeth isSq mIndex (eIx (ro 3) (rd 5)) (aCons (cst (.int 0)) aNil)))))))) (sFrz [4] (sRet (rd 4)))))
def f_led_from : List D → Res D := runF 2 6 m_led_from
/-- law_k65_brace_tables_whole -/
def m_is_ideal : Sx := sSeq (sIf (cmp2 cmNotIn (cst (.int 0)) (ro 1)) (sRet (cst (.bl false))) sNil) (sSeq (sFor (its (rd 1)) (gtN 2) [2] (sIf (tOr' (tNot' (tru (frz (b1 biAll (frz (eLC (its (ro 1)) [3] (gtN 3) tsYes (ofB (cmp2 cmIn (eIx (eIx (eIx (ro 0) (cst (.int 0))) (rd 2)) (rd 3)) (ro 1))))))))) (tNot' (tru (frz (b1 biAll (frz (eLC (its (eCall f_led_from (aCons (rd 0) (aCons (rd 2) aNil)))) [4] (gtN 4) tsYes (ofB (cmp2 cmIn (ro 4) (ro 1)))))))))) (sRet (cst (.bl false))) sNil)) (sRet (cst (.bl true))))
def f_is_ideal : List D → Res D := runF 2 5 m_is_ideal
/-- law_k66_turnings_brace_whole -/
def m_behind_one : Sx := sRet (frz (b1 biTuple (frz (eLC (its (ro 1)) [2] (gtN 2) tsYes (eIx (ro 0) (rd 2))))))
def f_behind_one : List D → Res D := runF 2 3 m_behind_one
/-- law_k66_turnings_brace_whole -/
def m_summed : Sx := sSeq (sSet 3 (rd 1)) (sSeq (sSet 4 (eTupR (cst (.int 0)) (eKinds (rd 0)))) (sSeq (sFor (its (rd 2)) (gtN 5) [5, 6] (sSeq (sSetN 6 (eMeth isSq mIndex (ro 3) (aCons (eIx (ro 4) (rd 5)) aNil))) (sSeq (sSet 3 (eCall f_behind_one (aCons (rd 3) (aCons (eCall f_turning_of (aCons (rd 0) (aCons (rd 6) aNil))) aNil)))) (sSet 4 (eCall f_behind_one (aCons (rd 4) (aCons (eCall f_turning_of (aCons (rd 0) (aCons (rd 5) aNil))) aNil))))))) (sRet (rd 3))))
def f_summed : List D → Res D := runF 3 7 m_summed
/-- law_k66_turnings_brace_whole -/
def m__law_note : Sx := sSeq (sSet 2 (eTupR (cst (.int 0)) (frz (b1 biLen (ro 0))))) (sSeq (sSetN 3 (op2 opMul (frz (eLst (aCons (cst (.int 0)) aNil))) (frz (b1 biLen (ro 0))))) (sSeq (sFor (its (rd 1)) (gtN 4) [4] (sSeq (sSetI 3 (eIx (ro 2) (rd 4)) (frz (op2 opAdd (eIx (ro 3) (eIx (ro 2) (rd 4))) (cst (.int 1))))) (sSet 2 (eCall f__law_behind (aCons (rd 2) (aCons (eIx (ro 0) (rd 4)) aNil)))))) (sRet (frz (b1 biTuple (ro 3))))))
def f__law_note : List D → Res D := runF 2 5 m__law_note
/-- law_k66_turnings_brace_whole -/
def m__law_turned : Sx := sSeq (sSet 2 (eTupR (cst (.int 0)) (frz (b1 biLen (ro 0))))) (sSeq (sFor (its (rd 1)) (gtN 3) [3] (sSet 2 (eCall f__law_behind (aCons (rd 2) (aCons (eIx (ro 0) (rd 3)) aNil))))) (sRet (rd 2)))
def f__law_turned : List D → Res D := runF 2 4 m__law_turned
/-- law_k66_turnings_brace_whole -/
def m__law_of_note : Sx := sSeq (sSet 2 (eTupR (cst (.int 0)) (frz (b1 biLen (ro 0))))) (sSeq (sFor (itR (cst (.int 0)) (frz (b1 biLen (ro 1)))) (gtN 3) [3, 4] (sFor (itR (cst (.int 0)) (eIx (ro 1) (rd 3))) (gtN 4) [4] (sSet 2 (eCall f__law_behind (aCons (rd 2) (aCons (eIx (ro 0) (frz (eMeth isSq mIndex (ro 2) (aCons (rd 3) aNil)))) aNil)))))) (sRet (rd 2)))
def f__law_of_note : List D → Res D := runF 2 5 m__law_of_note
/-- law_k67_ideals_whole -/
def m__law_all_lots : Sx := sSeq (sSetN 1 (eLst (aCons (eTup aNil) aNil))) (sSeq (sFor (itR (cst (.int 0)) (rd 0)) (gtN 2) [2] (sSetN 1 (op2 opAdd (ro 1) (frz (eLC (its (ro 1)) [3] (gtN 3) tsYes (frz (op2 opAdd (ro 3) (eTup (aCons (rd 2) aNil))))))))) (sFrz [1] (sRet (rd 1))))
def f__law_all_lots : List D → Res D := runF 1 4 m__law_all_lots
/-- law_k67_ideals_whole -/
def m__law_is_ideal : Sx := sSeq (sAsg (gtT (gtCons (gtN 2) (gtCons (gtN 3) gtNil))) (rd 0)) (sSeq (sIf (cmp2 cmNotIn (cst (.int 0)) (ro 1)) (sRet (cst (.bl false))) sNil) (sSeq (sFor (its (rd 1)) (gtN 4) [4, 5] (sSeq (sIf (tOr' (cmp2 cmNotIn (frz (eMeth isSq mIndex (eIx (ro 2) (rd 4)) (aCons (cst (.int 0)) aNil))) (ro 1)) (cmp2 cmNe (frz (eLC (its (ro 1)) [6] (gtN 6) (cmp2 cmNotIn (eIx (eIx (ro 2) (rd 4)) (rd 6)) (ro 1)) (rd 6))) (frz (eLst aNil)))) (sRet (cst (.bl false))) sNil) (sFor (itR (cst (.int 0)) (frz (b1 biLen (ro 2)))) (gtN 5) [5] (sIf (tOr' (cmp2 cmNotIn (eIx (eCall f__law_deed (aCons (rd 0) (aCons (rd 5) aNil))) (rd 4)) (ro 1)) (cmp2 cmNotIn (eIx (eIx (ro 3) (eIx (eIx (ro 3) (rd 5)) (rd 4))) (frz (eMeth isSq mIndex (eIx (ro 3) (rd 5)) (aCons (cst (.int 0)) aNil)))) (ro 1))) (sRet (cst (.bl false))) sNil)))) (sRet (cst (.bl true)))))
def f__law_is_ideal : List D → Res D := runF 2 7 m__law_is_ideal
/-- law_k67_ideals_whole -/
def m__law_without : Sx := sSeq (sSet 2 (eIx (ro 0) (cst (.int 0)))) (sSeq (sSetN 3 (eLst aNil)) (sSeq (sSetN 4 (eLst aNil)) (sSeq (sFor (itR (cst (.int 0)) (frz (b1 biLen (ro 2)))) (gtN 5) [6] (sSeq (sSetN 6 (eLC (itRC (cst (.int 0)) (frz (b1 biLen (ro 3)))) [9] (gtN 9) (cmp2 cmIn (eIx (eIx (ro 2) (frz (eMeth isSq mIndex (eIx (ro 2) (eIx (ro 3) (rd 9))) (aCons (cst (.int 0)) aNil)))) (rd 5)) (ro 1)) (rd 9))) (sSeq (sIf (cmp2 cmEq (ro 6) (frz (eLst aNil))) (sSeq (sSetN 6 (eLst (aCons (frz (b1 biLen (ro 3))) aNil))) (sApp 3 (rd 5))) sNil) (sApp 4 (eIx (ro 6) (cst (.int 0))))))) (sSeq (sSetN 7 (eLst aNil)) (sSeq (sFor (its (rd 0)) (gtN 8) [8] (sApp 7 (frz (b1 biTuple (frz (eLC (its (ro 3)) [5] (gtN 5) tsYes (frz (b1 biTuple (frz (eLC (its (ro 3)) [10] (gtN 10) tsYes (eIx (ro 4) (eIx (eIx (ro 8) (rd 5)) (rd 10))))))))))))) (sRet (frz (b1 biTuple (ro 7)))))))))
def f__law_without : List D → Res D := runF 2 11 m__law_without
/-- law_k69_tables_put_together -/
def m_joined_turnings : Sx := sSeq (sSet 4 (eKinds (rd 0))) (sSeq (sSetN 6 (b1 biTuple (frz (eLC (its (ro 3)) [5] (gtN 5) tsYes (frz (op2 opAdd (ro 4) (ro 5))))))) (sSeq (sSetN 7 (eLC (itRC (cst (.int 0)) (rd 4)) [5] (gtN 5) tsYes (eTup (aStar (eCall f_turning_of (aCons (rd 0) (aCons (rd 5) aNil))) (aStar (rd 6) aNil))))) (sSeq (sFor (itR (cst (.int 0)) (eKinds (rd 1))) (gtN 5) [5] (sApp 7 (eTup (aStar (rd 2) (aStar (frz (eLC (its (eCall f_turning_of (aCons (rd 1) (aCons (rd 5) aNil)))) [8] (gtN 8) tsYes (frz (op2 opAdd (ro 4) (ro 8))))) aNil))))) (sRet (frz (b1 biTuple (ro 7)))))))
def f_joined_turnings : List D → Res D := runF 4 9 m_joined_turnings
/-- law_k69_tables_put_together -/
def m_rows_renamed : Sx := sSeq (sSetN 2 (b1 biLen (ro 0))) (sSeq (sSetN 3 (eLC (itRC (cst (.int 0)) (rd 2)) [7] (gtN 7) tsYes (frz (eMeth isSq mIndex (ro 1) (aCons (rd 7) aNil))))) (sSeq (sSetN 4 (eLst aNil)) (sSeq (sFor (itR (cst (.int 0)) (rd 2)) (gtN 5) [5, 6] (sSeq (sSetN 6 (eLC (itRC (cst (.int 0)) (rd 2)) [8] (gtN 8) tsYes (eIx (eIx (ro 0) (eIx (ro 3) (rd 5))) (eIx (ro 3) (rd 8))))) (sApp 4 (frz (b1 biTuple (frz (eLC (its (ro 6)) [9, 10] (gtT (gtCons (gtN 9) (gtCons (gtN 10) gtNil))) tsYes (eTup (aCons (eIx (ro 1) (rd 9)) (aCons (eIx (ro 1) (rd 10)) aNil)))))))))) (sRet (frz (b1 biTuple (ro 4)))))))
def f_rows_renamed : List D → Res D := runF 2 11 m_rows_renamed
/-- law_k69_tables_put_together -/
def m__law_all_orders : Sx := sSeq (sSetN 1 (eLst (aCons (eTup aNil) aNil))) (sSeq (sFor (itR (cst (.int 0)) (rd 0)) (gtN 2) [2, 3, 4] (sSeq (sSetN 3 (eLst aNil)) (sSeq (sFrz [1] (sFor (its (rd 1)) (gtN 4) [4] (sSetN 3 (op2 opAdd (ro 3) (frz (eLC (itRC (cst (.int 0)) (rd 0)) [5] (gtN 5) (cmp2 cmNotIn (ro 5) (ro 4)) (frz (op2 opAdd (ro 4) (eTup (aCons (rd 5) aNil)))))))))) (sFrz [3] (sSet 1 (rd 3)))))) (sFrz [1] (sRet (rd 1))))
def f__law_all_orders : List D → Res D := runF 1 6 m__law_all_orders
/-- law_k71_cabled_whole -/
def m__law_cabled : Sx := sSeq (sSetN 2 (eLst aNil)) (sSeq (sFor (itR (cst (.int 0)) (frz (b1 biLen (ro 0)))) (gtN 3) [3, 4] (sSeq (sSetN 4 (op2 opMul (frz (eLst (aCons (cst (.int 0)) aNil))) (frz (b1 biLen (ro 0))))) (sSeq (sSetI 4 (rd 3) (rd 1)) (sFrz [4] (sApp 2 (eCall f__law_of_note (aCons (rd 0) (aCons (rd 4) aNil)))))))) (sRet (frz (b1 biTuple (ro 2)))))
def f__law_cabled : List D → Res D := runF 2 5 m__law_cabled
/-- law_k71_cabled_whole -/
def m_turning_of_many : Sx := sSeq (sSet 3 (eTupR (cst (.int 0)) (eKinds (rd 0)))) (sSeq (sFor (itR (cst (.int 0)) (rd 2)) (gtN 4) [4] (sSet 3 (eCall f_behind_one (aCons (rd 3) (aCons (eCall f_turning_of (aCons (rd 0) (aCons (frz (eMeth isSq mIndex (ro 3) (aCons (rd 1) aNil))) aNil))) aNil))))) (sRet (rd 3)))
def f_turning_of_many : List D → Res D := runF 3 5 m_turning_of_many
/-- law_k72_renamed_and_alike -/
def m__law_table_rows : Sx := sSeq (sIf (cmp2 cmEq (frz (op2 opMod (eIx (ro 0) (cst (.int 0))) (cst (.int 3)))) (cst (.int 0))) (sRet (eCall f__law_any_rows (aCons (rd 0) (aCons (frz (op2 opAdd (cst (.int 1)) (frz (op2 opMod (eIx (ro 0) (cst (.int 1))) (cst (.int 5)))))) aNil)))) sNil) (sRet (eCall f__law_rows (aCons (eCall f__law_clear (aCons (frz (eSl (ro 0) (oSome (cst (.int 1))) oNone)) aNil)) aNil)))
def f__law_table_rows : List D → Res D := runF 1 1 m__law_table_rows
/-- law_k72_renamed_and_alike -/
def m__law_rows_renamed : Sx := sSeq (sSetN 2 (eLC (itRC (cst (.int 0)) (frz (b1 biLen (ro 1)))) [6] (gtN 6) tsYes (frz (eMeth isSq mIndex (ro 1) (aCons (rd 6) aNil))))) (sSeq (sSetN 3 (eLst aNil)) (sSeq (sFor (itR (cst (.int 0)) (frz (b1 biLen (ro 1)))) (gtN 4) [4, 5] (sSeq (sSetN 5 (eLC (itRC (cst (.int 0)) (frz (b1 biLen (ro 1)))) [7] (gtN 7) tsYes (eIx (eIx (ro 0) (eIx (ro 2) (rd 4))) (eIx (ro 2) (rd 7))))) (sApp 3 (frz (b1 biTuple (frz (eLC (its (ro 5)) [8, 9] (gtT (gtCons (gtN 8) (gtCons (gtN 9) gtNil))) tsYes (eTup (aCons (eIx (ro 1) (rd 8)) (aCons (eIx (ro 1) (rd 9)) aNil)))))))))) (sRet (frz (b1 biTuple (ro 3))))))
def f__law_rows_renamed : List D → Res D := runF 2 10 m__law_rows_renamed
/-- law_k72_renamed_and_alike -/
def m_orders_of : Sx := sSeq (sSetN 1 (eLst (aCons (eTup aNil) aNil))) (sSeq (sFor (itR (cst (.int 0)) (rd 0)) (gtN 2) [2] (sSetN 1 (eLC2 (its (ro 1)) [3, 4] (gtN 3) (itR (cst (.int 0)) (rd 0)) [4] (gtN 4) (cmp2 cmNotIn (ro 4) (ro 3)) (eTup (aStar (rd 3) (aCons (rd 4) aNil)))))) (sFrz [1] (sRet (rd 1))))
def f_orders_of : List D → Res D := runF 1 5 m_orders_of
/-- law_k72_renamed_and_alike -/
def m_alike_tables : Sx := sSeq (sIf (cmp2 cmNe (eKinds (rd 0)) (eKinds (rd 1))) (sRet (cst .non)) sNil) (sSeq (sFor (its (eCall f_orders_of (aCons (eKinds (rd 0)) aNil))) (gtN 2) [2] (sIf (cmp2 cmEq (eCall f_rows_renamed (aCons (eRows (rd 0)) (aCons (rd 2) aNil))) (eRows (rd 1))) (sRet (rd 2)) sNil)) (sRet (cst .non)))
def f_alike_tables : List D → Res D := runF 2 3 m_alike_tables
/-- law_k73_normal_tables -/
def m_turns_of_table : Sx := sRet (frz (b1 biTuple (frz (eLC (its (eCall f_orders_of (aCons (eKinds (rd 0)) aNil))) [1] (gtN 1) (cmp2 cmEq (eCall f_rows_renamed (aCons (eRows (rd 0)) (aCons (rd 1) aNil))) (eRows (rd 0))) (rd 1)))))
def f_turns_of_table : List D → Res D := runF 1 2 m_turns_of_table
/-- law_k74_censuses_whole -/
def m_is_turned_alike : Sx := sRet (frz (b1 biAll (frz (eLC (itRC (cst (.int 0)) (frz (b1 biLen (eIx (ro 0) (rd 1))))) [5] (gtN 5) tsYes (ofB (cmp2 cmEq (eIx (eIx (ro 0) (rd 1)) (eIx (eIx (ro 0) (rd 2)) (rd 5))) (eIx (eIx (ro 0) (rd 3)) (eIx (eIx (ro 0) (rd 4)) (rd 5)))))))))
def f_is_turned_alike : List D → Res D := runF 5 6 m_is_turned_alike
/-- law_k74_censuses_whole -/
def m_goes_so_far : Sx := sSeq (sSetN 1 (b1 biLen (ro 0))) (sSeq (sFor (its (eCall f_all_tuples (aCons (cst (.int 2)) (aCons (rd 1) aNil)))) (gtT (gtCons (gtN 2) (gtCons (gtN 3) gtNil))) [2, 3, 4, 5] (sSeq (sSet 4 (eIx (eIx (ro 0) (rd 2)) (rd 3))) (sIf (cmp2 cmLt (ro 4) (ro 1)) (sSeq (sSetN 5 (eMeth isSq mIndex (eIx (ro 0) (rd 4)) (aCons (rd 2) aNil))) (sIf (tAnd' (cmp2 cmLt (ro 5) (ro 1)) (tNot' (tru (eCall f_is_turned_alike (aCons (rd 0) (aCons (rd 2) (aCons (rd 3) (aCons (rd 4) (aCons (rd 5) aNil))))))))) (sRet (cst (.bl false))) sNil)) sNil))) (sRet (cst (.bl true))))
def f_goes_so_far : List D → Res D := runF 1 6 m_goes_so_far
/-- law_k74_censuses_whole -/
def m__law_is_fair : Sx := sSeq (sFor (its (eCall f__law_all_rows (aCons (cst (.int 3)) (aCons (frz (b1 biLen (ro 0))) aNil)))) (gtN 1) [1, 2, 3] (sSeq (sSet 2 (eCall f__law_pass (aCons (rd 0) (aCons (eCall f__law_pass (aCons (rd 0) (aCons (eCall f__law_pass (aCons (rd 0) (aCons (rd 1) (aCons (cst (.int 0)) aNil)))) (aCons (cst (.int 1)) aNil)))) (aCons (cst (.int 0)) aNil))))) (sSeq (sSet 3 (eCall f__law_pass (aCons (rd 0) (aCons (eCall f__law_pass (aCons (rd 0) (aCons (eCall f__law_pass (aCons (rd 0) (aCons (rd 1) (aCons (cst (.int 1)) aNil)))) (aCons (cst (.int 0)) aNil)))) (aCons (cst (.int 1)) aNil))))) (sIf (cmp2 cmNe (ro 2) (ro 3)) (sRet (cst (.bl false))) sNil)))) (sRet (cst (.bl true)))
def f__law_is_fair : List D → Res D := runF 1 4 m__law_is_fair
/-- law_k74_censuses_whole -/
def m__law_turnings_of : Sx := sRet (frz (b1 biTuple (frz (eLC (its (ro 0)) [1] (gtN 1) tsYes (frz (b1 biTuple (frz (eLC (its (ro 1)) [2] (gtN 2) tsYes (eIx (ro 2) (cst (.int 0)))))))))))
def f__law_turnings_of : List D → Res D := runF 1 3 m__law_turnings_of
end Sim

/-! Ev: plain evaluation. -/
namespace Sim
open PySem L2
theorem smI_nat (n : Nat) (h : n < 1000000000) : smI (n : Int) = true := by
  unfold smI
  rw [Bool.and_eq_true]
  exact ⟨decide_eq_true (Int.lt_of_lt_of_le (by decide) (Int.natCast_nonneg n)), decide_eq_true (Int.lt_trans (Int.ofNat_lt.mpr h) (by decide))⟩
theorem smI_lit (i : Int) (h1 : 0 ≤ i) (h2 : i < 1000000000) : smI i = true := by
  unfold smI
  rw [Bool.and_eq_true]
  exact ⟨decide_eq_true (Int.lt_of_lt_of_le (by decide) h1), decide_eq_true (Int.lt_trans h2 (by decide))⟩
theorem smP1015 : smP 10 15 = true := by
  unfold smP
  decide
theorem isInt_non  : isInt (.non) = .ok false := rfl
theorem isInt_bl (b : Bool) : isInt (.bl b) = .ok true := rfl
theorem isInt_int (i : Int) : isInt (.int i) = .ok true := rfl
theorem isInt_str (x : Str) : isInt (.str x) = .ok false := rfl
theorem isInt_tup (xs : List D) : isInt (.tup xs) = .ok false := rfl
theorem isInt_lst (xs : List D) : isInt (.lst xs) = .ok false := rfl
theorem isBool_non  : isBool (.non) = .ok false := rfl
theorem isBool_bl (b : Bool) : isBool (.bl b) = .ok true := rfl
theorem isBool_int (i : Int) : isBool (.int i) = .ok false := rfl
theorem isBool_str (x : Str) : isBool (.str x) = .ok false := rfl
theorem isBool_tup (xs : List D) : isBool (.tup xs) = .ok false := rfl
theorem isBool_lst (xs : List D) : isBool (.lst xs) = .ok false := rfl
theorem isTuple_non  : isTuple (.non) = .ok false := rfl
theorem isTuple_bl (b : Bool) : isTuple (.bl b) = .ok false := rfl
theorem isTuple_int (i : Int) : isTuple (.int i) = .ok false := rfl
theorem isTuple_str (x : Str) : isTuple (.str x) = .ok false := rfl
theorem isTuple_tup (xs : List D) : isTuple (.tup xs) = .ok true := rfl
theorem isTuple_lst (xs : List D) : isTuple (.lst xs) = .ok false := rfl
theorem isStr_non  : isStr (.non) = .ok false := rfl
theorem isStr_bl (b : Bool) : isStr (.bl b) = .ok false := rfl
theorem isStr_int (i : Int) : isStr (.int i) = .ok false := rfl
theorem isStr_str (x : Str) : isStr (.str x) = .ok true := rfl
theorem isStr_tup (xs : List D) : isStr (.tup xs) = .ok false := rfl
theorem isStr_lst (xs : List D) : isStr (.lst xs) = .ok false := rfl
theorem biLen_tup (xs : List D) : biLen (.tup xs) = .ok (.val (.int xs.length)) := rfl
theorem biTuple_tup (xs : List D) : biTuple (.tup xs) = .ok (.val (.tup xs)) := rfl
theorem biList_tup (xs : List D) : biList (.tup xs) = .ok (.own (.lst xs)) := rfl
theorem itD_tup (xs : List D) : itD (.tup xs) = .ok xs := rfl
theorem truD_tup (xs : List D) : truD (.tup xs) = .ok (!xs.isEmpty) := rfl
theorem biLen_lst (xs : List D) : biLen (.lst xs) = .ok (.val (.int xs.length)) := rfl
theorem biTuple_lst (xs : List D) : biTuple (.lst xs) = .ok (.val (.tup xs)) := rfl
theorem biList_lst (xs : List D) : biList (.lst xs) = .ok (.own (.lst xs)) := rfl
theorem itD_lst (xs : List D) : itD (.lst xs) = .ok xs := rfl
theorem truD_lst (xs : List D) : truD (.lst xs) = .ok (!xs.isEmpty) := rfl
theorem biLen_scr (ns : List Int) : biLen (.scr ns) = .ok (.val (.int ns.length)) := rfl
theorem biLen_dI (ns : List (Int × D)) : biLen (.dI ns) = .ok (.val (.int ns.length)) := rfl
theorem biLen_dT (ns : List (List Int × D)) : biLen (.dT ns) = .ok (.val (.int ns.length)) := rfl
theorem truD_non  : truD (.non) = .ok false := rfl
theorem truD_bl (b : Bool) : truD (.bl b) = .ok b := rfl
theorem truD_int (i : Int) : truD (.int i) = .ok (i != 0) := rfl
theorem asB_bl (b : Bool) : asB (.bl b) = .ok b := rfl
theorem isNon_non  : isNon (.non) = true := rfl
theorem isNon_bl (b : Bool) : isNon (.bl b) = false := rfl
theorem isNon_int (i : Int) : isNon (.int i) = false := rfl
theorem isNon_str (x : Str) : isNon (.str x) = false := rfl
theorem isNon_tup (xs : List D) : isNon (.tup xs) = false := rfl
theorem isNon_lst (xs : List D) : isNon (.lst xs) = false := rfl
theorem isSq_tup (xs : List D) : isSq (.tup xs) = true := rfl
theorem isSq_lst (xs : List D) : isSq (.lst xs) = true := rfl
theorem noExc_ok {α : Type} (d : α) : noExc (.ok d : Res α) = .ok d := rfl
theorem noExc_err {α : Type} (e : Err) : noExc (.error e : Res α) = stk := rfl
theorem ok_bind {α β : Type} (a : α) (f : α → Res β) : ((Except.ok a : Res α) >>= f) = f a := rfl
theorem err_bind {α β : Type} (e : Err) (f : α → Res β) : ((Except.error e : Res α) >>= f) = .error e := rfl
theorem atI_nat {α : Type} (xs : List α) (k : Nat) : atI xs (k : Int) = xs[k]? := by
  unfold atI ixN
  by_cases h : k < xs.length
  · rw [if_pos (by omega), if_pos (by omega)]
    simp
  · rw [if_pos (by omega), if_neg (by omega), List.getElem?_eq_none (by omega)]
    rfl
/-- one turn that goes on -/
def goOn (kill : List Nat) : Fl × Nv → Res Nv
  | (.nx, ρ) => .ok (wipeN ρ kill)
  | (.ct, ρ) => .ok (wipeN ρ kill)
  | _ => stk
def turn (gt : D → Nv → Res Nv) (kill : List Nat) (m : Sx) (d : D) (ρ : Nv) : Res Nv := gt d ρ >>= fun ρ1 => m ρ1 >>= fun r => goOn kill r
theorem turn_ok {gt : D → Nv → Res Nv} {kill : List Nat} {m : Sx} {d : D} {ρ ρ' : Nv} (h : turn gt kill m d ρ = .ok ρ') (ds : List D) : forGo gt kill m (d :: ds) ρ = forGo gt kill m ds ρ' := by
  unfold turn at h
  rw [forGo]
  cases hg : gt d ρ with
  | error e => rw [hg] at h; cases h
  | ok ρ1 =>
    rw [hg] at h
    have h : (m ρ1 >>= fun r => goOn kill r) = Except.ok ρ' := h
    cases hm : m ρ1 with
    | error e => rw [hm] at h; cases h
    | ok r =>
      rw [hm] at h
      obtain ⟨f, ρ2⟩ := r
      have h : goOn kill (f, ρ2) = Except.ok ρ' := h
      show (m ρ1 >>= fun r => forK kill (forGo gt kill m ds) r) = _
      rw [hm]
      cases f with
      | nx => cases h; rfl
      | ct => cases h; rfl
      | bk => cases h
      | rt d => cases h
/-- a loop by an invariant -/
theorem forGo_inv {gt : D → Nv → Res Nv} {kill : List Nat} {m : Sx} (I : Nat → Nv → Prop) : ∀ (ds : List D) (ρ : Nv) (i0 : Nat), I i0 ρ →
    (∀ (j : Nat) (d : D) (ρ : Nv), ds[j]? = some d → I (i0 + j) ρ → ∃ ρ', turn gt kill m d ρ = .ok ρ' ∧ I (i0 + j + 1) ρ') → ∃ ρ', forGo gt kill m ds ρ = .ok (.nx, ρ') ∧ I (i0 + ds.length) ρ'
  | [], ρ, i0, h, _ => ⟨ρ, rfl, h⟩
  | d :: ds, ρ, i0, h, st => by
    obtain ⟨ρ1, h1, h3⟩ := st 0 d ρ rfl h
    obtain ⟨ρ', h4, h5⟩ := forGo_inv I ds ρ1 (i0 + 1) h3 fun j d' ρ' e hj => by
      have := st (j + 1) d' ρ' (by simpa using e) (by rw [show i0 + (j + 1) = i0 + 1 + j by omega]; exact hj)
      rw [show i0 + (j + 1) + 1 = i0 + 1 + j + 1 by omega] at this
      exact this
    exact ⟨ρ', by rw [turn_ok h1]; exact h4, by rw [List.length_cons, show i0 + (ds.length + 1) = i0 + 1 + ds.length by omega]; exact h5⟩
theorem forGo_inv0 {gt : D → Nv → Res Nv} {kill : List Nat} {m : Sx} (I : Nat → Nv → Prop) (ds : List D) (ρ : Nv) (h : I 0 ρ)
    (st : ∀ (j : Nat) (d : D) (ρ : Nv), ds[j]? = some d → I j ρ → ∃ ρ', turn gt kill m d ρ = .ok ρ' ∧ I (j + 1) ρ') : ∃ ρ', forGo gt kill m ds ρ = .ok (.nx, ρ') ∧ I ds.length ρ' := by
  have := forGo_inv I ds ρ 0 h fun j d ρ e hj => by
    rw [show 0 + j = j by omega] at hj ⊢
    exact st j d ρ e hj
  rw [show 0 + ds.length = ds.length by omega] at this
  exact this
theorem rgD_get {n j : Nat} {d : D} (h : (rgD 0 (n : Int))[j]? = some d) : d = .int (j : Nat) ∧ j < n := by
  unfold rgD at h
  rw [List.getElem?_map] at h
  cases z : (List.range ((n : Int) - 0).toNat)[j]? with
  | none => rw [z] at h; cases h
  | some m =>
    rw [z] at h
    obtain ⟨h1, h2⟩ := List.getElem?_eq_some_iff.mp z
    rw [List.getElem_range] at h2
    subst h2
    cases h
    rw [List.length_range] at h1
    exact ⟨by simp, by omega⟩
theorem rgD_len (n : Nat) : (rgD 0 (n : Int)).length = n := by rw [rgD_length]; omega
theorem rngF_nat {n : Nat} (h : n ≤ 1000000) : rngF 0 (n : Int) = true := by
  unfold rngF
  simp only [Bool.and_eq_true, decide_eq_true_eq]
  omega
theorem rgOk_nat {n : Nat} (h : n ≤ 1000000) : rgOk 0 (n : Int) = true := by
  unfold rgOk lim
  simp only [Bool.and_eq_true, decide_eq_true_eq]
  omega
theorem cell_ev (ns : List Int) (k : Nat) : f__law_cell [.scr ns, .int k] = .ok (.int (ns.getD k 0)) := by
  unfold f__law_cell m__law_cell
  by_cases h : k < ns.length
  · have h' : (k : Int) < (ns.length : Int) := by omega
    simp (implicitDefEqProofs := false) [isInt_non, isInt_bl, isInt_int, isInt_str, isInt_tup, isInt_lst, isBool_non, isBool_bl, isBool_int, isBool_str, isBool_tup, isBool_lst, isTuple_non, isTuple_bl, isTuple_int, isTuple_str, isTuple_tup, isTuple_lst, isStr_non, isStr_bl, isStr_int, isStr_str, isStr_tup, isStr_lst, biLen_tup, biTuple_tup, biList_tup, itD_tup, truD_tup, biLen_lst, biTuple_lst, biList_lst, itD_lst, truD_lst, biLen_scr, biLen_dI, biLen_dT, truD_non, truD_bl, truD_int, asB_bl, isNon_non, isNon_bl, isNon_int, isNon_str, isNon_tup, isNon_lst, runF, endF, sSeq, thenS, sSet, sSetN, sRet, sIf, sExpr, sNil, sPass, sCont, sFrz, sKill, eCall, aCons, aNil, aStar, rd, ro, cst, frz, op2, cmp2, cmp3, ofB, eAnd, eOr, eNot, eNeg, eIf, tAnd', tOr', tNot', tru, eTup, eLst, eIx, eSl, oNone, oSome, b1, b2, eIsi, noExc_ok, noExc_err, biAbs, biInt, opAdd, opSub, opMul, smI_lit, opPow, smP1015, Bool.or_true, Bool.true_or, opDiv, opMod, cmLt, cmLe, cmGt, cmGe, cmInt, cmIs, cmIsNot, itR, itRC, rgM, rgMC, its, gtN, gtT, gtCons, gtNil, sAsg, sApp, appM, isOwnL, sFor, freeze1, wipeN, eListR, eTupR, eMeth, isSq_tup, isSq_lst, eRev, ok_bind, err_bind, List.map_cons, List.map_nil, List.length_cons, List.length_nil, List.cons_append, List.nil_append, List.replicate_succ, List.replicate_zero, List.getElem?_cons_zero, List.getElem?_cons_succ, List.set_cons_zero, List.set_cons_succ, List.foldl_cons, List.foldl_nil, if_true, if_false, ite_true, ite_false, reduceIte, reduceCtorEq, Int.reduceLT, Int.reduceLE, Int.reducePow, Int.reduceToNat, Nat.reducePow, Nat.reduceLT, Nat.reduceLeDiff, Int.reduceAdd, Int.reduceSub, Int.reduceMul, Int.reduceNeg, Nat.reduceAdd, Nat.reduceSub, Int.reduceEq, Nat.reduceEqDiff, decide_true, decide_false, and_self, Bool.and_self, Bool.and_true, Bool.true_and, and_true, true_and, Nat.zero_le, Bool.not_true, Bool.not_false, Bool.false_eq_true, decide_eq_true_eq, goOn, turn, h', ixD, atI_nat, List.getElem?_eq_getElem h, List.getD_eq_getElem?_getD]
  · have h' : ¬ (k : Int) < (ns.length : Int) := by omega
    simp (implicitDefEqProofs := false) [isInt_non, isInt_bl, isInt_int, isInt_str, isInt_tup, isInt_lst, isBool_non, isBool_bl, isBool_int, isBool_str, isBool_tup, isBool_lst, isTuple_non, isTuple_bl, isTuple_int, isTuple_str, isTuple_tup, isTuple_lst, isStr_non, isStr_bl, isStr_int, isStr_str, isStr_tup, isStr_lst, biLen_tup, biTuple_tup, biList_tup, itD_tup, truD_tup, biLen_lst, biTuple_lst, biList_lst, itD_lst, truD_lst, biLen_scr, biLen_dI, biLen_dT, truD_non, truD_bl, truD_int, asB_bl, isNon_non, isNon_bl, isNon_int, isNon_str, isNon_tup, isNon_lst, runF, endF, sSeq, thenS, sSet, sSetN, sRet, sIf, sExpr, sNil, sPass, sCont, sFrz, sKill, eCall, aCons, aNil, aStar, rd, ro, cst, frz, op2, cmp2, cmp3, ofB, eAnd, eOr, eNot, eNeg, eIf, tAnd', tOr', tNot', tru, eTup, eLst, eIx, eSl, oNone, oSome, b1, b2, eIsi, noExc_ok, noExc_err, biAbs, biInt, opAdd, opSub, opMul, smI_lit, opPow, smP1015, Bool.or_true, Bool.true_or, opDiv, opMod, cmLt, cmLe, cmGt, cmGe, cmInt, cmIs, cmIsNot, itR, itRC, rgM, rgMC, its, gtN, gtT, gtCons, gtNil, sAsg, sApp, appM, isOwnL, sFor, freeze1, wipeN, eListR, eTupR, eMeth, isSq_tup, isSq_lst, eRev, ok_bind, err_bind, List.map_cons, List.map_nil, List.length_cons, List.length_nil, List.cons_append, List.nil_append, List.replicate_succ, List.replicate_zero, List.getElem?_cons_zero, List.getElem?_cons_succ, List.set_cons_zero, List.set_cons_succ, List.foldl_cons, List.foldl_nil, if_true, if_false, ite_true, ite_false, reduceIte, reduceCtorEq, Int.reduceLT, Int.reduceLE, Int.reducePow, Int.reduceToNat, Nat.reducePow, Nat.reduceLT, Nat.reduceLeDiff, Int.reduceAdd, Int.reduceSub, Int.reduceMul, Int.reduceNeg, Nat.reduceAdd, Nat.reduceSub, Int.reduceEq, Nat.reduceEqDiff, decide_true, decide_false, and_self, Bool.and_self, Bool.and_true, Bool.true_and, and_true, true_and, Nat.zero_le, Bool.not_true, Bool.not_false, Bool.false_eq_true, decide_eq_true_eq, goOn, turn, h', h, List.getD_eq_getElem?_getD]
/-- a list of naturals -/
def nats (l : List Nat) : List D := l.map fun x => .int (x : Nat)
theorem nats_len (l : List Nat) : (nats l).length = l.length := by unfold nats; simp
theorem nats_snoc (l : List Nat) (x : Nat) : nats l ++ [.int (x : Nat)] = nats (l ++ [x]) := by unfold nats; simp
theorem seed_int (c a : Nat) : ∃ s : Nat, s < 1000003 ∧ (((c : Int) + 12345 * (a : Int) + 7) % 1000003) = (s : Int) := ⟨(c + 12345 * a + 7) % 1000003, Nat.mod_lt _ (by omega), by omega⟩
def sdN (c : Nat) : Nat := (c * 48271 + 12345) % 1000003
theorem sdN_lt (c : Nat) : sdN c < 1000003 := Nat.mod_lt _ (by omega)
theorem sdN_int (c : Nat) : (((c : Int) * 48271 + 12345) % 1000003) = ((sdN c : Nat) : Int) := by unfold sdN; omega
def tkN (c : Nat) : Nat := c / 7 % 840
theorem tkN_lt (c : Nat) : tkN c < 840 := Nat.mod_lt _ (by omega)
theorem tkN_int (c : Nat) : ((c : Int) / 7 % 840) = ((tkN c : Nat) : Int) := by unfold tkN; omega
def lowN (c : Nat) : Nat := c % 840
theorem lowN_lt (c : Nat) : lowN c < 840 := Nat.mod_lt _ (by omega)
theorem lowN_int (c : Nat) : ((c : Int) % 840) = ((lowN c : Nat) : Int) := by unfold lowN; omega
theorem div840_int (c : Nat) : ((c : Int) / 840) = ((c / 840 : Nat) : Int) := by omega
theorem snoc_lt {l : List Nat} {x b : Nat} (h : ∀ y ∈ l, y < b) (hx : x < b) : ∀ y ∈ l ++ [x], y < b := fun y hy => by
  rcases List.mem_append.mp hy with h1 | h1
  · exact h y h1
  · rw [List.mem_singleton] at h1; rw [h1]; exact hx
theorem numbers_a (ns : List Int) (at_ many c : Nat) (h2 : many ≤ 1000000) : ∃ (l : List Nat) (c' : Nat), l.length = many ∧ (∀ x ∈ l, x < 840) ∧
    forGo (gtN 5) [5] (sSeq (sApp 4 (frz (op2 opMod (ro 3) (cst (.int 840))))) (sSetN 3 (op2 opDiv (ro 3) (cst (.int 840))))) (rgD 0 (many : Int)) [some (.val (.scr ns)), some (.val (.int at_)), some (.val (.int many)), some (.val (.int c)), some (.own (.lst [])), none, none] =
      .ok (.nx, [some (.val (.scr ns)), some (.val (.int at_)), some (.val (.int many)), some (.val (.int c')), some (.own (.lst (nats l))), none, none]) := by
  obtain ⟨ρ', g1, l, c', g2, g3, g4⟩ := forGo_inv0 (gt := gtN 5) (kill := [5]) (m := (sSeq (sApp 4 (frz (op2 opMod (ro 3) (cst (.int 840))))) (sSetN 3 (op2 opDiv (ro 3) (cst (.int 840))))))
      (fun j ρ => ∃ (l : List Nat) (c' : Nat), l.length = j ∧ (∀ x ∈ l, x < 840) ∧ ρ = [some (.val (.scr ns)), some (.val (.int at_)), some (.val (.int many)), some (.val (.int c')), some (.own (.lst (nats l))), none, none]) (rgD 0 (many : Int)) [some (.val (.scr ns)), some (.val (.int at_)), some (.val (.int many)), some (.val (.int c)), some (.own (.lst [])), none, none] ⟨[], c, rfl, by simp, rfl⟩
      (fun j d ρ e ⟨l, c', g1, g2, g3⟩ => by
        obtain ⟨rfl, hj⟩ := rgD_get e
        subst g3
        have hl : (nats l).length < lim := by rw [nats_len]; unfold lim; omega
        refine ⟨[some (.val (.scr ns)), some (.val (.int at_)), some (.val (.int many)), some (.val (.int (c' / 840 : Nat))), some (.own (.lst (nats (l ++ [lowN c'])))), none, none], ?_, l ++ [lowN c'], c' / 840, by simp [g1], snoc_lt g2 (lowN_lt _), rfl⟩
        simp (implicitDefEqProofs := false) only [isInt_non, isInt_bl, isInt_int, isInt_str, isInt_tup, isInt_lst, isBool_non, isBool_bl, isBool_int, isBool_str, isBool_tup, isBool_lst, isTuple_non, isTuple_bl, isTuple_int, isTuple_str, isTuple_tup, isTuple_lst, isStr_non, isStr_bl, isStr_int, isStr_str, isStr_tup, isStr_lst, biLen_tup, biTuple_tup, biList_tup, itD_tup, truD_tup, biLen_lst, biTuple_lst, biList_lst, itD_lst, truD_lst, biLen_scr, biLen_dI, biLen_dT, truD_non, truD_bl, truD_int, asB_bl, isNon_non, isNon_bl, isNon_int, isNon_str, isNon_tup, isNon_lst, runF, endF, sSeq, thenS, sSet, sSetN, sRet, sIf, sExpr, sNil, sPass, sCont, sFrz, sKill, eCall, aCons, aNil, aStar, rd, ro, cst, frz, op2, cmp2, cmp3, ofB, eAnd, eOr, eNot, eNeg, eIf, tAnd', tOr', tNot', tru, eTup, eLst, eIx, eSl, oNone, oSome, b1, b2, eIsi, noExc_ok, noExc_err, biAbs, biInt, opAdd, opSub, opMul, smI_lit, opPow, smP1015, Bool.or_true, Bool.true_or, opDiv, opMod, cmLt, cmLe, cmGt, cmGe, cmInt, cmIs, cmIsNot, itR, itRC, rgM, rgMC, its, gtN, gtT, gtCons, gtNil, sAsg, sApp, appM, isOwnL, sFor, freeze1, wipeN, eListR, eTupR, eMeth, isSq_tup, isSq_lst, eRev, ok_bind, err_bind, List.map_cons, List.map_nil, List.length_cons, List.length_nil, List.cons_append, List.nil_append, List.replicate_succ, List.replicate_zero, List.getElem?_cons_zero, List.getElem?_cons_succ, List.set_cons_zero, List.set_cons_succ, List.foldl_cons, List.foldl_nil, if_true, if_false, ite_true, ite_false, reduceIte, reduceCtorEq, Int.reduceLT, Int.reduceLE, Int.reducePow, Int.reduceToNat, Nat.reducePow, Nat.reduceLT, Nat.reduceLeDiff, Int.reduceAdd, Int.reduceSub, Int.reduceMul, Int.reduceNeg, Nat.reduceAdd, Nat.reduceSub, Int.reduceEq, Nat.reduceEqDiff, decide_true, decide_false, and_self, Bool.and_self, Bool.and_true, Bool.true_and, and_true, true_and, Nat.zero_le, Bool.not_true, Bool.not_false, Bool.false_eq_true, decide_eq_true_eq, goOn, turn, hl, lowN_int, div840_int, nats_snoc])
  subst g4
  exact ⟨l, c', by rw [g2, rgD_len], g3, g1⟩
theorem numbers_b (ns : List Int) (at_ many c s : Nat) (h2 : many ≤ 1000000) (hs : s < 1000003) : ∃ (l : List Nat) (c' : Nat), l.length = many ∧ (∀ x ∈ l, x < 840) ∧
    forGo (gtN 5) [5] (sSeq (sSetN 6 (op2 opMod (frz (op2 opAdd (frz (op2 opMul (ro 6) (cst (.int 48271)))) (cst (.int 12345)))) (cst (.int 1000003)))) (sApp 4 (frz (op2 opMod (frz (op2 opDiv (ro 6) (cst (.int 7)))) (cst (.int 840)))))) (rgD 0 (many : Int)) [some (.val (.scr ns)), some (.val (.int at_)), some (.val (.int many)), some (.val (.int c)), some (.own (.lst [])), none, some (.val (.int s))] =
      .ok (.nx, [some (.val (.scr ns)), some (.val (.int at_)), some (.val (.int many)), some (.val (.int c)), some (.own (.lst (nats l))), none, some (.val (.int c'))]) := by
  obtain ⟨ρ', g1, l, c', g2, g3, gc, g4⟩ := forGo_inv0 (gt := gtN 5) (kill := [5]) (m := (sSeq (sSetN 6 (op2 opMod (frz (op2 opAdd (frz (op2 opMul (ro 6) (cst (.int 48271)))) (cst (.int 12345)))) (cst (.int 1000003)))) (sApp 4 (frz (op2 opMod (frz (op2 opDiv (ro 6) (cst (.int 7)))) (cst (.int 840)))))))
      (fun j ρ => ∃ (l : List Nat) (c' : Nat), l.length = j ∧ (∀ x ∈ l, x < 840) ∧ c' < 1000003 ∧ ρ = [some (.val (.scr ns)), some (.val (.int at_)), some (.val (.int many)), some (.val (.int c)), some (.own (.lst (nats l))), none, some (.val (.int c'))]) (rgD 0 (many : Int)) [some (.val (.scr ns)), some (.val (.int at_)), some (.val (.int many)), some (.val (.int c)), some (.own (.lst [])), none, some (.val (.int s))] ⟨[], s, rfl, by simp, hs, rfl⟩
      (fun j d ρ e ⟨l, c', g1, g2, gc, g3⟩ => by
        obtain ⟨rfl, hj⟩ := rgD_get e
        subst g3
        have hl : (nats l).length < lim := by rw [nats_len]; unfold lim; omega
        refine ⟨[some (.val (.scr ns)), some (.val (.int at_)), some (.val (.int many)), some (.val (.int c)), some (.own (.lst (nats (l ++ [tkN (sdN c')])))), none, some (.val (.int (sdN c' : Nat)))], ?_, l ++ [tkN (sdN c')], sdN c', by simp [g1], snoc_lt g2 (tkN_lt _), sdN_lt _, rfl⟩
        simp (implicitDefEqProofs := false) only [isInt_non, isInt_bl, isInt_int, isInt_str, isInt_tup, isInt_lst, isBool_non, isBool_bl, isBool_int, isBool_str, isBool_tup, isBool_lst, isTuple_non, isTuple_bl, isTuple_int, isTuple_str, isTuple_tup, isTuple_lst, isStr_non, isStr_bl, isStr_int, isStr_str, isStr_tup, isStr_lst, biLen_tup, biTuple_tup, biList_tup, itD_tup, truD_tup, biLen_lst, biTuple_lst, biList_lst, itD_lst, truD_lst, biLen_scr, biLen_dI, biLen_dT, truD_non, truD_bl, truD_int, asB_bl, isNon_non, isNon_bl, isNon_int, isNon_str, isNon_tup, isNon_lst, runF, endF, sSeq, thenS, sSet, sSetN, sRet, sIf, sExpr, sNil, sPass, sCont, sFrz, sKill, eCall, aCons, aNil, aStar, rd, ro, cst, frz, op2, cmp2, cmp3, ofB, eAnd, eOr, eNot, eNeg, eIf, tAnd', tOr', tNot', tru, eTup, eLst, eIx, eSl, oNone, oSome, b1, b2, eIsi, noExc_ok, noExc_err, biAbs, biInt, opAdd, opSub, opMul, smI_lit, opPow, smP1015, Bool.or_true, Bool.true_or, opDiv, opMod, cmLt, cmLe, cmGt, cmGe, cmInt, cmIs, cmIsNot, itR, itRC, rgM, rgMC, its, gtN, gtT, gtCons, gtNil, sAsg, sApp, appM, isOwnL, sFor, freeze1, wipeN, eListR, eTupR, eMeth, isSq_tup, isSq_lst, eRev, ok_bind, err_bind, List.map_cons, List.map_nil, List.length_cons, List.length_nil, List.cons_append, List.nil_append, List.replicate_succ, List.replicate_zero, List.getElem?_cons_zero, List.getElem?_cons_succ, List.set_cons_zero, List.set_cons_succ, List.foldl_cons, List.foldl_nil, if_true, if_false, ite_true, ite_false, reduceIte, reduceCtorEq, Int.reduceLT, Int.reduceLE, Int.reducePow, Int.reduceToNat, Nat.reducePow, Nat.reduceLT, Nat.reduceLeDiff, Int.reduceAdd, Int.reduceSub, Int.reduceMul, Int.reduceNeg, Nat.reduceAdd, Nat.reduceSub, Int.reduceEq, Nat.reduceEqDiff, decide_true, decide_false, and_self, Bool.and_self, Bool.and_true, Bool.true_and, and_true, true_and, Nat.zero_le, Bool.not_true, Bool.not_false, Bool.false_eq_true, decide_eq_true_eq, goOn, turn, hl, sdN_int, tkN_int, nats_snoc])
  subst g4
  exact ⟨l, c', by rw [g2, rgD_len], g3, g1⟩
theorem numbers_ev (ns : List Int) (at_ many : Nat) (h1 : at_ ≤ 100000) (h2 : many ≤ 1000000) : ∃ l : List Nat, l.length = many ∧ (∀ x ∈ l, x < 840) ∧ f__law_numbers [.scr ns, .int at_, .int many] = .ok (.lst (nats l)) := by
  have hF := rngF_nat h2
  obtain ⟨c, hc⟩ : ∃ c : Nat, (if ns.getD at_ 0 < 0 then -(ns.getD at_ 0) else ns.getD at_ 0) = (c : Int) := ⟨(if ns.getD at_ 0 < 0 then -(ns.getD at_ 0) else ns.getD at_ 0).toNat, by split <;> omega⟩
  unfold f__law_numbers m__law_numbers
  by_cases hb : (1000000000000000 : Int) ≤ (c : Int)
  · obtain ⟨l, c', g2, g3, g1⟩ := numbers_a ns at_ many c h2
    refine ⟨l, g2, g3, ?_⟩
    simp (implicitDefEqProofs := false) only [isInt_non, isInt_bl, isInt_int, isInt_str, isInt_tup, isInt_lst, isBool_non, isBool_bl, isBool_int, isBool_str, isBool_tup, isBool_lst, isTuple_non, isTuple_bl, isTuple_int, isTuple_str, isTuple_tup, isTuple_lst, isStr_non, isStr_bl, isStr_int, isStr_str, isStr_tup, isStr_lst, biLen_tup, biTuple_tup, biList_tup, itD_tup, truD_tup, biLen_lst, biTuple_lst, biList_lst, itD_lst, truD_lst, biLen_scr, biLen_dI, biLen_dT, truD_non, truD_bl, truD_int, asB_bl, isNon_non, isNon_bl, isNon_int, isNon_str, isNon_tup, isNon_lst, runF, endF, sSeq, thenS, sSet, sSetN, sRet, sIf, sExpr, sNil, sPass, sCont, sFrz, sKill, eCall, aCons, aNil, aStar, rd, ro, cst, frz, op2, cmp2, cmp3, ofB, eAnd, eOr, eNot, eNeg, eIf, tAnd', tOr', tNot', tru, eTup, eLst, eIx, eSl, oNone, oSome, b1, b2, eIsi, noExc_ok, noExc_err, biAbs, biInt, opAdd, opSub, opMul, smI_lit, opPow, smP1015, Bool.or_true, Bool.true_or, opDiv, opMod, cmLt, cmLe, cmGt, cmGe, cmInt, cmIs, cmIsNot, itR, itRC, rgM, rgMC, its, gtN, gtT, gtCons, gtNil, sAsg, sApp, appM, isOwnL, sFor, freeze1, wipeN, eListR, eTupR, eMeth, isSq_tup, isSq_lst, eRev, ok_bind, err_bind, List.map_cons, List.map_nil, List.length_cons, List.length_nil, List.cons_append, List.nil_append, List.replicate_succ, List.replicate_zero, List.getElem?_cons_zero, List.getElem?_cons_succ, List.set_cons_zero, List.set_cons_succ, List.foldl_cons, List.foldl_nil, if_true, if_false, ite_true, ite_false, reduceIte, reduceCtorEq, Int.reduceLT, Int.reduceLE, Int.reducePow, Int.reduceToNat, Nat.reducePow, Nat.reduceLT, Nat.reduceLeDiff, Int.reduceAdd, Int.reduceSub, Int.reduceMul, Int.reduceNeg, Nat.reduceAdd, Nat.reduceSub, Int.reduceEq, Nat.reduceEqDiff, decide_true, decide_false, and_self, Bool.and_self, Bool.and_true, Bool.true_and, and_true, true_and, Nat.zero_le, Bool.not_true, Bool.not_false, Bool.false_eq_true, decide_eq_true_eq, goOn, turn, cell_ev, hc, hb, hF, g1]
  · obtain ⟨s, hs, e0⟩ := seed_int c at_
    obtain ⟨l, c', g2, g3, g1⟩ := numbers_b ns at_ many c s h2 hs
    refine ⟨l, g2, g3, ?_⟩
    simp (implicitDefEqProofs := false) only [isInt_non, isInt_bl, isInt_int, isInt_str, isInt_tup, isInt_lst, isBool_non, isBool_bl, isBool_int, isBool_str, isBool_tup, isBool_lst, isTuple_non, isTuple_bl, isTuple_int, isTuple_str, isTuple_tup, isTuple_lst, isStr_non, isStr_bl, isStr_int, isStr_str, isStr_tup, isStr_lst, biLen_tup, biTuple_tup, biList_tup, itD_tup, truD_tup, biLen_lst, biTuple_lst, biList_lst, itD_lst, truD_lst, biLen_scr, biLen_dI, biLen_dT, truD_non, truD_bl, truD_int, asB_bl, isNon_non, isNon_bl, isNon_int, isNon_str, isNon_tup, isNon_lst, runF, endF, sSeq, thenS, sSet, sSetN, sRet, sIf, sExpr, sNil, sPass, sCont, sFrz, sKill, eCall, aCons, aNil, aStar, rd, ro, cst, frz, op2, cmp2, cmp3, ofB, eAnd, eOr, eNot, eNeg, eIf, tAnd', tOr', tNot', tru, eTup, eLst, eIx, eSl, oNone, oSome, b1, b2, eIsi, noExc_ok, noExc_err, biAbs, biInt, opAdd, opSub, opMul, smI_lit, opPow, smP1015, Bool.or_true, Bool.true_or, opDiv, opMod, cmLt, cmLe, cmGt, cmGe, cmInt, cmIs, cmIsNot, itR, itRC, rgM, rgMC, its, gtN, gtT, gtCons, gtNil, sAsg, sApp, appM, isOwnL, sFor, freeze1, wipeN, eListR, eTupR, eMeth, isSq_tup, isSq_lst, eRev, ok_bind, err_bind, List.map_cons, List.map_nil, List.length_cons, List.length_nil, List.cons_append, List.nil_append, List.replicate_succ, List.replicate_zero, List.getElem?_cons_zero, List.getElem?_cons_succ, List.set_cons_zero, List.set_cons_succ, List.foldl_cons, List.foldl_nil, if_true, if_false, ite_true, ite_false, reduceIte, reduceCtorEq, Int.reduceLT, Int.reduceLE, Int.reducePow, Int.reduceToNat, Nat.reducePow, Nat.reduceLT, Nat.reduceLeDiff, Int.reduceAdd, Int.reduceSub, Int.reduceMul, Int.reduceNeg, Nat.reduceAdd, Nat.reduceSub, Int.reduceEq, Nat.reduceEqDiff, decide_true, decide_false, and_self, Bool.and_self, Bool.and_true, Bool.true_and, and_true, true_and, Nat.zero_le, Bool.not_true, Bool.not_false, Bool.false_eq_true, decide_eq_true_eq, goOn, turn, cell_ev, hc, hb, hF, e0, g1]
end Sim

namespace Sim
open PySem L2
theorem addC (a b : Nat) : ((a : Int) + (b : Int)) = ((a + b : Nat) : Int) := by omega
theorem add1C (a : Nat) : ((a : Int) + 1) = ((a + 1 : Nat) : Int) := by omega
theorem add1C' (a : Nat) : (1 + (a : Int)) = ((1 + a : Nat) : Int) := by omega
theorem modC (a b : Nat) : ((a : Int) % (b : Int)) = ((a % b : Nat) : Int) := (Int.natCast_emod a b).symm
theorem divC (a b : Nat) : ((a : Int) / (b : Int)) = ((a / b : Nat) : Int) := (Int.natCast_ediv a b).symm
theorem nats_get {l : List Nat} {k : Nat} (h : k < l.length) : (nats l)[k]? = some (.int ((l[k] : Nat) : Int)) := by unfold nats; simp [h]
theorem ix_nats {l : List Nat} {k : Nat} (h : k < l.length) : ixD (.lst (nats l)) (.int (k : Nat)) = .ok (.int ((l[k] : Nat) : Int)) := by
  simp only [ixD, atI_nat, nats_get h]
theorem ix_natsT {l : List Nat} {k : Nat} (h : k < l.length) : ixD (.tup (nats l)) (.int (k : Nat)) = .ok (.int ((l[k] : Nat) : Int)) := by
  simp only [ixD, atI_nat, nats_get h]
theorem ixN_nat {n k : Nat} (h : k < n) : ixN n (k : Int) = some k := by
  unfold ixN
  rw [if_pos (by omega), if_pos (by omega)]
  simp
theorem smL0_nat (k : Nat) (h : k < 1000000000) : smL 0 (k : Int) = true := by
  unfold smL
  rw [Bool.and_eq_true, Bool.and_eq_true]
  refine ⟨⟨decide_eq_true (Int.lt_of_lt_of_le (by decide) (Int.natCast_nonneg k) |> Int.le_of_lt), decide_eq_true (Int.lt_trans (Int.ofNat_lt.mpr h) (by decide))⟩, decide_eq_true (by simp)⟩
theorem rgD_nats (n : Nat) : rgD 0 (n : Int) = nats (List.range n) := by
  unfold rgD nats
  rw [show ((n : Int) - 0).toNat = n by omega]
  simp
theorem nats_erase : ∀ (l : List Nat) (k : Nat), (nats l).eraseIdx k = nats (l.eraseIdx k)
  | [], _ => rfl
  | _ :: _, 0 => rfl
  | x :: l, k + 1 => congrArg (D.int (x : Nat) :: ·) (nats_erase l k)
theorem erase_perm : ∀ {L : List Nat} {i : Nat} (hi : i < L.length), (L[i] :: L.eraseIdx i).Perm L
  | x :: L, 0, _ => .refl _
  | x :: L, i + 1, hi => by
    have ih := erase_perm (L := L) (i := i) (by simpa using hi)
    have e : (x :: L)[i + 1] = L[i]'(by simpa using hi) := rfl
    rw [e, List.eraseIdx_cons_succ]
    exact (List.Perm.swap x _ _).trans (ih.cons x)
theorem perm_step {T L : List Nat} {R : List Nat} {i : Nat} (hi : i < L.length) (h : (T ++ L).Perm R) : ((T ++ [L[i]]) ++ L.eraseIdx i).Perm R := by
  refine List.Perm.trans ?_ h
  rw [List.append_assoc]
  refine List.Perm.append_left T ?_
  exact erase_perm hi
theorem order_ev (l : List Nat) (at_ many : Nat) (hl : 0 < l.length) (hl2 : l.length < 1000) (hm : many ≤ 1000) :
    ∃ p : List Nat, p.Perm (List.range many) ∧ f__law_order [.lst (nats l), .int at_, .int many] = .ok (.tup (nats p)) := by
  obtain ⟨ρ', g1, T, L, g2, g3, g4⟩ := forGo_inv0 (gt := gtN 5) (kill := [5]) (m := sAppPop 4 3 (frz (op2 opMod (frz (op2 opDiv (eIx (ro 0) (frz (op2 opMod (frz (op2 opAdd (ro 1) (ro 5))) (frz (b1 biLen (ro 0)))))) (frz (op2 opAdd (ro 5) (cst (.int 1)))))) (frz (b1 biLen (ro 3))))))
    (fun j ρ => ∃ T L : List Nat, T.length = j ∧ (T ++ L).Perm (List.range many) ∧ ρ = [some (.val (.lst (nats l))), some (.val (.int at_)), some (.val (.int many)), some (.own (.lst (nats L))), some (.own (.lst (nats T))), none])
    (rgD 0 (many : Int)) [some (.val (.lst (nats l))), some (.val (.int at_)), some (.val (.int many)), some (.own (.lst (nats (List.range many)))), some (.own (.lst (nats []))), none] ⟨[], List.range many, rfl, by simp, rfl⟩
    (fun j d ρ e ⟨T, L, g1, g2, g3⟩ => by
      obtain ⟨rfl, hj⟩ := rgD_get e
      subst g3
      have hlen := g2.length_eq
      rw [List.length_append, List.length_range] at hlen
      have hL : 0 < L.length := by omega
      have hk : (at_ + j) % l.length < l.length := Nat.mod_lt _ hl
      have hi : l[(at_ + j) % l.length] / (j + 1) % L.length < L.length := Nat.mod_lt _ hL
      refine ⟨[some (.val (.lst (nats l))), some (.val (.int at_)), some (.val (.int many)), some (.own (.lst (nats (L.eraseIdx (l[(at_ + j) % l.length] / (j + 1) % L.length))))), some (.own (.lst (nats (T ++ [L[l[(at_ + j) % l.length] / (j + 1) % L.length]])))), none], ?_, T ++ [L[l[(at_ + j) % l.length] / (j + 1) % L.length]], _, by simp [g1], perm_step hi g2, rfl⟩
      have c1 : (0 : Int) < (l.length : Int) := by omega
      have c2 : (0 : Int) < ((j + 1 : Nat) : Int) := by omega
      have c3 : ((j + 1 : Nat) : Int) < 1073741824 := by omega
      have c4 : (0 : Int) < (L.length : Int) := by omega
      have c5 : T.length < lim := by unfold lim; omega
      have c6 := smL0_nat (l[(at_ + j) % l.length] / (j + 1) % L.length) (by omega)
      simp (implicitDefEqProofs := false) only [isInt_non, isInt_bl, isInt_int, isInt_str, isInt_tup, isInt_lst, isBool_non, isBool_bl, isBool_int, isBool_str, isBool_tup, isBool_lst, isTuple_non, isTuple_bl, isTuple_int, isTuple_str, isTuple_tup, isTuple_lst, isStr_non, isStr_bl, isStr_int, isStr_str, isStr_tup, isStr_lst, biLen_tup, biTuple_tup, biList_tup, itD_tup, truD_tup, biLen_lst, biTuple_lst, biList_lst, itD_lst, truD_lst, biLen_scr, biLen_dI, biLen_dT, truD_non, truD_bl, truD_int, asB_bl, isNon_non, isNon_bl, isNon_int, isNon_str, isNon_tup, isNon_lst, runF, endF, sSeq, thenS, sSet, sSetN, sRet, sIf, sExpr, sNil, sPass, sCont, sFrz, sKill, eCall, aCons, aNil, aStar, rd, ro, cst, frz, op2, cmp2, cmp3, ofB, eAnd, eOr, eNot, eNeg, eIf, tAnd', tOr', tNot', tru, eTup, eLst, eIx, eSl, oNone, oSome, b1, b2, eIsi, noExc_ok, noExc_err, biAbs, biInt, opAdd, opSub, opMul, smI_lit, opPow, smP1015, Bool.or_true, Bool.true_or, opDiv, opMod, cmLt, cmLe, cmGt, cmGe, cmInt, cmIs, cmIsNot, itR, itRC, rgM, rgMC, its, gtN, gtT, gtCons, gtNil, sAsg, sApp, appM, isOwnL, sFor, freeze1, wipeN, eListR, eTupR, eMeth, isSq_tup, isSq_lst, eRev, ok_bind, err_bind, List.map_cons, List.map_nil, List.length_cons, List.length_nil, List.cons_append, List.nil_append, List.replicate_succ, List.replicate_zero, List.getElem?_cons_zero, List.getElem?_cons_succ, List.set_cons_zero, List.set_cons_succ, List.foldl_cons, List.foldl_nil, if_true, if_false, ite_true, ite_false, reduceIte, reduceCtorEq, Int.reduceLT, Int.reduceLE, Int.reducePow, Int.reduceToNat, Nat.reducePow, Nat.reduceLT, Nat.reduceLeDiff, Int.reduceAdd, Int.reduceSub, Int.reduceMul, Int.reduceNeg, Nat.reduceAdd, Nat.reduceSub, Int.reduceEq, Nat.reduceEqDiff, decide_true, decide_false, and_self, Bool.and_self, Bool.and_true, Bool.true_and, and_true, true_and, Nat.zero_le, Bool.not_true, Bool.not_false, Bool.false_eq_true, decide_eq_true_eq, goOn, turn, sAppPop, appPopM, nats_len, addC, add1C, modC, divC, ix_nats hk, c1, c2, c3, c4, c5, c6, ixN_nat hi, nats_get hi, nats_erase, nats_snoc])
  have hL : L = [] := by
    have := g3.length_eq
    rw [List.length_append, List.length_range, g2, rgD_len] at this
    exact List.eq_nil_of_length_eq_zero (by omega)
  subst hL
  rw [List.append_nil] at g3
  refine ⟨T, g3, ?_⟩
  subst g4
  have hF := rngF_nat (n := many) (by omega)
  have hO := rgOk_nat (n := many) (by omega)
  unfold f__law_order m__law_order
  rw [rgD_nats, show nats [] = [] from rfl] at g1
  simp (implicitDefEqProofs := false) only [isInt_non, isInt_bl, isInt_int, isInt_str, isInt_tup, isInt_lst, isBool_non, isBool_bl, isBool_int, isBool_str, isBool_tup, isBool_lst, isTuple_non, isTuple_bl, isTuple_int, isTuple_str, isTuple_tup, isTuple_lst, isStr_non, isStr_bl, isStr_int, isStr_str, isStr_tup, isStr_lst, biLen_tup, biTuple_tup, biList_tup, itD_tup, truD_tup, biLen_lst, biTuple_lst, biList_lst, itD_lst, truD_lst, biLen_scr, biLen_dI, biLen_dT, truD_non, truD_bl, truD_int, asB_bl, isNon_non, isNon_bl, isNon_int, isNon_str, isNon_tup, isNon_lst, runF, endF, sSeq, thenS, sSet, sSetN, sRet, sIf, sExpr, sNil, sPass, sCont, sFrz, sKill, eCall, aCons, aNil, aStar, rd, ro, cst, frz, op2, cmp2, cmp3, ofB, eAnd, eOr, eNot, eNeg, eIf, tAnd', tOr', tNot', tru, eTup, eLst, eIx, eSl, oNone, oSome, b1, b2, eIsi, noExc_ok, noExc_err, biAbs, biInt, opAdd, opSub, opMul, smI_lit, opPow, smP1015, Bool.or_true, Bool.true_or, opDiv, opMod, cmLt, cmLe, cmGt, cmGe, cmInt, cmIs, cmIsNot, itR, itRC, rgM, rgMC, its, gtN, gtT, gtCons, gtNil, sAsg, sApp, appM, isOwnL, sFor, freeze1, wipeN, eListR, eTupR, eMeth, isSq_tup, isSq_lst, eRev, ok_bind, err_bind, List.map_cons, List.map_nil, List.length_cons, List.length_nil, List.cons_append, List.nil_append, List.replicate_succ, List.replicate_zero, List.getElem?_cons_zero, List.getElem?_cons_succ, List.set_cons_zero, List.set_cons_succ, List.foldl_cons, List.foldl_nil, if_true, if_false, ite_true, ite_false, reduceIte, reduceCtorEq, Int.reduceLT, Int.reduceLE, Int.reducePow, Int.reduceToNat, Nat.reducePow, Nat.reduceLT, Nat.reduceLeDiff, Int.reduceAdd, Int.reduceSub, Int.reduceMul, Int.reduceNeg, Nat.reduceAdd, Nat.reduceSub, Int.reduceEq, Nat.reduceEqDiff, decide_true, decide_false, and_self, Bool.and_self, Bool.and_true, Bool.true_and, and_true, true_and, Nat.zero_le, Bool.not_true, Bool.not_false, Bool.false_eq_true, decide_eq_true_eq, goOn, turn, hF, hO, rgD_nats, g1]
/-! ### grids -/
/-- a row of naturals; a grid -/
def rowD (n : Nat) (f : Nat → Nat) : D := .tup (nats ((List.range n).map f))
def gridD (m n : Nat) (t : Nat → Nat → Nat) : D := .tup ((List.range m).map fun a => rowD n (t a))
theorem ix_row {n b : Nat} {f : Nat → Nat} (h : b < n) : ixD (rowD n f) (.int (b : Nat)) = .ok (.int ((f b : Nat) : Int)) := by
  unfold rowD
  rw [ix_natsT (by simpa using h)]
  simp
theorem ix_grid {m n a : Nat} {t : Nat → Nat → Nat} (h : a < m) : ixD (gridD m n t) (.int (a : Nat)) = .ok (rowD n (t a)) := by
  simp only [gridD, ixD, atI_nat]
  rw [List.getElem?_map, List.getElem?_range h]
  rfl
theorem ok_nats (k : Nat) : ∀ l : List Nat, okDs k (nats l) = true
  | [] => by simp [nats, okDs]
  | x :: l => by
    have := ok_nats k l
    unfold nats at this ⊢
    simp [okDs, okD, this]
theorem eqD_int (i j : Int) : eqD (.int i) (.int j) = decide (i = j) := by
  simp [eqD, toPy, PyData.eqv]
  rfl
end Sim

namespace Sim
open PySem L2
/-! EvG: comprehensions by maps; grids as the laws and the program check them. -/
theorem lc_map {i : Nat} {p : Ex} {ρ : Nv} {g : D → D} : ∀ (ds : List D), (∀ d ∈ ds, p (ρ.set i (some (.val d))) = .ok (g d)) → lcGo (lcStep (gtN i) tsYes p ρ) ds = .ok (ds.map g)
  | [], _ => rfl
  | d :: ds, h => by
    unfold lcGo
    have e : lcStep (gtN i) tsYes p ρ d = .ok (some (g d)) := by
      simp (implicitDefEqProofs := false) only [lcStep, gtN, tsYes, ok_bind, if_true, h d List.mem_cons_self]
    rw [e]
    simp (implicitDefEqProofs := false) only [ok_bind, lc_map ds fun x hx => h x (List.mem_cons_of_mem _ hx), List.map_cons]
theorem lc_filter {i : Nat} {t : Nv → Res Bool} {p : Ex} {ρ : Nv} {b : D → Bool} {g : D → D} : ∀ (ds : List D), (∀ d ∈ ds, t (ρ.set i (some (.val d))) = .ok (b d)) → (∀ d ∈ ds, b d = true → p (ρ.set i (some (.val d))) = .ok (g d)) → lcGo (lcStep (gtN i) t p ρ) ds = .ok ((ds.filter b).map g)
  | [], _, _ => rfl
  | d :: ds, h, h2 => by
    unfold lcGo
    have ih := lc_filter ds (fun x hx => h x (List.mem_cons_of_mem _ hx)) fun x hx => h2 x (List.mem_cons_of_mem _ hx)
    cases hb : b d with
    | true =>
      have e : lcStep (gtN i) t p ρ d = .ok (some (g d)) := by
        simp (implicitDefEqProofs := false) only [lcStep, gtN, ok_bind, if_true, h d List.mem_cons_self, hb, h2 d List.mem_cons_self hb]
      rw [e, List.filter_cons, if_pos hb]
      simp (implicitDefEqProofs := false) only [ok_bind, ih, List.map_cons]
    | false =>
      have e : lcStep (gtN i) t p ρ d = .ok none := by
        simp (implicitDefEqProofs := false) only [lcStep, gtN, ok_bind, h d List.mem_cons_self, hb, Bool.false_eq_true, if_false]
      rw [e, List.filter_cons, if_neg (by rw [hb]; decide)]
      exact ih
theorem blsOf_map (g : D → Bool) : ∀ ds : List D, blsOf (ds.map fun d => .bl (g d)) = some (ds.map g)
  | [] => rfl
  | d :: ds => by rw [List.map_cons, blsOf, blsOf_map g ds]; rfl
theorem all_map (g : D → Bool) (ds : List D) : biAll (.lst (ds.map fun d => .bl (g d))) = .ok (.val (.bl (ds.all g))) := by
  simp only [biAll, blsOf_map, List.all_map]
  rfl
theorem okDs_mem {n : Nat} : ∀ {ds : List D}, okDs n ds = true → ∀ d ∈ ds, okD n d = true
  | d :: ds, h, x, hx => by
    have h' : okD n d = true ∧ okDs n ds = true := by simpa [okDs] using h
    rcases List.mem_cons.mp hx with e | e
    · rw [e]; exact h'.1
    · exact okDs_mem h'.2 x e
def isCell (n : Nat) : D → Bool
  | .int i => decide (0 ≤ i) && decide (i < (n : Int))
  | _ => false
def isRowD (n : Nat) : D → Bool
  | .tup xs => (xs.length == n) && xs.all (isCell n)
  | _ => false
def isGridD (n : Nat) : D → Bool
  | .tup xs => (xs.length == n) && xs.all (isRowD n)
  | _ => false
theorem whole_ev {k : Nat} (d : D) (h : okD k d = true) : f_is_whole [d] = .ok (.bl (match d with | .int _ => true | _ => false)) := by
  unfold f_is_whole m_is_whole
  cases d <;> first | (simp (implicitDefEqProofs := false) only [isInt_non, isInt_bl, isInt_int, isInt_str, isInt_tup, isInt_lst, isBool_non, isBool_bl, isBool_int, isBool_str, isBool_tup, isBool_lst, isTuple_non, isTuple_bl, isTuple_int, isTuple_str, isTuple_tup, isTuple_lst, isStr_non, isStr_bl, isStr_int, isStr_str, isStr_tup, isStr_lst, biLen_tup, biTuple_tup, biList_tup, itD_tup, truD_tup, biLen_lst, biTuple_lst, biList_lst, itD_lst, truD_lst, biLen_scr, biLen_dI, biLen_dT, truD_non, truD_bl, truD_int, asB_bl, isNon_non, isNon_bl, isNon_int, isNon_str, isNon_tup, isNon_lst, runF, endF, sSeq, thenS, sSet, sSetN, sRet, sIf, sExpr, sNil, sPass, sCont, sFrz, sKill, eCall, aCons, aNil, aStar, rd, ro, cst, frz, op2, cmp2, cmp3, ofB, eAnd, eOr, eNot, eNeg, eIf, tAnd', tOr', tNot', tru, eTup, eLst, eIx, eSl, oNone, oSome, b1, b2, eIsi, noExc_ok, noExc_err, biAbs, biInt, opAdd, opSub, opMul, smI_lit, opPow, smP1015, Bool.or_true, Bool.true_or, opDiv, opMod, cmLt, cmLe, cmGt, cmGe, cmInt, cmIs, cmIsNot, itR, itRC, rgM, rgMC, its, gtN, gtT, gtCons, gtNil, sAsg, sApp, appM, isOwnL, sFor, freeze1, wipeN, eListR, eTupR, eMeth, isSq_tup, isSq_lst, eRev, ok_bind, err_bind, List.map_cons, List.map_nil, List.length_cons, List.length_nil, List.cons_append, List.nil_append, List.replicate_succ, List.replicate_zero, List.getElem?_cons_zero, List.getElem?_cons_succ, List.set_cons_zero, List.set_cons_succ, List.foldl_cons, List.foldl_nil, if_true, if_false, ite_true, ite_false, reduceIte, reduceCtorEq, Int.reduceLT, Int.reduceLE, Int.reducePow, Int.reduceToNat, Nat.reducePow, Nat.reduceLT, Nat.reduceLeDiff, Int.reduceAdd, Int.reduceSub, Int.reduceMul, Int.reduceNeg, Nat.reduceAdd, Nat.reduceSub, Int.reduceEq, Nat.reduceEqDiff, decide_true, decide_false, and_self, Bool.and_self, Bool.and_true, Bool.true_and, and_true, true_and, Nat.zero_le, Bool.not_true, Bool.not_false, Bool.false_eq_true, decide_eq_true_eq, goOn, turn]; done) | (simp [okD] at h)
theorem below_ev {k : Nat} (n : Nat) (d : D) (h : okD k d = true) : f_is_below [d, .int n] = .ok (.bl (isCell n d)) := by
  unfold f_is_below m_is_below
  cases d with
  | int i =>
    by_cases h1 : 0 ≤ i
    · simp (implicitDefEqProofs := false) only [isInt_non, isInt_bl, isInt_int, isInt_str, isInt_tup, isInt_lst, isBool_non, isBool_bl, isBool_int, isBool_str, isBool_tup, isBool_lst, isTuple_non, isTuple_bl, isTuple_int, isTuple_str, isTuple_tup, isTuple_lst, isStr_non, isStr_bl, isStr_int, isStr_str, isStr_tup, isStr_lst, biLen_tup, biTuple_tup, biList_tup, itD_tup, truD_tup, biLen_lst, biTuple_lst, biList_lst, itD_lst, truD_lst, biLen_scr, biLen_dI, biLen_dT, truD_non, truD_bl, truD_int, asB_bl, isNon_non, isNon_bl, isNon_int, isNon_str, isNon_tup, isNon_lst, runF, endF, sSeq, thenS, sSet, sSetN, sRet, sIf, sExpr, sNil, sPass, sCont, sFrz, sKill, eCall, aCons, aNil, aStar, rd, ro, cst, frz, op2, cmp2, cmp3, ofB, eAnd, eOr, eNot, eNeg, eIf, tAnd', tOr', tNot', tru, eTup, eLst, eIx, eSl, oNone, oSome, b1, b2, eIsi, noExc_ok, noExc_err, biAbs, biInt, opAdd, opSub, opMul, smI_lit, opPow, smP1015, Bool.or_true, Bool.true_or, opDiv, opMod, cmLt, cmLe, cmGt, cmGe, cmInt, cmIs, cmIsNot, itR, itRC, rgM, rgMC, its, gtN, gtT, gtCons, gtNil, sAsg, sApp, appM, isOwnL, sFor, freeze1, wipeN, eListR, eTupR, eMeth, isSq_tup, isSq_lst, eRev, ok_bind, err_bind, List.map_cons, List.map_nil, List.length_cons, List.length_nil, List.cons_append, List.nil_append, List.replicate_succ, List.replicate_zero, List.getElem?_cons_zero, List.getElem?_cons_succ, List.set_cons_zero, List.set_cons_succ, List.foldl_cons, List.foldl_nil, if_true, if_false, ite_true, ite_false, reduceIte, reduceCtorEq, Int.reduceLT, Int.reduceLE, Int.reducePow, Int.reduceToNat, Nat.reducePow, Nat.reduceLT, Nat.reduceLeDiff, Int.reduceAdd, Int.reduceSub, Int.reduceMul, Int.reduceNeg, Nat.reduceAdd, Nat.reduceSub, Int.reduceEq, Nat.reduceEqDiff, decide_true, decide_false, and_self, Bool.and_self, Bool.and_true, Bool.true_and, and_true, true_and, Nat.zero_le, Bool.not_true, Bool.not_false, Bool.false_eq_true, decide_eq_true_eq, goOn, turn, whole_ev (k := k) _ h, isCell, h1, Bool.true_and]
    · simp (implicitDefEqProofs := false) only [isInt_non, isInt_bl, isInt_int, isInt_str, isInt_tup, isInt_lst, isBool_non, isBool_bl, isBool_int, isBool_str, isBool_tup, isBool_lst, isTuple_non, isTuple_bl, isTuple_int, isTuple_str, isTuple_tup, isTuple_lst, isStr_non, isStr_bl, isStr_int, isStr_str, isStr_tup, isStr_lst, biLen_tup, biTuple_tup, biList_tup, itD_tup, truD_tup, biLen_lst, biTuple_lst, biList_lst, itD_lst, truD_lst, biLen_scr, biLen_dI, biLen_dT, truD_non, truD_bl, truD_int, asB_bl, isNon_non, isNon_bl, isNon_int, isNon_str, isNon_tup, isNon_lst, runF, endF, sSeq, thenS, sSet, sSetN, sRet, sIf, sExpr, sNil, sPass, sCont, sFrz, sKill, eCall, aCons, aNil, aStar, rd, ro, cst, frz, op2, cmp2, cmp3, ofB, eAnd, eOr, eNot, eNeg, eIf, tAnd', tOr', tNot', tru, eTup, eLst, eIx, eSl, oNone, oSome, b1, b2, eIsi, noExc_ok, noExc_err, biAbs, biInt, opAdd, opSub, opMul, smI_lit, opPow, smP1015, Bool.or_true, Bool.true_or, opDiv, opMod, cmLt, cmLe, cmGt, cmGe, cmInt, cmIs, cmIsNot, itR, itRC, rgM, rgMC, its, gtN, gtT, gtCons, gtNil, sAsg, sApp, appM, isOwnL, sFor, freeze1, wipeN, eListR, eTupR, eMeth, isSq_tup, isSq_lst, eRev, ok_bind, err_bind, List.map_cons, List.map_nil, List.length_cons, List.length_nil, List.cons_append, List.nil_append, List.replicate_succ, List.replicate_zero, List.getElem?_cons_zero, List.getElem?_cons_succ, List.set_cons_zero, List.set_cons_succ, List.foldl_cons, List.foldl_nil, if_true, if_false, ite_true, ite_false, reduceIte, reduceCtorEq, Int.reduceLT, Int.reduceLE, Int.reducePow, Int.reduceToNat, Nat.reducePow, Nat.reduceLT, Nat.reduceLeDiff, Int.reduceAdd, Int.reduceSub, Int.reduceMul, Int.reduceNeg, Nat.reduceAdd, Nat.reduceSub, Int.reduceEq, Nat.reduceEqDiff, decide_true, decide_false, and_self, Bool.and_self, Bool.and_true, Bool.true_and, and_true, true_and, Nat.zero_le, Bool.not_true, Bool.not_false, Bool.false_eq_true, decide_eq_true_eq, goOn, turn, whole_ev (k := k) _ h, isCell, h1, Bool.false_and]
  | _ => simp (implicitDefEqProofs := false) only [isInt_non, isInt_bl, isInt_int, isInt_str, isInt_tup, isInt_lst, isBool_non, isBool_bl, isBool_int, isBool_str, isBool_tup, isBool_lst, isTuple_non, isTuple_bl, isTuple_int, isTuple_str, isTuple_tup, isTuple_lst, isStr_non, isStr_bl, isStr_int, isStr_str, isStr_tup, isStr_lst, biLen_tup, biTuple_tup, biList_tup, itD_tup, truD_tup, biLen_lst, biTuple_lst, biList_lst, itD_lst, truD_lst, biLen_scr, biLen_dI, biLen_dT, truD_non, truD_bl, truD_int, asB_bl, isNon_non, isNon_bl, isNon_int, isNon_str, isNon_tup, isNon_lst, runF, endF, sSeq, thenS, sSet, sSetN, sRet, sIf, sExpr, sNil, sPass, sCont, sFrz, sKill, eCall, aCons, aNil, aStar, rd, ro, cst, frz, op2, cmp2, cmp3, ofB, eAnd, eOr, eNot, eNeg, eIf, tAnd', tOr', tNot', tru, eTup, eLst, eIx, eSl, oNone, oSome, b1, b2, eIsi, noExc_ok, noExc_err, biAbs, biInt, opAdd, opSub, opMul, smI_lit, opPow, smP1015, Bool.or_true, Bool.true_or, opDiv, opMod, cmLt, cmLe, cmGt, cmGe, cmInt, cmIs, cmIsNot, itR, itRC, rgM, rgMC, its, gtN, gtT, gtCons, gtNil, sAsg, sApp, appM, isOwnL, sFor, freeze1, wipeN, eListR, eTupR, eMeth, isSq_tup, isSq_lst, eRev, ok_bind, err_bind, List.map_cons, List.map_nil, List.length_cons, List.length_nil, List.cons_append, List.nil_append, List.replicate_succ, List.replicate_zero, List.getElem?_cons_zero, List.getElem?_cons_succ, List.set_cons_zero, List.set_cons_succ, List.foldl_cons, List.foldl_nil, if_true, if_false, ite_true, ite_false, reduceIte, reduceCtorEq, Int.reduceLT, Int.reduceLE, Int.reducePow, Int.reduceToNat, Nat.reducePow, Nat.reduceLT, Nat.reduceLeDiff, Int.reduceAdd, Int.reduceSub, Int.reduceMul, Int.reduceNeg, Nat.reduceAdd, Nat.reduceSub, Int.reduceEq, Nat.reduceEqDiff, decide_true, decide_false, and_self, Bool.and_self, Bool.and_true, Bool.true_and, and_true, true_and, Nat.zero_le, Bool.not_true, Bool.not_false, Bool.false_eq_true, decide_eq_true_eq, goOn, turn, whole_ev (k := k) _ h, isCell]
theorem isnum_ev {k : Nat} (d : D) (h : okD k d = true) : f__law_is_number [d] = .ok (.bl (match d with | .int i => decide (0 ≤ i) | _ => false)) := by
  unfold f__law_is_number m__law_is_number
  cases d <;> first | (simp (implicitDefEqProofs := false) only [isInt_non, isInt_bl, isInt_int, isInt_str, isInt_tup, isInt_lst, isBool_non, isBool_bl, isBool_int, isBool_str, isBool_tup, isBool_lst, isTuple_non, isTuple_bl, isTuple_int, isTuple_str, isTuple_tup, isTuple_lst, isStr_non, isStr_bl, isStr_int, isStr_str, isStr_tup, isStr_lst, biLen_tup, biTuple_tup, biList_tup, itD_tup, truD_tup, biLen_lst, biTuple_lst, biList_lst, itD_lst, truD_lst, biLen_scr, biLen_dI, biLen_dT, truD_non, truD_bl, truD_int, asB_bl, isNon_non, isNon_bl, isNon_int, isNon_str, isNon_tup, isNon_lst, runF, endF, sSeq, thenS, sSet, sSetN, sRet, sIf, sExpr, sNil, sPass, sCont, sFrz, sKill, eCall, aCons, aNil, aStar, rd, ro, cst, frz, op2, cmp2, cmp3, ofB, eAnd, eOr, eNot, eNeg, eIf, tAnd', tOr', tNot', tru, eTup, eLst, eIx, eSl, oNone, oSome, b1, b2, eIsi, noExc_ok, noExc_err, biAbs, biInt, opAdd, opSub, opMul, smI_lit, opPow, smP1015, Bool.or_true, Bool.true_or, opDiv, opMod, cmLt, cmLe, cmGt, cmGe, cmInt, cmIs, cmIsNot, itR, itRC, rgM, rgMC, its, gtN, gtT, gtCons, gtNil, sAsg, sApp, appM, isOwnL, sFor, freeze1, wipeN, eListR, eTupR, eMeth, isSq_tup, isSq_lst, eRev, ok_bind, err_bind, List.map_cons, List.map_nil, List.length_cons, List.length_nil, List.cons_append, List.nil_append, List.replicate_succ, List.replicate_zero, List.getElem?_cons_zero, List.getElem?_cons_succ, List.set_cons_zero, List.set_cons_succ, List.foldl_cons, List.foldl_nil, if_true, if_false, ite_true, ite_false, reduceIte, reduceCtorEq, Int.reduceLT, Int.reduceLE, Int.reducePow, Int.reduceToNat, Nat.reducePow, Nat.reduceLT, Nat.reduceLeDiff, Int.reduceAdd, Int.reduceSub, Int.reduceMul, Int.reduceNeg, Nat.reduceAdd, Nat.reduceSub, Int.reduceEq, Nat.reduceEqDiff, decide_true, decide_false, and_self, Bool.and_self, Bool.and_true, Bool.true_and, and_true, true_and, Nat.zero_le, Bool.not_true, Bool.not_false, Bool.false_eq_true, decide_eq_true_eq, goOn, turn]; done) | (simp [okD] at h)
theorem cmEq_int (i j : Int) : cmEq (.int i) (.int j) = .ok (decide (i = j)) := by
  unfold cmEq
  rw [if_pos ⟨rfl, rfl⟩, eqD_int]
theorem cmNe_int (i j : Int) : cmNe (.int i) (.int j) = .ok (!decide (i = j)) := by
  unfold cmNe
  rw [if_pos ⟨rfl, rfl⟩, eqD_int]
theorem nat_eqB (a b : Nat) : decide ((a : Int) = (b : Int)) = (a == b) := by
  by_cases h : a = b
  · subst h; simp
  · rw [decide_eq_false (by omega), beq_eq_false_iff_ne.mpr h]
theorem are_below_ev {k : Nat} (n : Nat) (d : D) (h : okD (k + 1) d = true) : f_are_below [d, .int n, .int n] = .ok (.bl (isRowD n d)) := by
  unfold f_are_below m_are_below
  cases d with
  | tup xs =>
    have hxs : okDs k xs = true := by simpa [okD] using h
    have hlc := lc_map (i := 3) (p := eCall f_is_below (aCons (rd 3) (aCons (rd 2) aNil))) (ρ := [some (.val (.tup xs)), some (.val (.int n)), some (.val (.int n)), none]) (g := fun d => .bl (isCell n d)) xs fun d hd => by
      simp (implicitDefEqProofs := false) only [isInt_non, isInt_bl, isInt_int, isInt_str, isInt_tup, isInt_lst, isBool_non, isBool_bl, isBool_int, isBool_str, isBool_tup, isBool_lst, isTuple_non, isTuple_bl, isTuple_int, isTuple_str, isTuple_tup, isTuple_lst, isStr_non, isStr_bl, isStr_int, isStr_str, isStr_tup, isStr_lst, biLen_tup, biTuple_tup, biList_tup, itD_tup, truD_tup, biLen_lst, biTuple_lst, biList_lst, itD_lst, truD_lst, biLen_scr, biLen_dI, biLen_dT, truD_non, truD_bl, truD_int, asB_bl, isNon_non, isNon_bl, isNon_int, isNon_str, isNon_tup, isNon_lst, runF, endF, sSeq, thenS, sSet, sSetN, sRet, sIf, sExpr, sNil, sPass, sCont, sFrz, sKill, eCall, aCons, aNil, aStar, rd, ro, cst, frz, op2, cmp2, cmp3, ofB, eAnd, eOr, eNot, eNeg, eIf, tAnd', tOr', tNot', tru, eTup, eLst, eIx, eSl, oNone, oSome, b1, b2, eIsi, noExc_ok, noExc_err, biAbs, biInt, opAdd, opSub, opMul, smI_lit, opPow, smP1015, Bool.or_true, Bool.true_or, opDiv, opMod, cmLt, cmLe, cmGt, cmGe, cmInt, cmIs, cmIsNot, itR, itRC, rgM, rgMC, its, gtN, gtT, gtCons, gtNil, sAsg, sApp, appM, isOwnL, sFor, freeze1, wipeN, eListR, eTupR, eMeth, isSq_tup, isSq_lst, eRev, ok_bind, err_bind, List.map_cons, List.map_nil, List.length_cons, List.length_nil, List.cons_append, List.nil_append, List.replicate_succ, List.replicate_zero, List.getElem?_cons_zero, List.getElem?_cons_succ, List.set_cons_zero, List.set_cons_succ, List.foldl_cons, List.foldl_nil, if_true, if_false, ite_true, ite_false, reduceIte, reduceCtorEq, Int.reduceLT, Int.reduceLE, Int.reducePow, Int.reduceToNat, Nat.reducePow, Nat.reduceLT, Nat.reduceLeDiff, Int.reduceAdd, Int.reduceSub, Int.reduceMul, Int.reduceNeg, Nat.reduceAdd, Nat.reduceSub, Int.reduceEq, Nat.reduceEqDiff, decide_true, decide_false, and_self, Bool.and_self, Bool.and_true, Bool.true_and, and_true, true_and, Nat.zero_le, Bool.not_true, Bool.not_false, Bool.false_eq_true, decide_eq_true_eq, goOn, turn, below_ev n d (okDs_mem hxs d hd)]
    cases hl : xs.length == n with
    | true => simp (implicitDefEqProofs := false) only [isInt_non, isInt_bl, isInt_int, isInt_str, isInt_tup, isInt_lst, isBool_non, isBool_bl, isBool_int, isBool_str, isBool_tup, isBool_lst, isTuple_non, isTuple_bl, isTuple_int, isTuple_str, isTuple_tup, isTuple_lst, isStr_non, isStr_bl, isStr_int, isStr_str, isStr_tup, isStr_lst, biLen_tup, biTuple_tup, biList_tup, itD_tup, truD_tup, biLen_lst, biTuple_lst, biList_lst, itD_lst, truD_lst, biLen_scr, biLen_dI, biLen_dT, truD_non, truD_bl, truD_int, asB_bl, isNon_non, isNon_bl, isNon_int, isNon_str, isNon_tup, isNon_lst, runF, endF, sSeq, thenS, sSet, sSetN, sRet, sIf, sExpr, sNil, sPass, sCont, sFrz, sKill, eCall, aCons, aNil, aStar, rd, ro, cst, frz, op2, cmp2, cmp3, ofB, eAnd, eOr, eNot, eNeg, eIf, tAnd', tOr', tNot', tru, eTup, eLst, eIx, eSl, oNone, oSome, b1, b2, eIsi, noExc_ok, noExc_err, biAbs, biInt, opAdd, opSub, opMul, smI_lit, opPow, smP1015, Bool.or_true, Bool.true_or, opDiv, opMod, cmLt, cmLe, cmGt, cmGe, cmInt, cmIs, cmIsNot, itR, itRC, rgM, rgMC, its, gtN, gtT, gtCons, gtNil, sAsg, sApp, appM, isOwnL, sFor, freeze1, wipeN, eListR, eTupR, eMeth, isSq_tup, isSq_lst, eRev, ok_bind, err_bind, List.map_cons, List.map_nil, List.length_cons, List.length_nil, List.cons_append, List.nil_append, List.replicate_succ, List.replicate_zero, List.getElem?_cons_zero, List.getElem?_cons_succ, List.set_cons_zero, List.set_cons_succ, List.foldl_cons, List.foldl_nil, if_true, if_false, ite_true, ite_false, reduceIte, reduceCtorEq, Int.reduceLT, Int.reduceLE, Int.reducePow, Int.reduceToNat, Nat.reducePow, Nat.reduceLT, Nat.reduceLeDiff, Int.reduceAdd, Int.reduceSub, Int.reduceMul, Int.reduceNeg, Nat.reduceAdd, Nat.reduceSub, Int.reduceEq, Nat.reduceEqDiff, decide_true, decide_false, and_self, Bool.and_self, Bool.and_true, Bool.true_and, and_true, true_and, Nat.zero_le, Bool.not_true, Bool.not_false, Bool.false_eq_true, decide_eq_true_eq, goOn, turn, cmNe_int, nat_eqB, hl, eLC, hlc, all_map, isRowD, Bool.true_and]
    | false => simp (implicitDefEqProofs := false) only [isInt_non, isInt_bl, isInt_int, isInt_str, isInt_tup, isInt_lst, isBool_non, isBool_bl, isBool_int, isBool_str, isBool_tup, isBool_lst, isTuple_non, isTuple_bl, isTuple_int, isTuple_str, isTuple_tup, isTuple_lst, isStr_non, isStr_bl, isStr_int, isStr_str, isStr_tup, isStr_lst, biLen_tup, biTuple_tup, biList_tup, itD_tup, truD_tup, biLen_lst, biTuple_lst, biList_lst, itD_lst, truD_lst, biLen_scr, biLen_dI, biLen_dT, truD_non, truD_bl, truD_int, asB_bl, isNon_non, isNon_bl, isNon_int, isNon_str, isNon_tup, isNon_lst, runF, endF, sSeq, thenS, sSet, sSetN, sRet, sIf, sExpr, sNil, sPass, sCont, sFrz, sKill, eCall, aCons, aNil, aStar, rd, ro, cst, frz, op2, cmp2, cmp3, ofB, eAnd, eOr, eNot, eNeg, eIf, tAnd', tOr', tNot', tru, eTup, eLst, eIx, eSl, oNone, oSome, b1, b2, eIsi, noExc_ok, noExc_err, biAbs, biInt, opAdd, opSub, opMul, smI_lit, opPow, smP1015, Bool.or_true, Bool.true_or, opDiv, opMod, cmLt, cmLe, cmGt, cmGe, cmInt, cmIs, cmIsNot, itR, itRC, rgM, rgMC, its, gtN, gtT, gtCons, gtNil, sAsg, sApp, appM, isOwnL, sFor, freeze1, wipeN, eListR, eTupR, eMeth, isSq_tup, isSq_lst, eRev, ok_bind, err_bind, List.map_cons, List.map_nil, List.length_cons, List.length_nil, List.cons_append, List.nil_append, List.replicate_succ, List.replicate_zero, List.getElem?_cons_zero, List.getElem?_cons_succ, List.set_cons_zero, List.set_cons_succ, List.foldl_cons, List.foldl_nil, if_true, if_false, ite_true, ite_false, reduceIte, reduceCtorEq, Int.reduceLT, Int.reduceLE, Int.reducePow, Int.reduceToNat, Nat.reducePow, Nat.reduceLT, Nat.reduceLeDiff, Int.reduceAdd, Int.reduceSub, Int.reduceMul, Int.reduceNeg, Nat.reduceAdd, Nat.reduceSub, Int.reduceEq, Nat.reduceEqDiff, decide_true, decide_false, and_self, Bool.and_self, Bool.and_true, Bool.true_and, and_true, true_and, Nat.zero_le, Bool.not_true, Bool.not_false, Bool.false_eq_true, decide_eq_true_eq, goOn, turn, cmNe_int, nat_eqB, hl, isRowD, Bool.false_and]
  | _ => first | (simp (implicitDefEqProofs := false) only [isInt_non, isInt_bl, isInt_int, isInt_str, isInt_tup, isInt_lst, isBool_non, isBool_bl, isBool_int, isBool_str, isBool_tup, isBool_lst, isTuple_non, isTuple_bl, isTuple_int, isTuple_str, isTuple_tup, isTuple_lst, isStr_non, isStr_bl, isStr_int, isStr_str, isStr_tup, isStr_lst, biLen_tup, biTuple_tup, biList_tup, itD_tup, truD_tup, biLen_lst, biTuple_lst, biList_lst, itD_lst, truD_lst, biLen_scr, biLen_dI, biLen_dT, truD_non, truD_bl, truD_int, asB_bl, isNon_non, isNon_bl, isNon_int, isNon_str, isNon_tup, isNon_lst, runF, endF, sSeq, thenS, sSet, sSetN, sRet, sIf, sExpr, sNil, sPass, sCont, sFrz, sKill, eCall, aCons, aNil, aStar, rd, ro, cst, frz, op2, cmp2, cmp3, ofB, eAnd, eOr, eNot, eNeg, eIf, tAnd', tOr', tNot', tru, eTup, eLst, eIx, eSl, oNone, oSome, b1, b2, eIsi, noExc_ok, noExc_err, biAbs, biInt, opAdd, opSub, opMul, smI_lit, opPow, smP1015, Bool.or_true, Bool.true_or, opDiv, opMod, cmLt, cmLe, cmGt, cmGe, cmInt, cmIs, cmIsNot, itR, itRC, rgM, rgMC, its, gtN, gtT, gtCons, gtNil, sAsg, sApp, appM, isOwnL, sFor, freeze1, wipeN, eListR, eTupR, eMeth, isSq_tup, isSq_lst, eRev, ok_bind, err_bind, List.map_cons, List.map_nil, List.length_cons, List.length_nil, List.cons_append, List.nil_append, List.replicate_succ, List.replicate_zero, List.getElem?_cons_zero, List.getElem?_cons_succ, List.set_cons_zero, List.set_cons_succ, List.foldl_cons, List.foldl_nil, if_true, if_false, ite_true, ite_false, reduceIte, reduceCtorEq, Int.reduceLT, Int.reduceLE, Int.reducePow, Int.reduceToNat, Nat.reducePow, Nat.reduceLT, Nat.reduceLeDiff, Int.reduceAdd, Int.reduceSub, Int.reduceMul, Int.reduceNeg, Nat.reduceAdd, Nat.reduceSub, Int.reduceEq, Nat.reduceEqDiff, decide_true, decide_false, and_self, Bool.and_self, Bool.and_true, Bool.true_and, and_true, true_and, Nat.zero_le, Bool.not_true, Bool.not_false, Bool.false_eq_true, decide_eq_true_eq, goOn, turn, isRowD]; done) | (simp [okD] at h)
theorem is_row_ev {k : Nat} (n : Nat) (d : D) (h : okD (k + 1) d = true) : f__law_is_row [d, .int n, .int n] = .ok (.bl (isRowD n d)) := by
  unfold f__law_is_row m__law_is_row
  cases d with
  | tup xs =>
    have hxs : okDs k xs = true := by simpa [okD] using h
    have hlc := lc_map (i := 3) (p := eAnd (eCall f__law_is_number (aCons (rd 3) aNil)) (ofB (cmp2 cmLt (ro 3) (ro 2)))) (ρ := [some (.val (.tup xs)), some (.val (.int n)), some (.val (.int n)), none]) (g := fun d => .bl (isCell n d)) xs fun d hd => by
      have hd' := okDs_mem hxs d hd
      cases d with
      | int i =>
        by_cases h1 : 0 ≤ i
        · simp (implicitDefEqProofs := false) only [isInt_non, isInt_bl, isInt_int, isInt_str, isInt_tup, isInt_lst, isBool_non, isBool_bl, isBool_int, isBool_str, isBool_tup, isBool_lst, isTuple_non, isTuple_bl, isTuple_int, isTuple_str, isTuple_tup, isTuple_lst, isStr_non, isStr_bl, isStr_int, isStr_str, isStr_tup, isStr_lst, biLen_tup, biTuple_tup, biList_tup, itD_tup, truD_tup, biLen_lst, biTuple_lst, biList_lst, itD_lst, truD_lst, biLen_scr, biLen_dI, biLen_dT, truD_non, truD_bl, truD_int, asB_bl, isNon_non, isNon_bl, isNon_int, isNon_str, isNon_tup, isNon_lst, runF, endF, sSeq, thenS, sSet, sSetN, sRet, sIf, sExpr, sNil, sPass, sCont, sFrz, sKill, eCall, aCons, aNil, aStar, rd, ro, cst, frz, op2, cmp2, cmp3, ofB, eAnd, eOr, eNot, eNeg, eIf, tAnd', tOr', tNot', tru, eTup, eLst, eIx, eSl, oNone, oSome, b1, b2, eIsi, noExc_ok, noExc_err, biAbs, biInt, opAdd, opSub, opMul, smI_lit, opPow, smP1015, Bool.or_true, Bool.true_or, opDiv, opMod, cmLt, cmLe, cmGt, cmGe, cmInt, cmIs, cmIsNot, itR, itRC, rgM, rgMC, its, gtN, gtT, gtCons, gtNil, sAsg, sApp, appM, isOwnL, sFor, freeze1, wipeN, eListR, eTupR, eMeth, isSq_tup, isSq_lst, eRev, ok_bind, err_bind, List.map_cons, List.map_nil, List.length_cons, List.length_nil, List.cons_append, List.nil_append, List.replicate_succ, List.replicate_zero, List.getElem?_cons_zero, List.getElem?_cons_succ, List.set_cons_zero, List.set_cons_succ, List.foldl_cons, List.foldl_nil, if_true, if_false, ite_true, ite_false, reduceIte, reduceCtorEq, Int.reduceLT, Int.reduceLE, Int.reducePow, Int.reduceToNat, Nat.reducePow, Nat.reduceLT, Nat.reduceLeDiff, Int.reduceAdd, Int.reduceSub, Int.reduceMul, Int.reduceNeg, Nat.reduceAdd, Nat.reduceSub, Int.reduceEq, Nat.reduceEqDiff, decide_true, decide_false, and_self, Bool.and_self, Bool.and_true, Bool.true_and, and_true, true_and, Nat.zero_le, Bool.not_true, Bool.not_false, Bool.false_eq_true, decide_eq_true_eq, goOn, turn, isnum_ev _ hd', isCell, h1, Bool.true_and]
        · simp (implicitDefEqProofs := false) only [isInt_non, isInt_bl, isInt_int, isInt_str, isInt_tup, isInt_lst, isBool_non, isBool_bl, isBool_int, isBool_str, isBool_tup, isBool_lst, isTuple_non, isTuple_bl, isTuple_int, isTuple_str, isTuple_tup, isTuple_lst, isStr_non, isStr_bl, isStr_int, isStr_str, isStr_tup, isStr_lst, biLen_tup, biTuple_tup, biList_tup, itD_tup, truD_tup, biLen_lst, biTuple_lst, biList_lst, itD_lst, truD_lst, biLen_scr, biLen_dI, biLen_dT, truD_non, truD_bl, truD_int, asB_bl, isNon_non, isNon_bl, isNon_int, isNon_str, isNon_tup, isNon_lst, runF, endF, sSeq, thenS, sSet, sSetN, sRet, sIf, sExpr, sNil, sPass, sCont, sFrz, sKill, eCall, aCons, aNil, aStar, rd, ro, cst, frz, op2, cmp2, cmp3, ofB, eAnd, eOr, eNot, eNeg, eIf, tAnd', tOr', tNot', tru, eTup, eLst, eIx, eSl, oNone, oSome, b1, b2, eIsi, noExc_ok, noExc_err, biAbs, biInt, opAdd, opSub, opMul, smI_lit, opPow, smP1015, Bool.or_true, Bool.true_or, opDiv, opMod, cmLt, cmLe, cmGt, cmGe, cmInt, cmIs, cmIsNot, itR, itRC, rgM, rgMC, its, gtN, gtT, gtCons, gtNil, sAsg, sApp, appM, isOwnL, sFor, freeze1, wipeN, eListR, eTupR, eMeth, isSq_tup, isSq_lst, eRev, ok_bind, err_bind, List.map_cons, List.map_nil, List.length_cons, List.length_nil, List.cons_append, List.nil_append, List.replicate_succ, List.replicate_zero, List.getElem?_cons_zero, List.getElem?_cons_succ, List.set_cons_zero, List.set_cons_succ, List.foldl_cons, List.foldl_nil, if_true, if_false, ite_true, ite_false, reduceIte, reduceCtorEq, Int.reduceLT, Int.reduceLE, Int.reducePow, Int.reduceToNat, Nat.reducePow, Nat.reduceLT, Nat.reduceLeDiff, Int.reduceAdd, Int.reduceSub, Int.reduceMul, Int.reduceNeg, Nat.reduceAdd, Nat.reduceSub, Int.reduceEq, Nat.reduceEqDiff, decide_true, decide_false, and_self, Bool.and_self, Bool.and_true, Bool.true_and, and_true, true_and, Nat.zero_le, Bool.not_true, Bool.not_false, Bool.false_eq_true, decide_eq_true_eq, goOn, turn, isnum_ev _ hd', isCell, h1, Bool.false_and]
      | _ => simp (implicitDefEqProofs := false) only [isInt_non, isInt_bl, isInt_int, isInt_str, isInt_tup, isInt_lst, isBool_non, isBool_bl, isBool_int, isBool_str, isBool_tup, isBool_lst, isTuple_non, isTuple_bl, isTuple_int, isTuple_str, isTuple_tup, isTuple_lst, isStr_non, isStr_bl, isStr_int, isStr_str, isStr_tup, isStr_lst, biLen_tup, biTuple_tup, biList_tup, itD_tup, truD_tup, biLen_lst, biTuple_lst, biList_lst, itD_lst, truD_lst, biLen_scr, biLen_dI, biLen_dT, truD_non, truD_bl, truD_int, asB_bl, isNon_non, isNon_bl, isNon_int, isNon_str, isNon_tup, isNon_lst, runF, endF, sSeq, thenS, sSet, sSetN, sRet, sIf, sExpr, sNil, sPass, sCont, sFrz, sKill, eCall, aCons, aNil, aStar, rd, ro, cst, frz, op2, cmp2, cmp3, ofB, eAnd, eOr, eNot, eNeg, eIf, tAnd', tOr', tNot', tru, eTup, eLst, eIx, eSl, oNone, oSome, b1, b2, eIsi, noExc_ok, noExc_err, biAbs, biInt, opAdd, opSub, opMul, smI_lit, opPow, smP1015, Bool.or_true, Bool.true_or, opDiv, opMod, cmLt, cmLe, cmGt, cmGe, cmInt, cmIs, cmIsNot, itR, itRC, rgM, rgMC, its, gtN, gtT, gtCons, gtNil, sAsg, sApp, appM, isOwnL, sFor, freeze1, wipeN, eListR, eTupR, eMeth, isSq_tup, isSq_lst, eRev, ok_bind, err_bind, List.map_cons, List.map_nil, List.length_cons, List.length_nil, List.cons_append, List.nil_append, List.replicate_succ, List.replicate_zero, List.getElem?_cons_zero, List.getElem?_cons_succ, List.set_cons_zero, List.set_cons_succ, List.foldl_cons, List.foldl_nil, if_true, if_false, ite_true, ite_false, reduceIte, reduceCtorEq, Int.reduceLT, Int.reduceLE, Int.reducePow, Int.reduceToNat, Nat.reducePow, Nat.reduceLT, Nat.reduceLeDiff, Int.reduceAdd, Int.reduceSub, Int.reduceMul, Int.reduceNeg, Nat.reduceAdd, Nat.reduceSub, Int.reduceEq, Nat.reduceEqDiff, decide_true, decide_false, and_self, Bool.and_self, Bool.and_true, Bool.true_and, and_true, true_and, Nat.zero_le, Bool.not_true, Bool.not_false, Bool.false_eq_true, decide_eq_true_eq, goOn, turn, isnum_ev _ hd', isCell]
    cases hl : xs.length == n with
    | true => simp (implicitDefEqProofs := false) only [isInt_non, isInt_bl, isInt_int, isInt_str, isInt_tup, isInt_lst, isBool_non, isBool_bl, isBool_int, isBool_str, isBool_tup, isBool_lst, isTuple_non, isTuple_bl, isTuple_int, isTuple_str, isTuple_tup, isTuple_lst, isStr_non, isStr_bl, isStr_int, isStr_str, isStr_tup, isStr_lst, biLen_tup, biTuple_tup, biList_tup, itD_tup, truD_tup, biLen_lst, biTuple_lst, biList_lst, itD_lst, truD_lst, biLen_scr, biLen_dI, biLen_dT, truD_non, truD_bl, truD_int, asB_bl, isNon_non, isNon_bl, isNon_int, isNon_str, isNon_tup, isNon_lst, runF, endF, sSeq, thenS, sSet, sSetN, sRet, sIf, sExpr, sNil, sPass, sCont, sFrz, sKill, eCall, aCons, aNil, aStar, rd, ro, cst, frz, op2, cmp2, cmp3, ofB, eAnd, eOr, eNot, eNeg, eIf, tAnd', tOr', tNot', tru, eTup, eLst, eIx, eSl, oNone, oSome, b1, b2, eIsi, noExc_ok, noExc_err, biAbs, biInt, opAdd, opSub, opMul, smI_lit, opPow, smP1015, Bool.or_true, Bool.true_or, opDiv, opMod, cmLt, cmLe, cmGt, cmGe, cmInt, cmIs, cmIsNot, itR, itRC, rgM, rgMC, its, gtN, gtT, gtCons, gtNil, sAsg, sApp, appM, isOwnL, sFor, freeze1, wipeN, eListR, eTupR, eMeth, isSq_tup, isSq_lst, eRev, ok_bind, err_bind, List.map_cons, List.map_nil, List.length_cons, List.length_nil, List.cons_append, List.nil_append, List.replicate_succ, List.replicate_zero, List.getElem?_cons_zero, List.getElem?_cons_succ, List.set_cons_zero, List.set_cons_succ, List.foldl_cons, List.foldl_nil, if_true, if_false, ite_true, ite_false, reduceIte, reduceCtorEq, Int.reduceLT, Int.reduceLE, Int.reducePow, Int.reduceToNat, Nat.reducePow, Nat.reduceLT, Nat.reduceLeDiff, Int.reduceAdd, Int.reduceSub, Int.reduceMul, Int.reduceNeg, Nat.reduceAdd, Nat.reduceSub, Int.reduceEq, Nat.reduceEqDiff, decide_true, decide_false, and_self, Bool.and_self, Bool.and_true, Bool.true_and, and_true, true_and, Nat.zero_le, Bool.not_true, Bool.not_false, Bool.false_eq_true, decide_eq_true_eq, goOn, turn, cmNe_int, nat_eqB, hl, eLC, hlc, all_map, isRowD, Bool.true_and]
    | false => simp (implicitDefEqProofs := false) only [isInt_non, isInt_bl, isInt_int, isInt_str, isInt_tup, isInt_lst, isBool_non, isBool_bl, isBool_int, isBool_str, isBool_tup, isBool_lst, isTuple_non, isTuple_bl, isTuple_int, isTuple_str, isTuple_tup, isTuple_lst, isStr_non, isStr_bl, isStr_int, isStr_str, isStr_tup, isStr_lst, biLen_tup, biTuple_tup, biList_tup, itD_tup, truD_tup, biLen_lst, biTuple_lst, biList_lst, itD_lst, truD_lst, biLen_scr, biLen_dI, biLen_dT, truD_non, truD_bl, truD_int, asB_bl, isNon_non, isNon_bl, isNon_int, isNon_str, isNon_tup, isNon_lst, runF, endF, sSeq, thenS, sSet, sSetN, sRet, sIf, sExpr, sNil, sPass, sCont, sFrz, sKill, eCall, aCons, aNil, aStar, rd, ro, cst, frz, op2, cmp2, cmp3, ofB, eAnd, eOr, eNot, eNeg, eIf, tAnd', tOr', tNot', tru, eTup, eLst, eIx, eSl, oNone, oSome, b1, b2, eIsi, noExc_ok, noExc_err, biAbs, biInt, opAdd, opSub, opMul, smI_lit, opPow, smP1015, Bool.or_true, Bool.true_or, opDiv, opMod, cmLt, cmLe, cmGt, cmGe, cmInt, cmIs, cmIsNot, itR, itRC, rgM, rgMC, its, gtN, gtT, gtCons, gtNil, sAsg, sApp, appM, isOwnL, sFor, freeze1, wipeN, eListR, eTupR, eMeth, isSq_tup, isSq_lst, eRev, ok_bind, err_bind, List.map_cons, List.map_nil, List.length_cons, List.length_nil, List.cons_append, List.nil_append, List.replicate_succ, List.replicate_zero, List.getElem?_cons_zero, List.getElem?_cons_succ, List.set_cons_zero, List.set_cons_succ, List.foldl_cons, List.foldl_nil, if_true, if_false, ite_true, ite_false, reduceIte, reduceCtorEq, Int.reduceLT, Int.reduceLE, Int.reducePow, Int.reduceToNat, Nat.reducePow, Nat.reduceLT, Nat.reduceLeDiff, Int.reduceAdd, Int.reduceSub, Int.reduceMul, Int.reduceNeg, Nat.reduceAdd, Nat.reduceSub, Int.reduceEq, Nat.reduceEqDiff, decide_true, decide_false, and_self, Bool.and_self, Bool.and_true, Bool.true_and, and_true, true_and, Nat.zero_le, Bool.not_true, Bool.not_false, Bool.false_eq_true, decide_eq_true_eq, goOn, turn, cmNe_int, nat_eqB, hl, isRowD, Bool.false_and]
  | _ => first | (simp (implicitDefEqProofs := false) only [isInt_non, isInt_bl, isInt_int, isInt_str, isInt_tup, isInt_lst, isBool_non, isBool_bl, isBool_int, isBool_str, isBool_tup, isBool_lst, isTuple_non, isTuple_bl, isTuple_int, isTuple_str, isTuple_tup, isTuple_lst, isStr_non, isStr_bl, isStr_int, isStr_str, isStr_tup, isStr_lst, biLen_tup, biTuple_tup, biList_tup, itD_tup, truD_tup, biLen_lst, biTuple_lst, biList_lst, itD_lst, truD_lst, biLen_scr, biLen_dI, biLen_dT, truD_non, truD_bl, truD_int, asB_bl, isNon_non, isNon_bl, isNon_int, isNon_str, isNon_tup, isNon_lst, runF, endF, sSeq, thenS, sSet, sSetN, sRet, sIf, sExpr, sNil, sPass, sCont, sFrz, sKill, eCall, aCons, aNil, aStar, rd, ro, cst, frz, op2, cmp2, cmp3, ofB, eAnd, eOr, eNot, eNeg, eIf, tAnd', tOr', tNot', tru, eTup, eLst, eIx, eSl, oNone, oSome, b1, b2, eIsi, noExc_ok, noExc_err, biAbs, biInt, opAdd, opSub, opMul, smI_lit, opPow, smP1015, Bool.or_true, Bool.true_or, opDiv, opMod, cmLt, cmLe, cmGt, cmGe, cmInt, cmIs, cmIsNot, itR, itRC, rgM, rgMC, its, gtN, gtT, gtCons, gtNil, sAsg, sApp, appM, isOwnL, sFor, freeze1, wipeN, eListR, eTupR, eMeth, isSq_tup, isSq_lst, eRev, ok_bind, err_bind, List.map_cons, List.map_nil, List.length_cons, List.length_nil, List.cons_append, List.nil_append, List.replicate_succ, List.replicate_zero, List.getElem?_cons_zero, List.getElem?_cons_succ, List.set_cons_zero, List.set_cons_succ, List.foldl_cons, List.foldl_nil, if_true, if_false, ite_true, ite_false, reduceIte, reduceCtorEq, Int.reduceLT, Int.reduceLE, Int.reducePow, Int.reduceToNat, Nat.reducePow, Nat.reduceLT, Nat.reduceLeDiff, Int.reduceAdd, Int.reduceSub, Int.reduceMul, Int.reduceNeg, Nat.reduceAdd, Nat.reduceSub, Int.reduceEq, Nat.reduceEqDiff, decide_true, decide_false, and_self, Bool.and_self, Bool.and_true, Bool.true_and, and_true, true_and, Nat.zero_le, Bool.not_true, Bool.not_false, Bool.false_eq_true, decide_eq_true_eq, goOn, turn, isRowD]; done) | (simp [okD] at h)
theorem is_grid_ev {k : Nat} (n : Nat) (d : D) (h : okD (k + 2) d = true) : f_is_grid [d, .int n] = .ok (.bl (isGridD n d)) := by
  unfold f_is_grid m_is_grid
  cases d with
  | tup xs =>
    have hxs : okDs (k + 1) xs = true := by simpa [okD] using h
    have hlc := lc_map (i := 2) (p := eCall f_are_below (aCons (rd 2) (aCons (rd 1) (aCons (rd 1) aNil)))) (ρ := [some (.val (.tup xs)), some (.val (.int n)), none]) (g := fun d => .bl (isRowD n d)) xs fun d hd => by
      simp (implicitDefEqProofs := false) only [isInt_non, isInt_bl, isInt_int, isInt_str, isInt_tup, isInt_lst, isBool_non, isBool_bl, isBool_int, isBool_str, isBool_tup, isBool_lst, isTuple_non, isTuple_bl, isTuple_int, isTuple_str, isTuple_tup, isTuple_lst, isStr_non, isStr_bl, isStr_int, isStr_str, isStr_tup, isStr_lst, biLen_tup, biTuple_tup, biList_tup, itD_tup, truD_tup, biLen_lst, biTuple_lst, biList_lst, itD_lst, truD_lst, biLen_scr, biLen_dI, biLen_dT, truD_non, truD_bl, truD_int, asB_bl, isNon_non, isNon_bl, isNon_int, isNon_str, isNon_tup, isNon_lst, runF, endF, sSeq, thenS, sSet, sSetN, sRet, sIf, sExpr, sNil, sPass, sCont, sFrz, sKill, eCall, aCons, aNil, aStar, rd, ro, cst, frz, op2, cmp2, cmp3, ofB, eAnd, eOr, eNot, eNeg, eIf, tAnd', tOr', tNot', tru, eTup, eLst, eIx, eSl, oNone, oSome, b1, b2, eIsi, noExc_ok, noExc_err, biAbs, biInt, opAdd, opSub, opMul, smI_lit, opPow, smP1015, Bool.or_true, Bool.true_or, opDiv, opMod, cmLt, cmLe, cmGt, cmGe, cmInt, cmIs, cmIsNot, itR, itRC, rgM, rgMC, its, gtN, gtT, gtCons, gtNil, sAsg, sApp, appM, isOwnL, sFor, freeze1, wipeN, eListR, eTupR, eMeth, isSq_tup, isSq_lst, eRev, ok_bind, err_bind, List.map_cons, List.map_nil, List.length_cons, List.length_nil, List.cons_append, List.nil_append, List.replicate_succ, List.replicate_zero, List.getElem?_cons_zero, List.getElem?_cons_succ, List.set_cons_zero, List.set_cons_succ, List.foldl_cons, List.foldl_nil, if_true, if_false, ite_true, ite_false, reduceIte, reduceCtorEq, Int.reduceLT, Int.reduceLE, Int.reducePow, Int.reduceToNat, Nat.reducePow, Nat.reduceLT, Nat.reduceLeDiff, Int.reduceAdd, Int.reduceSub, Int.reduceMul, Int.reduceNeg, Nat.reduceAdd, Nat.reduceSub, Int.reduceEq, Nat.reduceEqDiff, decide_true, decide_false, and_self, Bool.and_self, Bool.and_true, Bool.true_and, and_true, true_and, Nat.zero_le, Bool.not_true, Bool.not_false, Bool.false_eq_true, decide_eq_true_eq, goOn, turn, are_below_ev n d (okDs_mem hxs d hd)]
    cases hl : xs.length == n with
    | true => simp (implicitDefEqProofs := false) only [isInt_non, isInt_bl, isInt_int, isInt_str, isInt_tup, isInt_lst, isBool_non, isBool_bl, isBool_int, isBool_str, isBool_tup, isBool_lst, isTuple_non, isTuple_bl, isTuple_int, isTuple_str, isTuple_tup, isTuple_lst, isStr_non, isStr_bl, isStr_int, isStr_str, isStr_tup, isStr_lst, biLen_tup, biTuple_tup, biList_tup, itD_tup, truD_tup, biLen_lst, biTuple_lst, biList_lst, itD_lst, truD_lst, biLen_scr, biLen_dI, biLen_dT, truD_non, truD_bl, truD_int, asB_bl, isNon_non, isNon_bl, isNon_int, isNon_str, isNon_tup, isNon_lst, runF, endF, sSeq, thenS, sSet, sSetN, sRet, sIf, sExpr, sNil, sPass, sCont, sFrz, sKill, eCall, aCons, aNil, aStar, rd, ro, cst, frz, op2, cmp2, cmp3, ofB, eAnd, eOr, eNot, eNeg, eIf, tAnd', tOr', tNot', tru, eTup, eLst, eIx, eSl, oNone, oSome, b1, b2, eIsi, noExc_ok, noExc_err, biAbs, biInt, opAdd, opSub, opMul, smI_lit, opPow, smP1015, Bool.or_true, Bool.true_or, opDiv, opMod, cmLt, cmLe, cmGt, cmGe, cmInt, cmIs, cmIsNot, itR, itRC, rgM, rgMC, its, gtN, gtT, gtCons, gtNil, sAsg, sApp, appM, isOwnL, sFor, freeze1, wipeN, eListR, eTupR, eMeth, isSq_tup, isSq_lst, eRev, ok_bind, err_bind, List.map_cons, List.map_nil, List.length_cons, List.length_nil, List.cons_append, List.nil_append, List.replicate_succ, List.replicate_zero, List.getElem?_cons_zero, List.getElem?_cons_succ, List.set_cons_zero, List.set_cons_succ, List.foldl_cons, List.foldl_nil, if_true, if_false, ite_true, ite_false, reduceIte, reduceCtorEq, Int.reduceLT, Int.reduceLE, Int.reducePow, Int.reduceToNat, Nat.reducePow, Nat.reduceLT, Nat.reduceLeDiff, Int.reduceAdd, Int.reduceSub, Int.reduceMul, Int.reduceNeg, Nat.reduceAdd, Nat.reduceSub, Int.reduceEq, Nat.reduceEqDiff, decide_true, decide_false, and_self, Bool.and_self, Bool.and_true, Bool.true_and, and_true, true_and, Nat.zero_le, Bool.not_true, Bool.not_false, Bool.false_eq_true, decide_eq_true_eq, goOn, turn, cmEq_int, nat_eqB, hl, eLC, hlc, all_map, isGridD, Bool.true_and]
    | false => simp (implicitDefEqProofs := false) only [isInt_non, isInt_bl, isInt_int, isInt_str, isInt_tup, isInt_lst, isBool_non, isBool_bl, isBool_int, isBool_str, isBool_tup, isBool_lst, isTuple_non, isTuple_bl, isTuple_int, isTuple_str, isTuple_tup, isTuple_lst, isStr_non, isStr_bl, isStr_int, isStr_str, isStr_tup, isStr_lst, biLen_tup, biTuple_tup, biList_tup, itD_tup, truD_tup, biLen_lst, biTuple_lst, biList_lst, itD_lst, truD_lst, biLen_scr, biLen_dI, biLen_dT, truD_non, truD_bl, truD_int, asB_bl, isNon_non, isNon_bl, isNon_int, isNon_str, isNon_tup, isNon_lst, runF, endF, sSeq, thenS, sSet, sSetN, sRet, sIf, sExpr, sNil, sPass, sCont, sFrz, sKill, eCall, aCons, aNil, aStar, rd, ro, cst, frz, op2, cmp2, cmp3, ofB, eAnd, eOr, eNot, eNeg, eIf, tAnd', tOr', tNot', tru, eTup, eLst, eIx, eSl, oNone, oSome, b1, b2, eIsi, noExc_ok, noExc_err, biAbs, biInt, opAdd, opSub, opMul, smI_lit, opPow, smP1015, Bool.or_true, Bool.true_or, opDiv, opMod, cmLt, cmLe, cmGt, cmGe, cmInt, cmIs, cmIsNot, itR, itRC, rgM, rgMC, its, gtN, gtT, gtCons, gtNil, sAsg, sApp, appM, isOwnL, sFor, freeze1, wipeN, eListR, eTupR, eMeth, isSq_tup, isSq_lst, eRev, ok_bind, err_bind, List.map_cons, List.map_nil, List.length_cons, List.length_nil, List.cons_append, List.nil_append, List.replicate_succ, List.replicate_zero, List.getElem?_cons_zero, List.getElem?_cons_succ, List.set_cons_zero, List.set_cons_succ, List.foldl_cons, List.foldl_nil, if_true, if_false, ite_true, ite_false, reduceIte, reduceCtorEq, Int.reduceLT, Int.reduceLE, Int.reducePow, Int.reduceToNat, Nat.reducePow, Nat.reduceLT, Nat.reduceLeDiff, Int.reduceAdd, Int.reduceSub, Int.reduceMul, Int.reduceNeg, Nat.reduceAdd, Nat.reduceSub, Int.reduceEq, Nat.reduceEqDiff, decide_true, decide_false, and_self, Bool.and_self, Bool.and_true, Bool.true_and, and_true, true_and, Nat.zero_le, Bool.not_true, Bool.not_false, Bool.false_eq_true, decide_eq_true_eq, goOn, turn, cmEq_int, nat_eqB, hl, isGridD, Bool.false_and]
  | _ => first | (simp (implicitDefEqProofs := false) only [isInt_non, isInt_bl, isInt_int, isInt_str, isInt_tup, isInt_lst, isBool_non, isBool_bl, isBool_int, isBool_str, isBool_tup, isBool_lst, isTuple_non, isTuple_bl, isTuple_int, isTuple_str, isTuple_tup, isTuple_lst, isStr_non, isStr_bl, isStr_int, isStr_str, isStr_tup, isStr_lst, biLen_tup, biTuple_tup, biList_tup, itD_tup, truD_tup, biLen_lst, biTuple_lst, biList_lst, itD_lst, truD_lst, biLen_scr, biLen_dI, biLen_dT, truD_non, truD_bl, truD_int, asB_bl, isNon_non, isNon_bl, isNon_int, isNon_str, isNon_tup, isNon_lst, runF, endF, sSeq, thenS, sSet, sSetN, sRet, sIf, sExpr, sNil, sPass, sCont, sFrz, sKill, eCall, aCons, aNil, aStar, rd, ro, cst, frz, op2, cmp2, cmp3, ofB, eAnd, eOr, eNot, eNeg, eIf, tAnd', tOr', tNot', tru, eTup, eLst, eIx, eSl, oNone, oSome, b1, b2, eIsi, noExc_ok, noExc_err, biAbs, biInt, opAdd, opSub, opMul, smI_lit, opPow, smP1015, Bool.or_true, Bool.true_or, opDiv, opMod, cmLt, cmLe, cmGt, cmGe, cmInt, cmIs, cmIsNot, itR, itRC, rgM, rgMC, its, gtN, gtT, gtCons, gtNil, sAsg, sApp, appM, isOwnL, sFor, freeze1, wipeN, eListR, eTupR, eMeth, isSq_tup, isSq_lst, eRev, ok_bind, err_bind, List.map_cons, List.map_nil, List.length_cons, List.length_nil, List.cons_append, List.nil_append, List.replicate_succ, List.replicate_zero, List.getElem?_cons_zero, List.getElem?_cons_succ, List.set_cons_zero, List.set_cons_succ, List.foldl_cons, List.foldl_nil, if_true, if_false, ite_true, ite_false, reduceIte, reduceCtorEq, Int.reduceLT, Int.reduceLE, Int.reducePow, Int.reduceToNat, Nat.reducePow, Nat.reduceLT, Nat.reduceLeDiff, Int.reduceAdd, Int.reduceSub, Int.reduceMul, Int.reduceNeg, Nat.reduceAdd, Nat.reduceSub, Int.reduceEq, Nat.reduceEqDiff, decide_true, decide_false, and_self, Bool.and_self, Bool.and_true, Bool.true_and, and_true, true_and, Nat.zero_le, Bool.not_true, Bool.not_false, Bool.false_eq_true, decide_eq_true_eq, goOn, turn, isGridD]; done) | (simp [okD] at h)
/-- two grids of one size 1 .. 24 -/
def areGridsD : D → Bool
  | .tup [.tup xs, y] => decide (1 ≤ xs.length) && decide (xs.length ≤ 24) && isGridD xs.length (.tup xs) && isGridD xs.length y
  | _ => false
theorem are_grids_ev {k : Nat} (d : D) (h : okD (k + 3) d = true) : f_are_grids [d] = .ok (.bl (areGridsD d)) := by
  unfold f_are_grids m_are_grids
  cases d with
  | tup ds =>
    have hds : okDs (k + 2) ds = true := by simpa [okD] using h
    match ds, hds with
    | [], _ => simp (implicitDefEqProofs := false) only [isInt_non, isInt_bl, isInt_int, isInt_str, isInt_tup, isInt_lst, isBool_non, isBool_bl, isBool_int, isBool_str, isBool_tup, isBool_lst, isTuple_non, isTuple_bl, isTuple_int, isTuple_str, isTuple_tup, isTuple_lst, isStr_non, isStr_bl, isStr_int, isStr_str, isStr_tup, isStr_lst, biLen_tup, biTuple_tup, biList_tup, itD_tup, truD_tup, biLen_lst, biTuple_lst, biList_lst, itD_lst, truD_lst, biLen_scr, biLen_dI, biLen_dT, truD_non, truD_bl, truD_int, asB_bl, isNon_non, isNon_bl, isNon_int, isNon_str, isNon_tup, isNon_lst, runF, endF, sSeq, thenS, sSet, sSetN, sRet, sIf, sExpr, sNil, sPass, sCont, sFrz, sKill, eCall, aCons, aNil, aStar, rd, ro, cst, frz, op2, cmp2, cmp3, ofB, eAnd, eOr, eNot, eNeg, eIf, tAnd', tOr', tNot', tru, eTup, eLst, eIx, eSl, oNone, oSome, b1, b2, eIsi, noExc_ok, noExc_err, biAbs, biInt, opAdd, opSub, opMul, smI_lit, opPow, smP1015, Bool.or_true, Bool.true_or, opDiv, opMod, cmLt, cmLe, cmGt, cmGe, cmInt, cmIs, cmIsNot, itR, itRC, rgM, rgMC, its, gtN, gtT, gtCons, gtNil, sAsg, sApp, appM, isOwnL, sFor, freeze1, wipeN, eListR, eTupR, eMeth, isSq_tup, isSq_lst, eRev, ok_bind, err_bind, List.map_cons, List.map_nil, List.length_cons, List.length_nil, List.cons_append, List.nil_append, List.replicate_succ, List.replicate_zero, List.getElem?_cons_zero, List.getElem?_cons_succ, List.set_cons_zero, List.set_cons_succ, List.foldl_cons, List.foldl_nil, if_true, if_false, ite_true, ite_false, reduceIte, reduceCtorEq, Int.reduceLT, Int.reduceLE, Int.reducePow, Int.reduceToNat, Nat.reducePow, Nat.reduceLT, Nat.reduceLeDiff, Int.reduceAdd, Int.reduceSub, Int.reduceMul, Int.reduceNeg, Nat.reduceAdd, Nat.reduceSub, Int.reduceEq, Nat.reduceEqDiff, decide_true, decide_false, and_self, Bool.and_self, Bool.and_true, Bool.true_and, and_true, true_and, Nat.zero_le, Bool.not_true, Bool.not_false, Bool.false_eq_true, decide_eq_true_eq, goOn, turn, cmNe_int, areGridsD]; rfl
    | [x], _ => simp (implicitDefEqProofs := false) only [isInt_non, isInt_bl, isInt_int, isInt_str, isInt_tup, isInt_lst, isBool_non, isBool_bl, isBool_int, isBool_str, isBool_tup, isBool_lst, isTuple_non, isTuple_bl, isTuple_int, isTuple_str, isTuple_tup, isTuple_lst, isStr_non, isStr_bl, isStr_int, isStr_str, isStr_tup, isStr_lst, biLen_tup, biTuple_tup, biList_tup, itD_tup, truD_tup, biLen_lst, biTuple_lst, biList_lst, itD_lst, truD_lst, biLen_scr, biLen_dI, biLen_dT, truD_non, truD_bl, truD_int, asB_bl, isNon_non, isNon_bl, isNon_int, isNon_str, isNon_tup, isNon_lst, runF, endF, sSeq, thenS, sSet, sSetN, sRet, sIf, sExpr, sNil, sPass, sCont, sFrz, sKill, eCall, aCons, aNil, aStar, rd, ro, cst, frz, op2, cmp2, cmp3, ofB, eAnd, eOr, eNot, eNeg, eIf, tAnd', tOr', tNot', tru, eTup, eLst, eIx, eSl, oNone, oSome, b1, b2, eIsi, noExc_ok, noExc_err, biAbs, biInt, opAdd, opSub, opMul, smI_lit, opPow, smP1015, Bool.or_true, Bool.true_or, opDiv, opMod, cmLt, cmLe, cmGt, cmGe, cmInt, cmIs, cmIsNot, itR, itRC, rgM, rgMC, its, gtN, gtT, gtCons, gtNil, sAsg, sApp, appM, isOwnL, sFor, freeze1, wipeN, eListR, eTupR, eMeth, isSq_tup, isSq_lst, eRev, ok_bind, err_bind, List.map_cons, List.map_nil, List.length_cons, List.length_nil, List.cons_append, List.nil_append, List.replicate_succ, List.replicate_zero, List.getElem?_cons_zero, List.getElem?_cons_succ, List.set_cons_zero, List.set_cons_succ, List.foldl_cons, List.foldl_nil, if_true, if_false, ite_true, ite_false, reduceIte, reduceCtorEq, Int.reduceLT, Int.reduceLE, Int.reducePow, Int.reduceToNat, Nat.reducePow, Nat.reduceLT, Nat.reduceLeDiff, Int.reduceAdd, Int.reduceSub, Int.reduceMul, Int.reduceNeg, Nat.reduceAdd, Nat.reduceSub, Int.reduceEq, Nat.reduceEqDiff, decide_true, decide_false, and_self, Bool.and_self, Bool.and_true, Bool.true_and, and_true, true_and, Nat.zero_le, Bool.not_true, Bool.not_false, Bool.false_eq_true, decide_eq_true_eq, goOn, turn, cmNe_int, areGridsD]; rfl
    | x :: y :: z :: r, _ =>
      have hne : decide (((r.length + 1 + 1 + 1 : Nat) : Int) = 2) = false := decide_eq_false (by omega)
      simp (implicitDefEqProofs := false) only [isInt_non, isInt_bl, isInt_int, isInt_str, isInt_tup, isInt_lst, isBool_non, isBool_bl, isBool_int, isBool_str, isBool_tup, isBool_lst, isTuple_non, isTuple_bl, isTuple_int, isTuple_str, isTuple_tup, isTuple_lst, isStr_non, isStr_bl, isStr_int, isStr_str, isStr_tup, isStr_lst, biLen_tup, biTuple_tup, biList_tup, itD_tup, truD_tup, biLen_lst, biTuple_lst, biList_lst, itD_lst, truD_lst, biLen_scr, biLen_dI, biLen_dT, truD_non, truD_bl, truD_int, asB_bl, isNon_non, isNon_bl, isNon_int, isNon_str, isNon_tup, isNon_lst, runF, endF, sSeq, thenS, sSet, sSetN, sRet, sIf, sExpr, sNil, sPass, sCont, sFrz, sKill, eCall, aCons, aNil, aStar, rd, ro, cst, frz, op2, cmp2, cmp3, ofB, eAnd, eOr, eNot, eNeg, eIf, tAnd', tOr', tNot', tru, eTup, eLst, eIx, eSl, oNone, oSome, b1, b2, eIsi, noExc_ok, noExc_err, biAbs, biInt, opAdd, opSub, opMul, smI_lit, opPow, smP1015, Bool.or_true, Bool.true_or, opDiv, opMod, cmLt, cmLe, cmGt, cmGe, cmInt, cmIs, cmIsNot, itR, itRC, rgM, rgMC, its, gtN, gtT, gtCons, gtNil, sAsg, sApp, appM, isOwnL, sFor, freeze1, wipeN, eListR, eTupR, eMeth, isSq_tup, isSq_lst, eRev, ok_bind, err_bind, List.map_cons, List.map_nil, List.length_cons, List.length_nil, List.cons_append, List.nil_append, List.replicate_succ, List.replicate_zero, List.getElem?_cons_zero, List.getElem?_cons_succ, List.set_cons_zero, List.set_cons_succ, List.foldl_cons, List.foldl_nil, if_true, if_false, ite_true, ite_false, reduceIte, reduceCtorEq, Int.reduceLT, Int.reduceLE, Int.reducePow, Int.reduceToNat, Nat.reducePow, Nat.reduceLT, Nat.reduceLeDiff, Int.reduceAdd, Int.reduceSub, Int.reduceMul, Int.reduceNeg, Nat.reduceAdd, Nat.reduceSub, Int.reduceEq, Nat.reduceEqDiff, decide_true, decide_false, and_self, Bool.and_self, Bool.and_true, Bool.true_and, and_true, true_and, Nat.zero_le, Bool.not_true, Bool.not_false, Bool.false_eq_true, decide_eq_true_eq, goOn, turn, cmNe_int, hne, areGridsD]
    | [x, y], hds =>
      have hx := okDs_mem hds x (by simp)
      have hy := okDs_mem hds y (by simp)
      have i0 : ∀ x, ixD (.tup [x, y]) (.int 0) = .ok x := fun _ => rfl
      have i1 : ∀ x, ixD (.tup [x, y]) (.int 1) = .ok y := fun _ => rfl
      have e2 : (((0 + 1 + 1 : Nat) : Int) = 2) = True := by simp
      cases x with
      | tup xs =>
        by_cases h1 : 1 ≤ xs.length
        · have h1' : (1 : Int) ≤ (xs.length : Int) := by omega
          by_cases h2 : xs.length ≤ 24
          · have h2' : (xs.length : Int) ≤ 24 := by omega
            cases hg : isGridD xs.length (.tup xs) with
            | true => simp (implicitDefEqProofs := false) only [isInt_non, isInt_bl, isInt_int, isInt_str, isInt_tup, isInt_lst, isBool_non, isBool_bl, isBool_int, isBool_str, isBool_tup, isBool_lst, isTuple_non, isTuple_bl, isTuple_int, isTuple_str, isTuple_tup, isTuple_lst, isStr_non, isStr_bl, isStr_int, isStr_str, isStr_tup, isStr_lst, biLen_tup, biTuple_tup, biList_tup, itD_tup, truD_tup, biLen_lst, biTuple_lst, biList_lst, itD_lst, truD_lst, biLen_scr, biLen_dI, biLen_dT, truD_non, truD_bl, truD_int, asB_bl, isNon_non, isNon_bl, isNon_int, isNon_str, isNon_tup, isNon_lst, runF, endF, sSeq, thenS, sSet, sSetN, sRet, sIf, sExpr, sNil, sPass, sCont, sFrz, sKill, eCall, aCons, aNil, aStar, rd, ro, cst, frz, op2, cmp2, cmp3, ofB, eAnd, eOr, eNot, eNeg, eIf, tAnd', tOr', tNot', tru, eTup, eLst, eIx, eSl, oNone, oSome, b1, b2, eIsi, noExc_ok, noExc_err, biAbs, biInt, opAdd, opSub, opMul, smI_lit, opPow, smP1015, Bool.or_true, Bool.true_or, opDiv, opMod, cmLt, cmLe, cmGt, cmGe, cmInt, cmIs, cmIsNot, itR, itRC, rgM, rgMC, its, gtN, gtT, gtCons, gtNil, sAsg, sApp, appM, isOwnL, sFor, freeze1, wipeN, eListR, eTupR, eMeth, isSq_tup, isSq_lst, eRev, ok_bind, err_bind, List.map_cons, List.map_nil, List.length_cons, List.length_nil, List.cons_append, List.nil_append, List.replicate_succ, List.replicate_zero, List.getElem?_cons_zero, List.getElem?_cons_succ, List.set_cons_zero, List.set_cons_succ, List.foldl_cons, List.foldl_nil, if_true, if_false, ite_true, ite_false, reduceIte, reduceCtorEq, Int.reduceLT, Int.reduceLE, Int.reducePow, Int.reduceToNat, Nat.reducePow, Nat.reduceLT, Nat.reduceLeDiff, Int.reduceAdd, Int.reduceSub, Int.reduceMul, Int.reduceNeg, Nat.reduceAdd, Nat.reduceSub, Int.reduceEq, Nat.reduceEqDiff, decide_true, decide_false, and_self, Bool.and_self, Bool.and_true, Bool.true_and, and_true, true_and, Nat.zero_le, Bool.not_true, Bool.not_false, Bool.false_eq_true, decide_eq_true_eq, goOn, turn, cmNe_int, i0, i1, e2, h1', h2', is_grid_ev xs.length _ hx, is_grid_ev xs.length _ hy, hg, areGridsD, h1, h2]
            | false => simp (implicitDefEqProofs := false) only [isInt_non, isInt_bl, isInt_int, isInt_str, isInt_tup, isInt_lst, isBool_non, isBool_bl, isBool_int, isBool_str, isBool_tup, isBool_lst, isTuple_non, isTuple_bl, isTuple_int, isTuple_str, isTuple_tup, isTuple_lst, isStr_non, isStr_bl, isStr_int, isStr_str, isStr_tup, isStr_lst, biLen_tup, biTuple_tup, biList_tup, itD_tup, truD_tup, biLen_lst, biTuple_lst, biList_lst, itD_lst, truD_lst, biLen_scr, biLen_dI, biLen_dT, truD_non, truD_bl, truD_int, asB_bl, isNon_non, isNon_bl, isNon_int, isNon_str, isNon_tup, isNon_lst, runF, endF, sSeq, thenS, sSet, sSetN, sRet, sIf, sExpr, sNil, sPass, sCont, sFrz, sKill, eCall, aCons, aNil, aStar, rd, ro, cst, frz, op2, cmp2, cmp3, ofB, eAnd, eOr, eNot, eNeg, eIf, tAnd', tOr', tNot', tru, eTup, eLst, eIx, eSl, oNone, oSome, b1, b2, eIsi, noExc_ok, noExc_err, biAbs, biInt, opAdd, opSub, opMul, smI_lit, opPow, smP1015, Bool.or_true, Bool.true_or, opDiv, opMod, cmLt, cmLe, cmGt, cmGe, cmInt, cmIs, cmIsNot, itR, itRC, rgM, rgMC, its, gtN, gtT, gtCons, gtNil, sAsg, sApp, appM, isOwnL, sFor, freeze1, wipeN, eListR, eTupR, eMeth, isSq_tup, isSq_lst, eRev, ok_bind, err_bind, List.map_cons, List.map_nil, List.length_cons, List.length_nil, List.cons_append, List.nil_append, List.replicate_succ, List.replicate_zero, List.getElem?_cons_zero, List.getElem?_cons_succ, List.set_cons_zero, List.set_cons_succ, List.foldl_cons, List.foldl_nil, if_true, if_false, ite_true, ite_false, reduceIte, reduceCtorEq, Int.reduceLT, Int.reduceLE, Int.reducePow, Int.reduceToNat, Nat.reducePow, Nat.reduceLT, Nat.reduceLeDiff, Int.reduceAdd, Int.reduceSub, Int.reduceMul, Int.reduceNeg, Nat.reduceAdd, Nat.reduceSub, Int.reduceEq, Nat.reduceEqDiff, decide_true, decide_false, and_self, Bool.and_self, Bool.and_true, Bool.true_and, and_true, true_and, Nat.zero_le, Bool.not_true, Bool.not_false, Bool.false_eq_true, decide_eq_true_eq, goOn, turn, cmNe_int, i0, i1, e2, h1', h2', is_grid_ev xs.length _ hx, is_grid_ev xs.length _ hy, hg, areGridsD, h1, h2, Bool.and_false, Bool.false_and]
          · have h2' : ¬ (xs.length : Int) ≤ 24 := by omega
            simp (implicitDefEqProofs := false) only [isInt_non, isInt_bl, isInt_int, isInt_str, isInt_tup, isInt_lst, isBool_non, isBool_bl, isBool_int, isBool_str, isBool_tup, isBool_lst, isTuple_non, isTuple_bl, isTuple_int, isTuple_str, isTuple_tup, isTuple_lst, isStr_non, isStr_bl, isStr_int, isStr_str, isStr_tup, isStr_lst, biLen_tup, biTuple_tup, biList_tup, itD_tup, truD_tup, biLen_lst, biTuple_lst, biList_lst, itD_lst, truD_lst, biLen_scr, biLen_dI, biLen_dT, truD_non, truD_bl, truD_int, asB_bl, isNon_non, isNon_bl, isNon_int, isNon_str, isNon_tup, isNon_lst, runF, endF, sSeq, thenS, sSet, sSetN, sRet, sIf, sExpr, sNil, sPass, sCont, sFrz, sKill, eCall, aCons, aNil, aStar, rd, ro, cst, frz, op2, cmp2, cmp3, ofB, eAnd, eOr, eNot, eNeg, eIf, tAnd', tOr', tNot', tru, eTup, eLst, eIx, eSl, oNone, oSome, b1, b2, eIsi, noExc_ok, noExc_err, biAbs, biInt, opAdd, opSub, opMul, smI_lit, opPow, smP1015, Bool.or_true, Bool.true_or, opDiv, opMod, cmLt, cmLe, cmGt, cmGe, cmInt, cmIs, cmIsNot, itR, itRC, rgM, rgMC, its, gtN, gtT, gtCons, gtNil, sAsg, sApp, appM, isOwnL, sFor, freeze1, wipeN, eListR, eTupR, eMeth, isSq_tup, isSq_lst, eRev, ok_bind, err_bind, List.map_cons, List.map_nil, List.length_cons, List.length_nil, List.cons_append, List.nil_append, List.replicate_succ, List.replicate_zero, List.getElem?_cons_zero, List.getElem?_cons_succ, List.set_cons_zero, List.set_cons_succ, List.foldl_cons, List.foldl_nil, if_true, if_false, ite_true, ite_false, reduceIte, reduceCtorEq, Int.reduceLT, Int.reduceLE, Int.reducePow, Int.reduceToNat, Nat.reducePow, Nat.reduceLT, Nat.reduceLeDiff, Int.reduceAdd, Int.reduceSub, Int.reduceMul, Int.reduceNeg, Nat.reduceAdd, Nat.reduceSub, Int.reduceEq, Nat.reduceEqDiff, decide_true, decide_false, and_self, Bool.and_self, Bool.and_true, Bool.true_and, and_true, true_and, Nat.zero_le, Bool.not_true, Bool.not_false, Bool.false_eq_true, decide_eq_true_eq, goOn, turn, cmNe_int, i0, i1, e2, h1', h2', areGridsD, h1, h2, Bool.and_false, Bool.false_and]
        · have h1' : ¬ (1 : Int) ≤ (xs.length : Int) := by omega
          simp (implicitDefEqProofs := false) only [isInt_non, isInt_bl, isInt_int, isInt_str, isInt_tup, isInt_lst, isBool_non, isBool_bl, isBool_int, isBool_str, isBool_tup, isBool_lst, isTuple_non, isTuple_bl, isTuple_int, isTuple_str, isTuple_tup, isTuple_lst, isStr_non, isStr_bl, isStr_int, isStr_str, isStr_tup, isStr_lst, biLen_tup, biTuple_tup, biList_tup, itD_tup, truD_tup, biLen_lst, biTuple_lst, biList_lst, itD_lst, truD_lst, biLen_scr, biLen_dI, biLen_dT, truD_non, truD_bl, truD_int, asB_bl, isNon_non, isNon_bl, isNon_int, isNon_str, isNon_tup, isNon_lst, runF, endF, sSeq, thenS, sSet, sSetN, sRet, sIf, sExpr, sNil, sPass, sCont, sFrz, sKill, eCall, aCons, aNil, aStar, rd, ro, cst, frz, op2, cmp2, cmp3, ofB, eAnd, eOr, eNot, eNeg, eIf, tAnd', tOr', tNot', tru, eTup, eLst, eIx, eSl, oNone, oSome, b1, b2, eIsi, noExc_ok, noExc_err, biAbs, biInt, opAdd, opSub, opMul, smI_lit, opPow, smP1015, Bool.or_true, Bool.true_or, opDiv, opMod, cmLt, cmLe, cmGt, cmGe, cmInt, cmIs, cmIsNot, itR, itRC, rgM, rgMC, its, gtN, gtT, gtCons, gtNil, sAsg, sApp, appM, isOwnL, sFor, freeze1, wipeN, eListR, eTupR, eMeth, isSq_tup, isSq_lst, eRev, ok_bind, err_bind, List.map_cons, List.map_nil, List.length_cons, List.length_nil, List.cons_append, List.nil_append, List.replicate_succ, List.replicate_zero, List.getElem?_cons_zero, List.getElem?_cons_succ, List.set_cons_zero, List.set_cons_succ, List.foldl_cons, List.foldl_nil, if_true, if_false, ite_true, ite_false, reduceIte, reduceCtorEq, Int.reduceLT, Int.reduceLE, Int.reducePow, Int.reduceToNat, Nat.reducePow, Nat.reduceLT, Nat.reduceLeDiff, Int.reduceAdd, Int.reduceSub, Int.reduceMul, Int.reduceNeg, Nat.reduceAdd, Nat.reduceSub, Int.reduceEq, Nat.reduceEqDiff, decide_true, decide_false, and_self, Bool.and_self, Bool.and_true, Bool.true_and, and_true, true_and, Nat.zero_le, Bool.not_true, Bool.not_false, Bool.false_eq_true, decide_eq_true_eq, goOn, turn, cmNe_int, i0, i1, e2, h1', areGridsD, h1, Bool.and_false, Bool.false_and]
      | _ => first | (simp (implicitDefEqProofs := false) only [isInt_non, isInt_bl, isInt_int, isInt_str, isInt_tup, isInt_lst, isBool_non, isBool_bl, isBool_int, isBool_str, isBool_tup, isBool_lst, isTuple_non, isTuple_bl, isTuple_int, isTuple_str, isTuple_tup, isTuple_lst, isStr_non, isStr_bl, isStr_int, isStr_str, isStr_tup, isStr_lst, biLen_tup, biTuple_tup, biList_tup, itD_tup, truD_tup, biLen_lst, biTuple_lst, biList_lst, itD_lst, truD_lst, biLen_scr, biLen_dI, biLen_dT, truD_non, truD_bl, truD_int, asB_bl, isNon_non, isNon_bl, isNon_int, isNon_str, isNon_tup, isNon_lst, runF, endF, sSeq, thenS, sSet, sSetN, sRet, sIf, sExpr, sNil, sPass, sCont, sFrz, sKill, eCall, aCons, aNil, aStar, rd, ro, cst, frz, op2, cmp2, cmp3, ofB, eAnd, eOr, eNot, eNeg, eIf, tAnd', tOr', tNot', tru, eTup, eLst, eIx, eSl, oNone, oSome, b1, b2, eIsi, noExc_ok, noExc_err, biAbs, biInt, opAdd, opSub, opMul, smI_lit, opPow, smP1015, Bool.or_true, Bool.true_or, opDiv, opMod, cmLt, cmLe, cmGt, cmGe, cmInt, cmIs, cmIsNot, itR, itRC, rgM, rgMC, its, gtN, gtT, gtCons, gtNil, sAsg, sApp, appM, isOwnL, sFor, freeze1, wipeN, eListR, eTupR, eMeth, isSq_tup, isSq_lst, eRev, ok_bind, err_bind, List.map_cons, List.map_nil, List.length_cons, List.length_nil, List.cons_append, List.nil_append, List.replicate_succ, List.replicate_zero, List.getElem?_cons_zero, List.getElem?_cons_succ, List.set_cons_zero, List.set_cons_succ, List.foldl_cons, List.foldl_nil, if_true, if_false, ite_true, ite_false, reduceIte, reduceCtorEq, Int.reduceLT, Int.reduceLE, Int.reducePow, Int.reduceToNat, Nat.reducePow, Nat.reduceLT, Nat.reduceLeDiff, Int.reduceAdd, Int.reduceSub, Int.reduceMul, Int.reduceNeg, Nat.reduceAdd, Nat.reduceSub, Int.reduceEq, Nat.reduceEqDiff, decide_true, decide_false, and_self, Bool.and_self, Bool.and_true, Bool.true_and, and_true, true_and, Nat.zero_le, Bool.not_true, Bool.not_false, Bool.false_eq_true, decide_eq_true_eq, goOn, turn, cmNe_int, i0, e2, areGridsD]; done) | (simp [okD] at hx)
  | _ => first | (simp (implicitDefEqProofs := false) only [isInt_non, isInt_bl, isInt_int, isInt_str, isInt_tup, isInt_lst, isBool_non, isBool_bl, isBool_int, isBool_str, isBool_tup, isBool_lst, isTuple_non, isTuple_bl, isTuple_int, isTuple_str, isTuple_tup, isTuple_lst, isStr_non, isStr_bl, isStr_int, isStr_str, isStr_tup, isStr_lst, biLen_tup, biTuple_tup, biList_tup, itD_tup, truD_tup, biLen_lst, biTuple_lst, biList_lst, itD_lst, truD_lst, biLen_scr, biLen_dI, biLen_dT, truD_non, truD_bl, truD_int, asB_bl, isNon_non, isNon_bl, isNon_int, isNon_str, isNon_tup, isNon_lst, runF, endF, sSeq, thenS, sSet, sSetN, sRet, sIf, sExpr, sNil, sPass, sCont, sFrz, sKill, eCall, aCons, aNil, aStar, rd, ro, cst, frz, op2, cmp2, cmp3, ofB, eAnd, eOr, eNot, eNeg, eIf, tAnd', tOr', tNot', tru, eTup, eLst, eIx, eSl, oNone, oSome, b1, b2, eIsi, noExc_ok, noExc_err, biAbs, biInt, opAdd, opSub, opMul, smI_lit, opPow, smP1015, Bool.or_true, Bool.true_or, opDiv, opMod, cmLt, cmLe, cmGt, cmGe, cmInt, cmIs, cmIsNot, itR, itRC, rgM, rgMC, its, gtN, gtT, gtCons, gtNil, sAsg, sApp, appM, isOwnL, sFor, freeze1, wipeN, eListR, eTupR, eMeth, isSq_tup, isSq_lst, eRev, ok_bind, err_bind, List.map_cons, List.map_nil, List.length_cons, List.length_nil, List.cons_append, List.nil_append, List.replicate_succ, List.replicate_zero, List.getElem?_cons_zero, List.getElem?_cons_succ, List.set_cons_zero, List.set_cons_succ, List.foldl_cons, List.foldl_nil, if_true, if_false, ite_true, ite_false, reduceIte, reduceCtorEq, Int.reduceLT, Int.reduceLE, Int.reducePow, Int.reduceToNat, Nat.reducePow, Nat.reduceLT, Nat.reduceLeDiff, Int.reduceAdd, Int.reduceSub, Int.reduceMul, Int.reduceNeg, Nat.reduceAdd, Nat.reduceSub, Int.reduceEq, Nat.reduceEqDiff, decide_true, decide_false, and_self, Bool.and_self, Bool.and_true, Bool.true_and, and_true, true_and, Nat.zero_le, Bool.not_true, Bool.not_false, Bool.false_eq_true, decide_eq_true_eq, goOn, turn, areGridsD]; done) | (simp [okD] at h)
end Sim

namespace Sim
open PySem L2
/-! EvT: all rows; the first that fails. -/
theorem go2_map {f : D → Res (List D)} {g : D → List D} : ∀ ds : List D, (∀ d ∈ ds, f d = .ok (g d)) → go2 f ds = .ok (ds.flatMap g)
  | [], _ => rfl
  | d :: ds, h => by
    unfold go2
    rw [h d List.mem_cons_self]
    simp (implicitDefEqProofs := false) only [ok_bind, go2_map ds fun x hx => h x (List.mem_cons_of_mem _ hx), List.flatMap_cons]
def tupl (l : List (List Nat)) : List D := l.map fun x => .tup (nats x)
def nextR (n : Nat) (l : List (List Nat)) : List (List Nat) := l.flatMap fun r => (List.range n).map fun x => r ++ [x]
def rowsR (n : Nat) : Nat → List (List Nat)
  | 0 => [[]]
  | j + 1 => nextR n (rowsR n j)
theorem nextR_len (n : Nat) (l : List (List Nat)) : (nextR n l).length = n * l.length := by
  unfold nextR
  induction l with
  | nil => simp
  | cons a l ih => rw [List.flatMap_cons, List.length_append, ih, List.length_map, List.length_range, List.length_cons, Nat.mul_add, Nat.mul_one, Nat.add_comm]
theorem rowsR_len (n : Nat) : ∀ j, (rowsR n j).length = n ^ j
  | 0 => rfl
  | j + 1 => by rw [rowsR, nextR_len, rowsR_len n j, Nat.pow_succ, Nat.mul_comm]
theorem rowsR_mem {n : Nat} : ∀ {j : Nat} {r : List Nat}, r ∈ rowsR n j → r.length = j ∧ ∀ x ∈ r, x < n
  | 0, r, h => by
    have e : r = [] := by simpa [rowsR] using h
    subst e
    exact ⟨rfl, by simp⟩
  | j + 1, r, h => by
    unfold rowsR nextR at h
    obtain ⟨q, hq, h⟩ := List.mem_flatMap.mp h
    obtain ⟨x, hx, rfl⟩ := List.mem_map.mp h
    obtain ⟨h1, h2⟩ := rowsR_mem hq
    refine ⟨by simp [h1], fun y hy => ?_⟩
    rcases List.mem_append.mp hy with z | z
    · exact h2 y z
    · rw [List.mem_singleton] at z; rw [z]; exact List.mem_range.mp hx
theorem tupl_next (n : Nat) (l : List (List Nat)) : (tupl l).flatMap (fun d => match d with | .tup xs => (rgD 0 (n : Int)).map (fun x => .tup (xs ++ [x])) | _ => []) = tupl (nextR n l) := by
  unfold tupl nextR
  rw [List.flatMap_map, List.map_flatMap]
  congr 1
  funext r
  rw [rgD_nats]
  show (nats (List.range n)).map (fun x => D.tup (nats r ++ [x])) = _
  unfold nats
  rw [List.map_map, List.map_map]
  congr 1
  funext x
  simp
theorem pow_small {n k j : Nat} (hk : j ≤ k) (h : n ^ k ≤ 1000000) : n ^ j ≤ 1000000 := by
  rcases Nat.eq_zero_or_pos n with e | e
  · subst e
    cases j with
    | zero => simp
    | succ j => simp [Nat.zero_pow (Nat.succ_pos j)]
  · exact Nat.le_trans (Nat.pow_le_pow_right e hk) h
theorem tupl_len (l : List (List Nat)) : (tupl l).length = l.length := by unfold tupl; simp
theorem all_tuples_ev (many n : Nat) (hm : many ≤ 1000) (hn : n ≤ 1000) (hb : n ^ many ≤ 1000000) : f_all_tuples [.int many, .int n] = .ok (.lst (tupl (rowsR n many))) := by
  have hF := rngF_nat (n := many) (by omega)
  have hN := rngF_nat (n := n) (by omega)
  obtain ⟨ρ', g1, g2, g3⟩ := forGo_inv0 (gt := gtN 3) (kill := [3]) (m := sSetN 2 (eLC2 (its (ro 2)) [4, 5] (gtN 4) (itR (cst (.int 0)) (rd 1)) [5] (gtN 5) tsYes (frz (op2 opAdd (ro 4) (eTup (aCons (rd 5) aNil))))))
    (fun j ρ => j ≤ many ∧ ρ = [some (.val (.int many)), some (.val (.int n)), some (.own (.lst (tupl (rowsR n j)))), none, none, none])
    (rgD 0 (many : Int)) [some (.val (.int many)), some (.val (.int n)), some (.own (.lst [.tup []])), none, none, none] ⟨Nat.zero_le _, rfl⟩
    (fun j d ρ e ⟨g1, g3⟩ => by
      obtain ⟨rfl, hj⟩ := rgD_get e
      subst g3
      refine ⟨[some (.val (.int many)), some (.val (.int n)), some (.own (.lst (tupl (rowsR n (j + 1))))), none, none, none], ?_, hj, rfl⟩
      have hgo := go2_map (f := lc2Step (gtN 4) (itR (cst (.int 0)) (rd 1)) [5] (gtN 5) tsYes (frz (op2 opAdd (ro 4) (eTup (aCons (rd 5) aNil)))) [some (.val (.int many)), some (.val (.int n)), some (.own (.lst (tupl (rowsR n j)))), some (.val (.int (j : Nat))), none, none])
        (g := fun d => match d with | .tup xs => (rgD 0 (n : Int)).map (fun x => .tup (xs ++ [x])) | _ => []) (tupl (rowsR n j)) (fun d hd => by
          obtain ⟨r, hr, rfl⟩ := List.mem_map.mp hd
          have hlr : (nats r).length + (0 + 1) ≤ lim := by
            rw [nats_len, (rowsR_mem hr).1]; unfold lim; omega
          have h1l : 0 + 1 ≤ lim := by decide
          have hlc := lc_map (i := 5) (p := frz (op2 opAdd (ro 4) (eTup (aCons (rd 5) aNil)))) (ρ := [some (.val (.int many)), some (.val (.int n)), some (.own (.lst (tupl (rowsR n j)))), some (.val (.int (j : Nat))), some (.val (.tup (nats r))), none]) (g := fun x => .tup (nats r ++ [x])) (rgD 0 (n : Int)) (fun x hx => by
            simp (implicitDefEqProofs := false) only [isInt_non, isInt_bl, isInt_int, isInt_str, isInt_tup, isInt_lst, isBool_non, isBool_bl, isBool_int, isBool_str, isBool_tup, isBool_lst, isTuple_non, isTuple_bl, isTuple_int, isTuple_str, isTuple_tup, isTuple_lst, isStr_non, isStr_bl, isStr_int, isStr_str, isStr_tup, isStr_lst, biLen_tup, biTuple_tup, biList_tup, itD_tup, truD_tup, biLen_lst, biTuple_lst, biList_lst, itD_lst, truD_lst, biLen_scr, biLen_dI, biLen_dT, truD_non, truD_bl, truD_int, asB_bl, isNon_non, isNon_bl, isNon_int, isNon_str, isNon_tup, isNon_lst, runF, endF, sSeq, thenS, sSet, sSetN, sRet, sIf, sExpr, sNil, sPass, sCont, sFrz, sKill, eCall, aCons, aNil, aStar, rd, ro, cst, frz, op2, cmp2, cmp3, ofB, eAnd, eOr, eNot, eNeg, eIf, tAnd', tOr', tNot', tru, eTup, eLst, eIx, eSl, oNone, oSome, b1, b2, eIsi, noExc_ok, noExc_err, biAbs, biInt, opAdd, opSub, opMul, smI_lit, opPow, smP1015, Bool.or_true, Bool.true_or, opDiv, opMod, cmLt, cmLe, cmGt, cmGe, cmInt, cmIs, cmIsNot, itR, itRC, rgM, rgMC, its, gtN, gtT, gtCons, gtNil, sAsg, sApp, appM, isOwnL, sFor, freeze1, wipeN, eListR, eTupR, eMeth, isSq_tup, isSq_lst, eRev, ok_bind, err_bind, List.map_cons, List.map_nil, List.length_cons, List.length_nil, List.cons_append, List.nil_append, List.replicate_succ, List.replicate_zero, List.getElem?_cons_zero, List.getElem?_cons_succ, List.set_cons_zero, List.set_cons_succ, List.foldl_cons, List.foldl_nil, if_true, if_false, ite_true, ite_false, reduceIte, reduceCtorEq, Int.reduceLT, Int.reduceLE, Int.reducePow, Int.reduceToNat, Nat.reducePow, Nat.reduceLT, Nat.reduceLeDiff, Int.reduceAdd, Int.reduceSub, Int.reduceMul, Int.reduceNeg, Nat.reduceAdd, Nat.reduceSub, Int.reduceEq, Nat.reduceEqDiff, decide_true, decide_false, and_self, Bool.and_self, Bool.and_true, Bool.true_and, and_true, true_and, Nat.zero_le, Bool.not_true, Bool.not_false, Bool.false_eq_true, decide_eq_true_eq, goOn, turn, hlr, h1l])
          simp (implicitDefEqProofs := false) only [isInt_non, isInt_bl, isInt_int, isInt_str, isInt_tup, isInt_lst, isBool_non, isBool_bl, isBool_int, isBool_str, isBool_tup, isBool_lst, isTuple_non, isTuple_bl, isTuple_int, isTuple_str, isTuple_tup, isTuple_lst, isStr_non, isStr_bl, isStr_int, isStr_str, isStr_tup, isStr_lst, biLen_tup, biTuple_tup, biList_tup, itD_tup, truD_tup, biLen_lst, biTuple_lst, biList_lst, itD_lst, truD_lst, biLen_scr, biLen_dI, biLen_dT, truD_non, truD_bl, truD_int, asB_bl, isNon_non, isNon_bl, isNon_int, isNon_str, isNon_tup, isNon_lst, runF, endF, sSeq, thenS, sSet, sSetN, sRet, sIf, sExpr, sNil, sPass, sCont, sFrz, sKill, eCall, aCons, aNil, aStar, rd, ro, cst, frz, op2, cmp2, cmp3, ofB, eAnd, eOr, eNot, eNeg, eIf, tAnd', tOr', tNot', tru, eTup, eLst, eIx, eSl, oNone, oSome, b1, b2, eIsi, noExc_ok, noExc_err, biAbs, biInt, opAdd, opSub, opMul, smI_lit, opPow, smP1015, Bool.or_true, Bool.true_or, opDiv, opMod, cmLt, cmLe, cmGt, cmGe, cmInt, cmIs, cmIsNot, itR, itRC, rgM, rgMC, its, gtN, gtT, gtCons, gtNil, sAsg, sApp, appM, isOwnL, sFor, freeze1, wipeN, eListR, eTupR, eMeth, isSq_tup, isSq_lst, eRev, ok_bind, err_bind, List.map_cons, List.map_nil, List.length_cons, List.length_nil, List.cons_append, List.nil_append, List.replicate_succ, List.replicate_zero, List.getElem?_cons_zero, List.getElem?_cons_succ, List.set_cons_zero, List.set_cons_succ, List.foldl_cons, List.foldl_nil, if_true, if_false, ite_true, ite_false, reduceIte, reduceCtorEq, Int.reduceLT, Int.reduceLE, Int.reducePow, Int.reduceToNat, Nat.reducePow, Nat.reduceLT, Nat.reduceLeDiff, Int.reduceAdd, Int.reduceSub, Int.reduceMul, Int.reduceNeg, Nat.reduceAdd, Nat.reduceSub, Int.reduceEq, Nat.reduceEqDiff, decide_true, decide_false, and_self, Bool.and_self, Bool.and_true, Bool.true_and, and_true, true_and, Nat.zero_le, Bool.not_true, Bool.not_false, Bool.false_eq_true, decide_eq_true_eq, goOn, turn, lc2Step, hN, hlc])
      have hlen : (tupl (rowsR n (j + 1))).length ≤ lim := by
        rw [tupl_len, rowsR_len]
        have := pow_small (n := n) (j := j + 1) (k := many) hj hb
        unfold lim; omega
      rw [tupl_next, show nextR n (rowsR n j) = rowsR n (j + 1) from rfl] at hgo
      simp (implicitDefEqProofs := false) only [isInt_non, isInt_bl, isInt_int, isInt_str, isInt_tup, isInt_lst, isBool_non, isBool_bl, isBool_int, isBool_str, isBool_tup, isBool_lst, isTuple_non, isTuple_bl, isTuple_int, isTuple_str, isTuple_tup, isTuple_lst, isStr_non, isStr_bl, isStr_int, isStr_str, isStr_tup, isStr_lst, biLen_tup, biTuple_tup, biList_tup, itD_tup, truD_tup, biLen_lst, biTuple_lst, biList_lst, itD_lst, truD_lst, biLen_scr, biLen_dI, biLen_dT, truD_non, truD_bl, truD_int, asB_bl, isNon_non, isNon_bl, isNon_int, isNon_str, isNon_tup, isNon_lst, runF, endF, sSeq, thenS, sSet, sSetN, sRet, sIf, sExpr, sNil, sPass, sCont, sFrz, sKill, eCall, aCons, aNil, aStar, rd, ro, cst, frz, op2, cmp2, cmp3, ofB, eAnd, eOr, eNot, eNeg, eIf, tAnd', tOr', tNot', tru, eTup, eLst, eIx, eSl, oNone, oSome, b1, b2, eIsi, noExc_ok, noExc_err, biAbs, biInt, opAdd, opSub, opMul, smI_lit, opPow, smP1015, Bool.or_true, Bool.true_or, opDiv, opMod, cmLt, cmLe, cmGt, cmGe, cmInt, cmIs, cmIsNot, itR, itRC, rgM, rgMC, its, gtN, gtT, gtCons, gtNil, sAsg, sApp, appM, isOwnL, sFor, freeze1, wipeN, eListR, eTupR, eMeth, isSq_tup, isSq_lst, eRev, ok_bind, err_bind, List.map_cons, List.map_nil, List.length_cons, List.length_nil, List.cons_append, List.nil_append, List.replicate_succ, List.replicate_zero, List.getElem?_cons_zero, List.getElem?_cons_succ, List.set_cons_zero, List.set_cons_succ, List.foldl_cons, List.foldl_nil, if_true, if_false, ite_true, ite_false, reduceIte, reduceCtorEq, Int.reduceLT, Int.reduceLE, Int.reducePow, Int.reduceToNat, Nat.reducePow, Nat.reduceLT, Nat.reduceLeDiff, Int.reduceAdd, Int.reduceSub, Int.reduceMul, Int.reduceNeg, Nat.reduceAdd, Nat.reduceSub, Int.reduceEq, Nat.reduceEqDiff, decide_true, decide_false, and_self, Bool.and_self, Bool.and_true, Bool.true_and, and_true, true_and, Nat.zero_le, Bool.not_true, Bool.not_false, Bool.false_eq_true, decide_eq_true_eq, goOn, turn, eLC2, hgo, hlen])
  subst g3
  rw [rgD_len] at g1
  have h1l : 0 + 1 ≤ lim := by decide
  unfold f_all_tuples m_all_tuples
  simp (implicitDefEqProofs := false) only [isInt_non, isInt_bl, isInt_int, isInt_str, isInt_tup, isInt_lst, isBool_non, isBool_bl, isBool_int, isBool_str, isBool_tup, isBool_lst, isTuple_non, isTuple_bl, isTuple_int, isTuple_str, isTuple_tup, isTuple_lst, isStr_non, isStr_bl, isStr_int, isStr_str, isStr_tup, isStr_lst, biLen_tup, biTuple_tup, biList_tup, itD_tup, truD_tup, biLen_lst, biTuple_lst, biList_lst, itD_lst, truD_lst, biLen_scr, biLen_dI, biLen_dT, truD_non, truD_bl, truD_int, asB_bl, isNon_non, isNon_bl, isNon_int, isNon_str, isNon_tup, isNon_lst, runF, endF, sSeq, thenS, sSet, sSetN, sRet, sIf, sExpr, sNil, sPass, sCont, sFrz, sKill, eCall, aCons, aNil, aStar, rd, ro, cst, frz, op2, cmp2, cmp3, ofB, eAnd, eOr, eNot, eNeg, eIf, tAnd', tOr', tNot', tru, eTup, eLst, eIx, eSl, oNone, oSome, b1, b2, eIsi, noExc_ok, noExc_err, biAbs, biInt, opAdd, opSub, opMul, smI_lit, opPow, smP1015, Bool.or_true, Bool.true_or, opDiv, opMod, cmLt, cmLe, cmGt, cmGe, cmInt, cmIs, cmIsNot, itR, itRC, rgM, rgMC, its, gtN, gtT, gtCons, gtNil, sAsg, sApp, appM, isOwnL, sFor, freeze1, wipeN, eListR, eTupR, eMeth, isSq_tup, isSq_lst, eRev, ok_bind, err_bind, List.map_cons, List.map_nil, List.length_cons, List.length_nil, List.cons_append, List.nil_append, List.replicate_succ, List.replicate_zero, List.getElem?_cons_zero, List.getElem?_cons_succ, List.set_cons_zero, List.set_cons_succ, List.foldl_cons, List.foldl_nil, if_true, if_false, ite_true, ite_false, reduceIte, reduceCtorEq, Int.reduceLT, Int.reduceLE, Int.reducePow, Int.reduceToNat, Nat.reducePow, Nat.reduceLT, Nat.reduceLeDiff, Int.reduceAdd, Int.reduceSub, Int.reduceMul, Int.reduceNeg, Nat.reduceAdd, Nat.reduceSub, Int.reduceEq, Nat.reduceEqDiff, decide_true, decide_false, and_self, Bool.and_self, Bool.and_true, Bool.true_and, and_true, true_and, Nat.zero_le, Bool.not_true, Bool.not_false, Bool.false_eq_true, decide_eq_true_eq, goOn, turn, hF, h1l, g1]
theorem nextR_snoc (n : Nat) (l : List (List Nat)) (r : List Nat) : tupl (nextR n (l ++ [r])) = tupl (nextR n l) ++ (rgD 0 (n : Int)).map (fun x => .tup (nats r ++ [x])) := by
  unfold nextR
  rw [List.flatMap_append]
  unfold tupl
  rw [List.map_append]
  congr 1
  rw [rgD_nats, List.flatMap_cons, List.flatMap_nil, List.append_nil]
  unfold nats
  rw [List.map_map, List.map_map]
  congr 1
  funext x
  simp
theorem take_snoc {α : Type} : ∀ {l : List α} {i : Nat} {x : α}, l[i]? = some x → l.take (i + 1) = l.take i ++ [x]
  | [], i, x, h => by simp at h
  | a :: l, 0, x, h => by simp at h; subst h; simp
  | a :: l, i + 1, x, h => by
    have ih := take_snoc (l := l) (i := i) (x := x) (by simpa using h)
    simp [ih]
theorem all_rows_ev (many n : Nat) (hm : many ≤ 1000) (hn : n ≤ 1000) (hb : n ^ many ≤ 1000000) : f__law_all_rows [.int many, .int n] = .ok (.lst (tupl (rowsR n many))) := by
  have hF := rngF_nat (n := many) (by omega)
  have hN := rgOk_nat (n := n) (by omega)
  have h0l : 0 ≤ lim := Nat.zero_le _
  obtain ⟨ρ', g1, g2, s, gs, g3⟩ := forGo_inv0 (gt := gtN 3) (kill := [3, 4, 5]) (m := sSeq (sSetN 4 (eLst aNil)) (sSeq (sFrz [2] (sFor (its (rd 2)) (gtN 5) [5] (sSetN 4 (op2 opAdd (ro 4) (frz (eLC (itRC (cst (.int 0)) (rd 1)) [6] (gtN 6) tsYes (frz (op2 opAdd (ro 5) (eTup (aCons (rd 6) aNil)))))))))) (sFrz [4] (sSet 2 (rd 4)))))
    (fun j ρ => j ≤ many ∧ ∃ s, (s = Sl.own (.lst (tupl (rowsR n j))) ∨ s = Sl.val (.lst (tupl (rowsR n j)))) ∧ ρ = [some (.val (.int many)), some (.val (.int n)), some s, none, none, none, none])
    (rgD 0 (many : Int)) [some (.val (.int many)), some (.val (.int n)), some (.own (.lst [.tup []])), none, none, none, none] ⟨Nat.zero_le _, _, .inl rfl, rfl⟩
    (fun j d ρ e ⟨g1, s, gs, g3⟩ => by
      obtain ⟨rfl, hj⟩ := rgD_get e
      subst g3
      refine ⟨[some (.val (.int many)), some (.val (.int n)), some (.val (.lst (tupl (rowsR n (j + 1))))), none, none, none, none], ?_, hj, _, .inr rfl, rfl⟩
      obtain ⟨ρ2, k1, k2⟩ := forGo_inv0 (gt := gtN 5) (kill := [5]) (m := sSetN 4 (op2 opAdd (ro 4) (frz (eLC (itRC (cst (.int 0)) (rd 1)) [6] (gtN 6) tsYes (frz (op2 opAdd (ro 5) (eTup (aCons (rd 6) aNil))))))))
        (fun i ρ => ρ = [some (.val (.int many)), some (.val (.int n)), some (.val (.lst (tupl (rowsR n j)))), some (.val (.int (j : Nat))), some (.own (.lst (tupl (nextR n ((rowsR n j).take i))))), none, none])
        (tupl (rowsR n j)) [some (.val (.int many)), some (.val (.int n)), some (.val (.lst (tupl (rowsR n j)))), some (.val (.int (j : Nat))), some (.own (.lst [])), none, none] rfl
        (fun i d ρ e k2 => by
          subst k2
          have e2 : (rowsR n j)[i]? = some ((rowsR n j).getD i []) ∧ d = .tup (nats ((rowsR n j).getD i [])) := by
            unfold tupl at e
            rw [List.getElem?_map] at e
            cases z : (rowsR n j)[i]? with
            | none => rw [z] at e; cases e
            | some r => rw [z] at e; cases e; rw [List.getD_eq_getElem?_getD, z]; exact ⟨rfl, rfl⟩
          obtain ⟨e2, rfl⟩ := e2
          generalize (rowsR n j).getD i [] = r at e2
          refine ⟨_, ?_, rfl⟩
          have hr : r ∈ rowsR n j := List.mem_of_getElem? e2
          have hlr : (nats r).length + (0 + 1) ≤ lim := by
            rw [nats_len, (rowsR_mem hr).1]; unfold lim; omega
          have h1l : 0 + 1 ≤ lim := by decide
          have hlc := lc_map (i := 6) (p := frz (op2 opAdd (ro 5) (eTup (aCons (rd 6) aNil)))) (ρ := [some (.val (.int many)), some (.val (.int n)), some (.val (.lst (tupl (rowsR n j)))), some (.val (.int (j : Nat))), some (.own (.lst (tupl (nextR n ((rowsR n j).take i))))), some (.val (.tup (nats r))), none]) (g := fun x => .tup (nats r ++ [x])) (rgD 0 (n : Int)) (fun x hx => by
            simp (implicitDefEqProofs := false) only [isInt_non, isInt_bl, isInt_int, isInt_str, isInt_tup, isInt_lst, isBool_non, isBool_bl, isBool_int, isBool_str, isBool_tup, isBool_lst, isTuple_non, isTuple_bl, isTuple_int, isTuple_str, isTuple_tup, isTuple_lst, isStr_non, isStr_bl, isStr_int, isStr_str, isStr_tup, isStr_lst, biLen_tup, biTuple_tup, biList_tup, itD_tup, truD_tup, biLen_lst, biTuple_lst, biList_lst, itD_lst, truD_lst, biLen_scr, biLen_dI, biLen_dT, truD_non, truD_bl, truD_int, asB_bl, isNon_non, isNon_bl, isNon_int, isNon_str, isNon_tup, isNon_lst, runF, endF, sSeq, thenS, sSet, sSetN, sRet, sIf, sExpr, sNil, sPass, sCont, sFrz, sKill, eCall, aCons, aNil, aStar, rd, ro, cst, frz, op2, cmp2, cmp3, ofB, eAnd, eOr, eNot, eNeg, eIf, tAnd', tOr', tNot', tru, eTup, eLst, eIx, eSl, oNone, oSome, b1, b2, eIsi, noExc_ok, noExc_err, biAbs, biInt, opAdd, opSub, opMul, smI_lit, opPow, smP1015, Bool.or_true, Bool.true_or, opDiv, opMod, cmLt, cmLe, cmGt, cmGe, cmInt, cmIs, cmIsNot, itR, itRC, rgM, rgMC, its, gtN, gtT, gtCons, gtNil, sAsg, sApp, appM, isOwnL, sFor, freeze1, wipeN, eListR, eTupR, eMeth, isSq_tup, isSq_lst, eRev, ok_bind, err_bind, List.map_cons, List.map_nil, List.length_cons, List.length_nil, List.cons_append, List.nil_append, List.replicate_succ, List.replicate_zero, List.getElem?_cons_zero, List.getElem?_cons_succ, List.set_cons_zero, List.set_cons_succ, List.foldl_cons, List.foldl_nil, if_true, if_false, ite_true, ite_false, reduceIte, reduceCtorEq, Int.reduceLT, Int.reduceLE, Int.reducePow, Int.reduceToNat, Nat.reducePow, Nat.reduceLT, Nat.reduceLeDiff, Int.reduceAdd, Int.reduceSub, Int.reduceMul, Int.reduceNeg, Nat.reduceAdd, Nat.reduceSub, Int.reduceEq, Nat.reduceEqDiff, decide_true, decide_false, and_self, Bool.and_self, Bool.and_true, Bool.true_and, and_true, true_and, Nat.zero_le, Bool.not_true, Bool.not_false, Bool.false_eq_true, decide_eq_true_eq, goOn, turn, hlr, h1l])
          have hlen : (tupl (nextR n ((rowsR n j).take i))).length + ((rgD 0 (n : Int)).map (fun x => D.tup (nats r ++ [x]))).length ≤ lim := by
            rw [tupl_len, nextR_len, List.length_map, rgD_len, List.length_take]
            have hi : i < (rowsR n j).length := (List.getElem?_eq_some_iff.mp e2).1
            have := pow_small (n := n) (j := j + 1) (k := many) hj hb
            rw [rowsR_len] at hi ⊢
            rw [Nat.min_eq_left (by omega)]
            have h2 : n * i + n ≤ n * n ^ j := by
              have : n * (i + 1) ≤ n * n ^ j := Nat.mul_le_mul_left n hi
              rw [Nat.mul_add, Nat.mul_one] at this
              exact this
            rw [Nat.pow_succ, Nat.mul_comm] at this
            unfold lim; omega
          rw [take_snoc e2, nextR_snoc]
          simp (implicitDefEqProofs := false) only [isInt_non, isInt_bl, isInt_int, isInt_str, isInt_tup, isInt_lst, isBool_non, isBool_bl, isBool_int, isBool_str, isBool_tup, isBool_lst, isTuple_non, isTuple_bl, isTuple_int, isTuple_str, isTuple_tup, isTuple_lst, isStr_non, isStr_bl, isStr_int, isStr_str, isStr_tup, isStr_lst, biLen_tup, biTuple_tup, biList_tup, itD_tup, truD_tup, biLen_lst, biTuple_lst, biList_lst, itD_lst, truD_lst, biLen_scr, biLen_dI, biLen_dT, truD_non, truD_bl, truD_int, asB_bl, isNon_non, isNon_bl, isNon_int, isNon_str, isNon_tup, isNon_lst, runF, endF, sSeq, thenS, sSet, sSetN, sRet, sIf, sExpr, sNil, sPass, sCont, sFrz, sKill, eCall, aCons, aNil, aStar, rd, ro, cst, frz, op2, cmp2, cmp3, ofB, eAnd, eOr, eNot, eNeg, eIf, tAnd', tOr', tNot', tru, eTup, eLst, eIx, eSl, oNone, oSome, b1, b2, eIsi, noExc_ok, noExc_err, biAbs, biInt, opAdd, opSub, opMul, smI_lit, opPow, smP1015, Bool.or_true, Bool.true_or, opDiv, opMod, cmLt, cmLe, cmGt, cmGe, cmInt, cmIs, cmIsNot, itR, itRC, rgM, rgMC, its, gtN, gtT, gtCons, gtNil, sAsg, sApp, appM, isOwnL, sFor, freeze1, wipeN, eListR, eTupR, eMeth, isSq_tup, isSq_lst, eRev, ok_bind, err_bind, List.map_cons, List.map_nil, List.length_cons, List.length_nil, List.cons_append, List.nil_append, List.replicate_succ, List.replicate_zero, List.getElem?_cons_zero, List.getElem?_cons_succ, List.set_cons_zero, List.set_cons_succ, List.foldl_cons, List.foldl_nil, if_true, if_false, ite_true, ite_false, reduceIte, reduceCtorEq, Int.reduceLT, Int.reduceLE, Int.reducePow, Int.reduceToNat, Nat.reducePow, Nat.reduceLT, Nat.reduceLeDiff, Int.reduceAdd, Int.reduceSub, Int.reduceMul, Int.reduceNeg, Nat.reduceAdd, Nat.reduceSub, Int.reduceEq, Nat.reduceEqDiff, decide_true, decide_false, and_self, Bool.and_self, Bool.and_true, Bool.true_and, and_true, true_and, Nat.zero_le, Bool.not_true, Bool.not_false, Bool.false_eq_true, decide_eq_true_eq, goOn, turn, eLC, hN, hlc, hlen])
      subst k2
      rw [tupl_len, List.take_length, show nextR n (rowsR n j) = rowsR n (j + 1) from rfl] at k1
      rcases gs with rfl | rfl
      · simp (implicitDefEqProofs := false) only [isInt_non, isInt_bl, isInt_int, isInt_str, isInt_tup, isInt_lst, isBool_non, isBool_bl, isBool_int, isBool_str, isBool_tup, isBool_lst, isTuple_non, isTuple_bl, isTuple_int, isTuple_str, isTuple_tup, isTuple_lst, isStr_non, isStr_bl, isStr_int, isStr_str, isStr_tup, isStr_lst, biLen_tup, biTuple_tup, biList_tup, itD_tup, truD_tup, biLen_lst, biTuple_lst, biList_lst, itD_lst, truD_lst, biLen_scr, biLen_dI, biLen_dT, truD_non, truD_bl, truD_int, asB_bl, isNon_non, isNon_bl, isNon_int, isNon_str, isNon_tup, isNon_lst, runF, endF, sSeq, thenS, sSet, sSetN, sRet, sIf, sExpr, sNil, sPass, sCont, sFrz, sKill, eCall, aCons, aNil, aStar, rd, ro, cst, frz, op2, cmp2, cmp3, ofB, eAnd, eOr, eNot, eNeg, eIf, tAnd', tOr', tNot', tru, eTup, eLst, eIx, eSl, oNone, oSome, b1, b2, eIsi, noExc_ok, noExc_err, biAbs, biInt, opAdd, opSub, opMul, smI_lit, opPow, smP1015, Bool.or_true, Bool.true_or, opDiv, opMod, cmLt, cmLe, cmGt, cmGe, cmInt, cmIs, cmIsNot, itR, itRC, rgM, rgMC, its, gtN, gtT, gtCons, gtNil, sAsg, sApp, appM, isOwnL, sFor, freeze1, wipeN, eListR, eTupR, eMeth, isSq_tup, isSq_lst, eRev, ok_bind, err_bind, List.map_cons, List.map_nil, List.length_cons, List.length_nil, List.cons_append, List.nil_append, List.replicate_succ, List.replicate_zero, List.getElem?_cons_zero, List.getElem?_cons_succ, List.set_cons_zero, List.set_cons_succ, List.foldl_cons, List.foldl_nil, if_true, if_false, ite_true, ite_false, reduceIte, reduceCtorEq, Int.reduceLT, Int.reduceLE, Int.reducePow, Int.reduceToNat, Nat.reducePow, Nat.reduceLT, Nat.reduceLeDiff, Int.reduceAdd, Int.reduceSub, Int.reduceMul, Int.reduceNeg, Nat.reduceAdd, Nat.reduceSub, Int.reduceEq, Nat.reduceEqDiff, decide_true, decide_false, and_self, Bool.and_self, Bool.and_true, Bool.true_and, and_true, true_and, Nat.zero_le, Bool.not_true, Bool.not_false, Bool.false_eq_true, decide_eq_true_eq, goOn, turn, h0l, k1]
      · simp (implicitDefEqProofs := false) only [isInt_non, isInt_bl, isInt_int, isInt_str, isInt_tup, isInt_lst, isBool_non, isBool_bl, isBool_int, isBool_str, isBool_tup, isBool_lst, isTuple_non, isTuple_bl, isTuple_int, isTuple_str, isTuple_tup, isTuple_lst, isStr_non, isStr_bl, isStr_int, isStr_str, isStr_tup, isStr_lst, biLen_tup, biTuple_tup, biList_tup, itD_tup, truD_tup, biLen_lst, biTuple_lst, biList_lst, itD_lst, truD_lst, biLen_scr, biLen_dI, biLen_dT, truD_non, truD_bl, truD_int, asB_bl, isNon_non, isNon_bl, isNon_int, isNon_str, isNon_tup, isNon_lst, runF, endF, sSeq, thenS, sSet, sSetN, sRet, sIf, sExpr, sNil, sPass, sCont, sFrz, sKill, eCall, aCons, aNil, aStar, rd, ro, cst, frz, op2, cmp2, cmp3, ofB, eAnd, eOr, eNot, eNeg, eIf, tAnd', tOr', tNot', tru, eTup, eLst, eIx, eSl, oNone, oSome, b1, b2, eIsi, noExc_ok, noExc_err, biAbs, biInt, opAdd, opSub, opMul, smI_lit, opPow, smP1015, Bool.or_true, Bool.true_or, opDiv, opMod, cmLt, cmLe, cmGt, cmGe, cmInt, cmIs, cmIsNot, itR, itRC, rgM, rgMC, its, gtN, gtT, gtCons, gtNil, sAsg, sApp, appM, isOwnL, sFor, freeze1, wipeN, eListR, eTupR, eMeth, isSq_tup, isSq_lst, eRev, ok_bind, err_bind, List.map_cons, List.map_nil, List.length_cons, List.length_nil, List.cons_append, List.nil_append, List.replicate_succ, List.replicate_zero, List.getElem?_cons_zero, List.getElem?_cons_succ, List.set_cons_zero, List.set_cons_succ, List.foldl_cons, List.foldl_nil, if_true, if_false, ite_true, ite_false, reduceIte, reduceCtorEq, Int.reduceLT, Int.reduceLE, Int.reducePow, Int.reduceToNat, Nat.reducePow, Nat.reduceLT, Nat.reduceLeDiff, Int.reduceAdd, Int.reduceSub, Int.reduceMul, Int.reduceNeg, Nat.reduceAdd, Nat.reduceSub, Int.reduceEq, Nat.reduceEqDiff, decide_true, decide_false, and_self, Bool.and_self, Bool.and_true, Bool.true_and, and_true, true_and, Nat.zero_le, Bool.not_true, Bool.not_false, Bool.false_eq_true, decide_eq_true_eq, goOn, turn, h0l, k1])
  subst g3
  rw [rgD_len] at gs
  have h1l : 0 + 1 ≤ lim := by decide
  unfold f__law_all_rows m__law_all_rows
  rcases gs with rfl | rfl
  · simp (implicitDefEqProofs := false) only [isInt_non, isInt_bl, isInt_int, isInt_str, isInt_tup, isInt_lst, isBool_non, isBool_bl, isBool_int, isBool_str, isBool_tup, isBool_lst, isTuple_non, isTuple_bl, isTuple_int, isTuple_str, isTuple_tup, isTuple_lst, isStr_non, isStr_bl, isStr_int, isStr_str, isStr_tup, isStr_lst, biLen_tup, biTuple_tup, biList_tup, itD_tup, truD_tup, biLen_lst, biTuple_lst, biList_lst, itD_lst, truD_lst, biLen_scr, biLen_dI, biLen_dT, truD_non, truD_bl, truD_int, asB_bl, isNon_non, isNon_bl, isNon_int, isNon_str, isNon_tup, isNon_lst, runF, endF, sSeq, thenS, sSet, sSetN, sRet, sIf, sExpr, sNil, sPass, sCont, sFrz, sKill, eCall, aCons, aNil, aStar, rd, ro, cst, frz, op2, cmp2, cmp3, ofB, eAnd, eOr, eNot, eNeg, eIf, tAnd', tOr', tNot', tru, eTup, eLst, eIx, eSl, oNone, oSome, b1, b2, eIsi, noExc_ok, noExc_err, biAbs, biInt, opAdd, opSub, opMul, smI_lit, opPow, smP1015, Bool.or_true, Bool.true_or, opDiv, opMod, cmLt, cmLe, cmGt, cmGe, cmInt, cmIs, cmIsNot, itR, itRC, rgM, rgMC, its, gtN, gtT, gtCons, gtNil, sAsg, sApp, appM, isOwnL, sFor, freeze1, wipeN, eListR, eTupR, eMeth, isSq_tup, isSq_lst, eRev, ok_bind, err_bind, List.map_cons, List.map_nil, List.length_cons, List.length_nil, List.cons_append, List.nil_append, List.replicate_succ, List.replicate_zero, List.getElem?_cons_zero, List.getElem?_cons_succ, List.set_cons_zero, List.set_cons_succ, List.foldl_cons, List.foldl_nil, if_true, if_false, ite_true, ite_false, reduceIte, reduceCtorEq, Int.reduceLT, Int.reduceLE, Int.reducePow, Int.reduceToNat, Nat.reducePow, Nat.reduceLT, Nat.reduceLeDiff, Int.reduceAdd, Int.reduceSub, Int.reduceMul, Int.reduceNeg, Nat.reduceAdd, Nat.reduceSub, Int.reduceEq, Nat.reduceEqDiff, decide_true, decide_false, and_self, Bool.and_self, Bool.and_true, Bool.true_and, and_true, true_and, Nat.zero_le, Bool.not_true, Bool.not_false, Bool.false_eq_true, decide_eq_true_eq, goOn, turn, hF, h1l, g1]
  · simp (implicitDefEqProofs := false) only [isInt_non, isInt_bl, isInt_int, isInt_str, isInt_tup, isInt_lst, isBool_non, isBool_bl, isBool_int, isBool_str, isBool_tup, isBool_lst, isTuple_non, isTuple_bl, isTuple_int, isTuple_str, isTuple_tup, isTuple_lst, isStr_non, isStr_bl, isStr_int, isStr_str, isStr_tup, isStr_lst, biLen_tup, biTuple_tup, biList_tup, itD_tup, truD_tup, biLen_lst, biTuple_lst, biList_lst, itD_lst, truD_lst, biLen_scr, biLen_dI, biLen_dT, truD_non, truD_bl, truD_int, asB_bl, isNon_non, isNon_bl, isNon_int, isNon_str, isNon_tup, isNon_lst, runF, endF, sSeq, thenS, sSet, sSetN, sRet, sIf, sExpr, sNil, sPass, sCont, sFrz, sKill, eCall, aCons, aNil, aStar, rd, ro, cst, frz, op2, cmp2, cmp3, ofB, eAnd, eOr, eNot, eNeg, eIf, tAnd', tOr', tNot', tru, eTup, eLst, eIx, eSl, oNone, oSome, b1, b2, eIsi, noExc_ok, noExc_err, biAbs, biInt, opAdd, opSub, opMul, smI_lit, opPow, smP1015, Bool.or_true, Bool.true_or, opDiv, opMod, cmLt, cmLe, cmGt, cmGe, cmInt, cmIs, cmIsNot, itR, itRC, rgM, rgMC, its, gtN, gtT, gtCons, gtNil, sAsg, sApp, appM, isOwnL, sFor, freeze1, wipeN, eListR, eTupR, eMeth, isSq_tup, isSq_lst, eRev, ok_bind, err_bind, List.map_cons, List.map_nil, List.length_cons, List.length_nil, List.cons_append, List.nil_append, List.replicate_succ, List.replicate_zero, List.getElem?_cons_zero, List.getElem?_cons_succ, List.set_cons_zero, List.set_cons_succ, List.foldl_cons, List.foldl_nil, if_true, if_false, ite_true, ite_false, reduceIte, reduceCtorEq, Int.reduceLT, Int.reduceLE, Int.reducePow, Int.reduceToNat, Nat.reducePow, Nat.reduceLT, Nat.reduceLeDiff, Int.reduceAdd, Int.reduceSub, Int.reduceMul, Int.reduceNeg, Nat.reduceAdd, Nat.reduceSub, Int.reduceEq, Nat.reduceEqDiff, decide_true, decide_false, and_self, Bool.and_self, Bool.and_true, Bool.true_and, and_true, true_and, Nat.zero_le, Bool.not_true, Bool.not_false, Bool.false_eq_true, decide_eq_true_eq, goOn, turn, hF, h1l, g1]
/-! ### the first that fails -/
/-- a loop whose turns go on unless a value is bad, then return -/
theorem forGo_find {α : Type} {gt : D → Nv → Res Nv} {kill : List Nat} {m : Sx} {ρ : Nv} {enc : α → D} {bad : α → Bool} {r : α → D} : ∀ (l : List α),
    (∀ x ∈ l, bad x = false → turn gt kill m (enc x) ρ = .ok ρ) → (∀ x ∈ l, bad x = true → ∃ ρ1 ρ2, gt (enc x) ρ = .ok ρ1 ∧ m ρ1 = .ok (.rt (r x), ρ2)) →
    (l.find? bad = none ∧ forGo gt kill m (l.map enc) ρ = .ok (.nx, ρ)) ∨ (∃ x ρ2, l.find? bad = some x ∧ x ∈ l ∧ forGo gt kill m (l.map enc) ρ = .ok (.rt (r x), ρ2))
  | [], _, _ => .inl ⟨rfl, rfl⟩
  | x :: l, h1, h2 => by
    cases hb : bad x with
    | true =>
      obtain ⟨ρ1, ρ2, e1, e2⟩ := h2 x List.mem_cons_self hb
      refine .inr ⟨x, ρ2, by rw [List.find?_cons, hb], List.mem_cons_self, ?_⟩
      rw [List.map_cons, forGo, e1]
      simp (implicitDefEqProofs := false) only [noExc_ok, ok_bind, e2, forK]
    | false =>
      rw [List.map_cons, turn_ok (h1 x List.mem_cons_self hb), List.find?_cons, hb]
      rcases forGo_find l (fun y hy => h1 y (List.mem_cons_of_mem _ hy)) (fun y hy => h2 y (List.mem_cons_of_mem _ hy)) with ⟨a, b⟩ | ⟨y, ρ2, a, b, c⟩
      · exact .inl ⟨a, b⟩
      · exact .inr ⟨y, ρ2, a, List.mem_cons_of_mem _ b, c⟩
/-- a grid's entries are below n -/
def Bd (n : Nat) (t : Nat → Nat → Nat) : Prop := ∀ a b, a < n → b < n → t a b < n
def hasZ (n : Nat) (f : Nat → Nat) : Bool := ((List.range n).map f).any fun x => x == 0
def grpB (n : Nat) (t : Nat → Nat → Nat) (a b c : Nat) : Bool := (t a (t b c) == t (t a b) c) && ((t 0 a == a) && hasZ n (t a))
theorem any_nats (l : List Nat) : ((nats l).any fun z => eqD z (.int 0)) = l.any fun x => x == 0 := by
  unfold nats
  rw [List.any_map]
  congr 1
  funext x
  show eqD (.int (x : Nat)) (.int 0) = _
  rw [eqD_int]
  exact nat_eqB x 0
theorem in_row (n : Nat) (f : Nat → Nat) : cmIn (.int 0) (rowD n f) = .ok (hasZ n f) := by
  unfold rowD cmIn hasZ
  simp only
  rw [if_pos ⟨rfl, ok_nats _ _⟩, any_nats]
theorem group_at_ev {n : Nat} {t : Nat → Nat → Nat} (h : Bd n t) {a b c : Nat} (ha : a < n) (hb : b < n) (hc : c < n) : f_is_group_at [gridD n n t, .int a, .int b, .int c] = .ok (.bl (grpB n t a b c)) := by
  have h0 : 0 < n := by omega
  have i0 : ixD (gridD n n t) (.int 0) = .ok (rowD n (t 0)) := ix_grid h0
  unfold f_is_group_at m_is_group_at
  cases e1 : (t a (t b c) == t (t a b) c) with
  | false => simp (implicitDefEqProofs := false) only [isInt_non, isInt_bl, isInt_int, isInt_str, isInt_tup, isInt_lst, isBool_non, isBool_bl, isBool_int, isBool_str, isBool_tup, isBool_lst, isTuple_non, isTuple_bl, isTuple_int, isTuple_str, isTuple_tup, isTuple_lst, isStr_non, isStr_bl, isStr_int, isStr_str, isStr_tup, isStr_lst, biLen_tup, biTuple_tup, biList_tup, itD_tup, truD_tup, biLen_lst, biTuple_lst, biList_lst, itD_lst, truD_lst, biLen_scr, biLen_dI, biLen_dT, truD_non, truD_bl, truD_int, asB_bl, isNon_non, isNon_bl, isNon_int, isNon_str, isNon_tup, isNon_lst, runF, endF, sSeq, thenS, sSet, sSetN, sRet, sIf, sExpr, sNil, sPass, sCont, sFrz, sKill, eCall, aCons, aNil, aStar, rd, ro, cst, frz, op2, cmp2, cmp3, ofB, eAnd, eOr, eNot, eNeg, eIf, tAnd', tOr', tNot', tru, eTup, eLst, eIx, eSl, oNone, oSome, b1, b2, eIsi, noExc_ok, noExc_err, biAbs, biInt, opAdd, opSub, opMul, smI_lit, opPow, smP1015, Bool.or_true, Bool.true_or, opDiv, opMod, cmLt, cmLe, cmGt, cmGe, cmInt, cmIs, cmIsNot, itR, itRC, rgM, rgMC, its, gtN, gtT, gtCons, gtNil, sAsg, sApp, appM, isOwnL, sFor, freeze1, wipeN, eListR, eTupR, eMeth, isSq_tup, isSq_lst, eRev, ok_bind, err_bind, List.map_cons, List.map_nil, List.length_cons, List.length_nil, List.cons_append, List.nil_append, List.replicate_succ, List.replicate_zero, List.getElem?_cons_zero, List.getElem?_cons_succ, List.set_cons_zero, List.set_cons_succ, List.foldl_cons, List.foldl_nil, if_true, if_false, ite_true, ite_false, reduceIte, reduceCtorEq, Int.reduceLT, Int.reduceLE, Int.reducePow, Int.reduceToNat, Nat.reducePow, Nat.reduceLT, Nat.reduceLeDiff, Int.reduceAdd, Int.reduceSub, Int.reduceMul, Int.reduceNeg, Nat.reduceAdd, Nat.reduceSub, Int.reduceEq, Nat.reduceEqDiff, decide_true, decide_false, and_self, Bool.and_self, Bool.and_true, Bool.true_and, and_true, true_and, Nat.zero_le, Bool.not_true, Bool.not_false, Bool.false_eq_true, decide_eq_true_eq, goOn, turn, ix_grid ha, ix_grid hb, ix_row hc, ix_row (h b c hb hc), ix_row hb, ix_grid (h a b ha hb), cmEq_int, nat_eqB, e1, grpB, Bool.false_and]
  | true =>
    cases e2 : (t 0 a == a) with
    | false => simp (implicitDefEqProofs := false) only [isInt_non, isInt_bl, isInt_int, isInt_str, isInt_tup, isInt_lst, isBool_non, isBool_bl, isBool_int, isBool_str, isBool_tup, isBool_lst, isTuple_non, isTuple_bl, isTuple_int, isTuple_str, isTuple_tup, isTuple_lst, isStr_non, isStr_bl, isStr_int, isStr_str, isStr_tup, isStr_lst, biLen_tup, biTuple_tup, biList_tup, itD_tup, truD_tup, biLen_lst, biTuple_lst, biList_lst, itD_lst, truD_lst, biLen_scr, biLen_dI, biLen_dT, truD_non, truD_bl, truD_int, asB_bl, isNon_non, isNon_bl, isNon_int, isNon_str, isNon_tup, isNon_lst, runF, endF, sSeq, thenS, sSet, sSetN, sRet, sIf, sExpr, sNil, sPass, sCont, sFrz, sKill, eCall, aCons, aNil, aStar, rd, ro, cst, frz, op2, cmp2, cmp3, ofB, eAnd, eOr, eNot, eNeg, eIf, tAnd', tOr', tNot', tru, eTup, eLst, eIx, eSl, oNone, oSome, b1, b2, eIsi, noExc_ok, noExc_err, biAbs, biInt, opAdd, opSub, opMul, smI_lit, opPow, smP1015, Bool.or_true, Bool.true_or, opDiv, opMod, cmLt, cmLe, cmGt, cmGe, cmInt, cmIs, cmIsNot, itR, itRC, rgM, rgMC, its, gtN, gtT, gtCons, gtNil, sAsg, sApp, appM, isOwnL, sFor, freeze1, wipeN, eListR, eTupR, eMeth, isSq_tup, isSq_lst, eRev, ok_bind, err_bind, List.map_cons, List.map_nil, List.length_cons, List.length_nil, List.cons_append, List.nil_append, List.replicate_succ, List.replicate_zero, List.getElem?_cons_zero, List.getElem?_cons_succ, List.set_cons_zero, List.set_cons_succ, List.foldl_cons, List.foldl_nil, if_true, if_false, ite_true, ite_false, reduceIte, reduceCtorEq, Int.reduceLT, Int.reduceLE, Int.reducePow, Int.reduceToNat, Nat.reducePow, Nat.reduceLT, Nat.reduceLeDiff, Int.reduceAdd, Int.reduceSub, Int.reduceMul, Int.reduceNeg, Nat.reduceAdd, Nat.reduceSub, Int.reduceEq, Nat.reduceEqDiff, decide_true, decide_false, and_self, Bool.and_self, Bool.and_true, Bool.true_and, and_true, true_and, Nat.zero_le, Bool.not_true, Bool.not_false, Bool.false_eq_true, decide_eq_true_eq, goOn, turn, i0, ix_grid ha, ix_grid hb, ix_row hc, ix_row ha, ix_row (h b c hb hc), ix_row hb, ix_grid (h a b ha hb), cmEq_int, nat_eqB, e1, e2, grpB, Bool.false_and, Bool.true_and]
    | true => simp (implicitDefEqProofs := false) only [isInt_non, isInt_bl, isInt_int, isInt_str, isInt_tup, isInt_lst, isBool_non, isBool_bl, isBool_int, isBool_str, isBool_tup, isBool_lst, isTuple_non, isTuple_bl, isTuple_int, isTuple_str, isTuple_tup, isTuple_lst, isStr_non, isStr_bl, isStr_int, isStr_str, isStr_tup, isStr_lst, biLen_tup, biTuple_tup, biList_tup, itD_tup, truD_tup, biLen_lst, biTuple_lst, biList_lst, itD_lst, truD_lst, biLen_scr, biLen_dI, biLen_dT, truD_non, truD_bl, truD_int, asB_bl, isNon_non, isNon_bl, isNon_int, isNon_str, isNon_tup, isNon_lst, runF, endF, sSeq, thenS, sSet, sSetN, sRet, sIf, sExpr, sNil, sPass, sCont, sFrz, sKill, eCall, aCons, aNil, aStar, rd, ro, cst, frz, op2, cmp2, cmp3, ofB, eAnd, eOr, eNot, eNeg, eIf, tAnd', tOr', tNot', tru, eTup, eLst, eIx, eSl, oNone, oSome, b1, b2, eIsi, noExc_ok, noExc_err, biAbs, biInt, opAdd, opSub, opMul, smI_lit, opPow, smP1015, Bool.or_true, Bool.true_or, opDiv, opMod, cmLt, cmLe, cmGt, cmGe, cmInt, cmIs, cmIsNot, itR, itRC, rgM, rgMC, its, gtN, gtT, gtCons, gtNil, sAsg, sApp, appM, isOwnL, sFor, freeze1, wipeN, eListR, eTupR, eMeth, isSq_tup, isSq_lst, eRev, ok_bind, err_bind, List.map_cons, List.map_nil, List.length_cons, List.length_nil, List.cons_append, List.nil_append, List.replicate_succ, List.replicate_zero, List.getElem?_cons_zero, List.getElem?_cons_succ, List.set_cons_zero, List.set_cons_succ, List.foldl_cons, List.foldl_nil, if_true, if_false, ite_true, ite_false, reduceIte, reduceCtorEq, Int.reduceLT, Int.reduceLE, Int.reducePow, Int.reduceToNat, Nat.reducePow, Nat.reduceLT, Nat.reduceLeDiff, Int.reduceAdd, Int.reduceSub, Int.reduceMul, Int.reduceNeg, Nat.reduceAdd, Nat.reduceSub, Int.reduceEq, Nat.reduceEqDiff, decide_true, decide_false, and_self, Bool.and_self, Bool.and_true, Bool.true_and, and_true, true_and, Nat.zero_le, Bool.not_true, Bool.not_false, Bool.false_eq_true, decide_eq_true_eq, goOn, turn, i0, ix_grid ha, ix_grid hb, ix_row hc, ix_row ha, ix_row (h b c hb hc), ix_row hb, ix_grid (h a b ha hb), cmEq_int, nat_eqB, e1, e2, in_row, grpB, Bool.false_and, Bool.true_and]
theorem law_group_at_ev {n : Nat} {t : Nat → Nat → Nat} (h : Bd n t) {a b c : Nat} (ha : a < n) (hb : b < n) (hc : c < n) : f__law_group_at [gridD n n t, .int a, .int b, .int c] = .ok (.bl (grpB n t a b c)) := by
  have h0 : 0 < n := by omega
  have i0 : ixD (gridD n n t) (.int 0) = .ok (rowD n (t 0)) := ix_grid h0
  unfold f__law_group_at m__law_group_at
  cases e1 : (t a (t b c) == t (t a b) c) with
  | false => simp (implicitDefEqProofs := false) only [isInt_non, isInt_bl, isInt_int, isInt_str, isInt_tup, isInt_lst, isBool_non, isBool_bl, isBool_int, isBool_str, isBool_tup, isBool_lst, isTuple_non, isTuple_bl, isTuple_int, isTuple_str, isTuple_tup, isTuple_lst, isStr_non, isStr_bl, isStr_int, isStr_str, isStr_tup, isStr_lst, biLen_tup, biTuple_tup, biList_tup, itD_tup, truD_tup, biLen_lst, biTuple_lst, biList_lst, itD_lst, truD_lst, biLen_scr, biLen_dI, biLen_dT, truD_non, truD_bl, truD_int, asB_bl, isNon_non, isNon_bl, isNon_int, isNon_str, isNon_tup, isNon_lst, runF, endF, sSeq, thenS, sSet, sSetN, sRet, sIf, sExpr, sNil, sPass, sCont, sFrz, sKill, eCall, aCons, aNil, aStar, rd, ro, cst, frz, op2, cmp2, cmp3, ofB, eAnd, eOr, eNot, eNeg, eIf, tAnd', tOr', tNot', tru, eTup, eLst, eIx, eSl, oNone, oSome, b1, b2, eIsi, noExc_ok, noExc_err, biAbs, biInt, opAdd, opSub, opMul, smI_lit, opPow, smP1015, Bool.or_true, Bool.true_or, opDiv, opMod, cmLt, cmLe, cmGt, cmGe, cmInt, cmIs, cmIsNot, itR, itRC, rgM, rgMC, its, gtN, gtT, gtCons, gtNil, sAsg, sApp, appM, isOwnL, sFor, freeze1, wipeN, eListR, eTupR, eMeth, isSq_tup, isSq_lst, eRev, ok_bind, err_bind, List.map_cons, List.map_nil, List.length_cons, List.length_nil, List.cons_append, List.nil_append, List.replicate_succ, List.replicate_zero, List.getElem?_cons_zero, List.getElem?_cons_succ, List.set_cons_zero, List.set_cons_succ, List.foldl_cons, List.foldl_nil, if_true, if_false, ite_true, ite_false, reduceIte, reduceCtorEq, Int.reduceLT, Int.reduceLE, Int.reducePow, Int.reduceToNat, Nat.reducePow, Nat.reduceLT, Nat.reduceLeDiff, Int.reduceAdd, Int.reduceSub, Int.reduceMul, Int.reduceNeg, Nat.reduceAdd, Nat.reduceSub, Int.reduceEq, Nat.reduceEqDiff, decide_true, decide_false, and_self, Bool.and_self, Bool.and_true, Bool.true_and, and_true, true_and, Nat.zero_le, Bool.not_true, Bool.not_false, Bool.false_eq_true, decide_eq_true_eq, goOn, turn, ix_grid ha, ix_grid hb, ix_row hc, ix_row (h b c hb hc), ix_row hb, ix_grid (h a b ha hb), cmNe_int, nat_eqB, e1, grpB, Bool.false_and]
  | true =>
    cases e2 : (t 0 a == a) with
    | false => simp (implicitDefEqProofs := false) only [isInt_non, isInt_bl, isInt_int, isInt_str, isInt_tup, isInt_lst, isBool_non, isBool_bl, isBool_int, isBool_str, isBool_tup, isBool_lst, isTuple_non, isTuple_bl, isTuple_int, isTuple_str, isTuple_tup, isTuple_lst, isStr_non, isStr_bl, isStr_int, isStr_str, isStr_tup, isStr_lst, biLen_tup, biTuple_tup, biList_tup, itD_tup, truD_tup, biLen_lst, biTuple_lst, biList_lst, itD_lst, truD_lst, biLen_scr, biLen_dI, biLen_dT, truD_non, truD_bl, truD_int, asB_bl, isNon_non, isNon_bl, isNon_int, isNon_str, isNon_tup, isNon_lst, runF, endF, sSeq, thenS, sSet, sSetN, sRet, sIf, sExpr, sNil, sPass, sCont, sFrz, sKill, eCall, aCons, aNil, aStar, rd, ro, cst, frz, op2, cmp2, cmp3, ofB, eAnd, eOr, eNot, eNeg, eIf, tAnd', tOr', tNot', tru, eTup, eLst, eIx, eSl, oNone, oSome, b1, b2, eIsi, noExc_ok, noExc_err, biAbs, biInt, opAdd, opSub, opMul, smI_lit, opPow, smP1015, Bool.or_true, Bool.true_or, opDiv, opMod, cmLt, cmLe, cmGt, cmGe, cmInt, cmIs, cmIsNot, itR, itRC, rgM, rgMC, its, gtN, gtT, gtCons, gtNil, sAsg, sApp, appM, isOwnL, sFor, freeze1, wipeN, eListR, eTupR, eMeth, isSq_tup, isSq_lst, eRev, ok_bind, err_bind, List.map_cons, List.map_nil, List.length_cons, List.length_nil, List.cons_append, List.nil_append, List.replicate_succ, List.replicate_zero, List.getElem?_cons_zero, List.getElem?_cons_succ, List.set_cons_zero, List.set_cons_succ, List.foldl_cons, List.foldl_nil, if_true, if_false, ite_true, ite_false, reduceIte, reduceCtorEq, Int.reduceLT, Int.reduceLE, Int.reducePow, Int.reduceToNat, Nat.reducePow, Nat.reduceLT, Nat.reduceLeDiff, Int.reduceAdd, Int.reduceSub, Int.reduceMul, Int.reduceNeg, Nat.reduceAdd, Nat.reduceSub, Int.reduceEq, Nat.reduceEqDiff, decide_true, decide_false, and_self, Bool.and_self, Bool.and_true, Bool.true_and, and_true, true_and, Nat.zero_le, Bool.not_true, Bool.not_false, Bool.false_eq_true, decide_eq_true_eq, goOn, turn, i0, ix_grid ha, ix_grid hb, ix_row hc, ix_row ha, ix_row (h b c hb hc), ix_row hb, ix_grid (h a b ha hb), cmEq_int, cmNe_int, nat_eqB, e1, e2, grpB, Bool.false_and, Bool.true_and]
    | true => simp (implicitDefEqProofs := false) only [isInt_non, isInt_bl, isInt_int, isInt_str, isInt_tup, isInt_lst, isBool_non, isBool_bl, isBool_int, isBool_str, isBool_tup, isBool_lst, isTuple_non, isTuple_bl, isTuple_int, isTuple_str, isTuple_tup, isTuple_lst, isStr_non, isStr_bl, isStr_int, isStr_str, isStr_tup, isStr_lst, biLen_tup, biTuple_tup, biList_tup, itD_tup, truD_tup, biLen_lst, biTuple_lst, biList_lst, itD_lst, truD_lst, biLen_scr, biLen_dI, biLen_dT, truD_non, truD_bl, truD_int, asB_bl, isNon_non, isNon_bl, isNon_int, isNon_str, isNon_tup, isNon_lst, runF, endF, sSeq, thenS, sSet, sSetN, sRet, sIf, sExpr, sNil, sPass, sCont, sFrz, sKill, eCall, aCons, aNil, aStar, rd, ro, cst, frz, op2, cmp2, cmp3, ofB, eAnd, eOr, eNot, eNeg, eIf, tAnd', tOr', tNot', tru, eTup, eLst, eIx, eSl, oNone, oSome, b1, b2, eIsi, noExc_ok, noExc_err, biAbs, biInt, opAdd, opSub, opMul, smI_lit, opPow, smP1015, Bool.or_true, Bool.true_or, opDiv, opMod, cmLt, cmLe, cmGt, cmGe, cmInt, cmIs, cmIsNot, itR, itRC, rgM, rgMC, its, gtN, gtT, gtCons, gtNil, sAsg, sApp, appM, isOwnL, sFor, freeze1, wipeN, eListR, eTupR, eMeth, isSq_tup, isSq_lst, eRev, ok_bind, err_bind, List.map_cons, List.map_nil, List.length_cons, List.length_nil, List.cons_append, List.nil_append, List.replicate_succ, List.replicate_zero, List.getElem?_cons_zero, List.getElem?_cons_succ, List.set_cons_zero, List.set_cons_succ, List.foldl_cons, List.foldl_nil, if_true, if_false, ite_true, ite_false, reduceIte, reduceCtorEq, Int.reduceLT, Int.reduceLE, Int.reducePow, Int.reduceToNat, Nat.reducePow, Nat.reduceLT, Nat.reduceLeDiff, Int.reduceAdd, Int.reduceSub, Int.reduceMul, Int.reduceNeg, Nat.reduceAdd, Nat.reduceSub, Int.reduceEq, Nat.reduceEqDiff, decide_true, decide_false, and_self, Bool.and_self, Bool.and_true, Bool.true_and, and_true, true_and, Nat.zero_le, Bool.not_true, Bool.not_false, Bool.false_eq_true, decide_eq_true_eq, goOn, turn, i0, ix_grid ha, ix_grid hb, ix_row hc, ix_row ha, ix_row (h b c hb hc), ix_row hb, ix_grid (h a b ha hb), cmEq_int, cmNe_int, nat_eqB, e1, e2, in_row, grpB, Bool.false_and, Bool.true_and]
end Sim

namespace Sim
open PySem L2
/-! EvF: the first fault of two grids (k64). -/
theorem len_grid (m n : Nat) (t : Nat → Nat → Nat) : biLen (gridD m n t) = .ok (.val (.int (m : Nat))) := by
  unfold gridD biLen
  simp
theorem pow3 {n : Nat} (h : n ≤ 24) : n ^ 3 ≤ 1000000 := Nat.le_trans (Nat.pow_le_pow_left h 3) (by decide)
theorem row3 {n : Nat} {r : List Nat} (h : r ∈ rowsR n 3) : ∃ a b c, r = [a, b, c] ∧ a < n ∧ b < n ∧ c < n := by
  obtain ⟨h1, h2⟩ := rowsR_mem h
  match r, h1, h2 with
  | [a, b, c], _, h2 => exact ⟨a, b, c, rfl, h2 a (by simp), h2 b (by simp), h2 c (by simp)⟩
def optD : Option (List Nat) → D
  | none => .non
  | some r => .tup (nats r)
def badG (n : Nat) (t : Nat → Nat → Nat) (tu : Bool) : List Nat → Bool
  | [a, b, c] => !grpB n t a b c || (tu && !(t a b == t b a))
  | _ => false
theorem nats3 (a b c : Nat) : D.tup (nats [a, b, c]) = .tup [.int (a : Nat), .int (b : Nat), .int (c : Nat)] := rfl
theorem forGo_if {α : Type} {gt : D → Nv → Res Nv} {kill : List Nat} {m : Sx} {ρ : Nv} {enc : α → D} {bad : α → Bool} {r : α → D} (l : List α)
    (h : ∀ x ∈ l, ∃ ρ1 ρ2, gt (enc x) ρ = .ok ρ1 ∧ m ρ1 = .ok (if bad x = true then (.rt (r x), ρ2) else (.nx, ρ2)) ∧ (bad x = false → wipeN ρ2 kill = ρ)) :
    (l.find? bad = none ∧ forGo gt kill m (l.map enc) ρ = .ok (.nx, ρ)) ∨ (∃ x ρ2, l.find? bad = some x ∧ x ∈ l ∧ forGo gt kill m (l.map enc) ρ = .ok (.rt (r x), ρ2)) :=
  forGo_find l (fun x hx hb => by
    obtain ⟨ρ1, ρ2, e1, e2, e3⟩ := h x hx
    rw [hb, if_neg (by decide)] at e2
    simp (implicitDefEqProofs := false) only [turn, e1, ok_bind, e2, goOn, e3 hb]) fun x hx hb => by
    obtain ⟨ρ1, ρ2, e1, e2, e3⟩ := h x hx
    rw [hb, if_pos rfl] at e2
    exact ⟨ρ1, ρ2, e1, e2⟩
theorem group_break_ev {n : Nat} {t : Nat → Nat → Nat} (h : Bd n t) (hn : n ≤ 24) (tu : Bool) : f_group_break [gridD n n t, .bl tu] = .ok (optD ((rowsR n 3).find? (badG n t tu))) := by
  have h3 : (0 + 1 + 1 + 1 ≤ lim) = True := eq_true (by decide)
  have hall := all_tuples_ev 3 n (by decide) (by omega) (pow3 hn)
  have e3 : ((3 : Nat) : Int) = 3 := rfl
  rw [e3] at hall
  have key := forGo_if (gt := gtT (gtCons (gtN 2) (gtCons (gtN 3) (gtCons (gtN 4) gtNil)))) (kill := [2, 3, 4]) (m := sIf (tOr' (tNot' (tru (eCall f_is_group_at (aCons (rd 0) (aCons (rd 2) (aCons (rd 3) (aCons (rd 4) aNil))))))) (tAnd' (tru (ro 1)) (cmp2 cmNe (eIx (eIx (ro 0) (rd 2)) (rd 3)) (eIx (eIx (ro 0) (rd 3)) (rd 2))))) (sRet (eTup (aCons (rd 2) (aCons (rd 3) (aCons (rd 4) aNil))))) sNil)
    (ρ := [some (.val (gridD n n t)), some (.val (.bl tu)), none, none, none]) (enc := fun r => .tup (nats r)) (bad := badG n t tu) (r := fun r => .tup (nats r)) (rowsR n 3) (fun r hr => by
    obtain ⟨a, b, c, rfl, ha, hb, hc⟩ := row3 hr
    refine ⟨[some (.val (gridD n n t)), some (.val (.bl tu)), some (.val (.int (a : Nat))), some (.val (.int (b : Nat))), some (.val (.int (c : Nat)))], [some (.val (gridD n n t)), some (.val (.bl tu)), some (.val (.int (a : Nat))), some (.val (.int (b : Nat))), some (.val (.int (c : Nat)))], rfl, ?_, fun _ => rfl⟩
    rw [nats3]
    cases e1 : grpB n t a b c with
    | false => simp (implicitDefEqProofs := false) only [isInt_non, isInt_bl, isInt_int, isInt_str, isInt_tup, isInt_lst, isBool_non, isBool_bl, isBool_int, isBool_str, isBool_tup, isBool_lst, isTuple_non, isTuple_bl, isTuple_int, isTuple_str, isTuple_tup, isTuple_lst, isStr_non, isStr_bl, isStr_int, isStr_str, isStr_tup, isStr_lst, biLen_tup, biTuple_tup, biList_tup, itD_tup, truD_tup, biLen_lst, biTuple_lst, biList_lst, itD_lst, truD_lst, biLen_scr, biLen_dI, biLen_dT, truD_non, truD_bl, truD_int, asB_bl, isNon_non, isNon_bl, isNon_int, isNon_str, isNon_tup, isNon_lst, runF, endF, sSeq, thenS, sSet, sSetN, sRet, sIf, sExpr, sNil, sPass, sCont, sFrz, sKill, eCall, aCons, aNil, aStar, rd, ro, cst, frz, op2, cmp2, cmp3, ofB, eAnd, eOr, eNot, eNeg, eIf, tAnd', tOr', tNot', tru, eTup, eLst, eIx, eSl, oNone, oSome, b1, b2, eIsi, noExc_ok, noExc_err, biAbs, biInt, opAdd, opSub, opMul, smI_lit, opPow, smP1015, Bool.or_true, Bool.true_or, opDiv, opMod, cmLt, cmLe, cmGt, cmGe, cmInt, cmIs, cmIsNot, itR, itRC, rgM, rgMC, its, gtN, gtT, gtCons, gtNil, sAsg, sApp, appM, isOwnL, sFor, freeze1, wipeN, eListR, eTupR, eMeth, isSq_tup, isSq_lst, eRev, ok_bind, err_bind, List.map_cons, List.map_nil, List.length_cons, List.length_nil, List.cons_append, List.nil_append, List.replicate_succ, List.replicate_zero, List.getElem?_cons_zero, List.getElem?_cons_succ, List.set_cons_zero, List.set_cons_succ, List.foldl_cons, List.foldl_nil, if_true, if_false, ite_true, ite_false, reduceIte, reduceCtorEq, Int.reduceLT, Int.reduceLE, Int.reducePow, Int.reduceToNat, Nat.reducePow, Nat.reduceLT, Nat.reduceLeDiff, Int.reduceAdd, Int.reduceSub, Int.reduceMul, Int.reduceNeg, Nat.reduceAdd, Nat.reduceSub, Int.reduceEq, Nat.reduceEqDiff, decide_true, decide_false, and_self, Bool.and_self, Bool.and_true, Bool.true_and, and_true, true_and, Nat.zero_le, Bool.not_true, Bool.not_false, Bool.false_eq_true, decide_eq_true_eq, goOn, turn, group_at_ev h ha hb hc, e1, badG, Bool.true_or, h3]
    | true =>
      cases tu with
      | false => simp (implicitDefEqProofs := false) only [isInt_non, isInt_bl, isInt_int, isInt_str, isInt_tup, isInt_lst, isBool_non, isBool_bl, isBool_int, isBool_str, isBool_tup, isBool_lst, isTuple_non, isTuple_bl, isTuple_int, isTuple_str, isTuple_tup, isTuple_lst, isStr_non, isStr_bl, isStr_int, isStr_str, isStr_tup, isStr_lst, biLen_tup, biTuple_tup, biList_tup, itD_tup, truD_tup, biLen_lst, biTuple_lst, biList_lst, itD_lst, truD_lst, biLen_scr, biLen_dI, biLen_dT, truD_non, truD_bl, truD_int, asB_bl, isNon_non, isNon_bl, isNon_int, isNon_str, isNon_tup, isNon_lst, runF, endF, sSeq, thenS, sSet, sSetN, sRet, sIf, sExpr, sNil, sPass, sCont, sFrz, sKill, eCall, aCons, aNil, aStar, rd, ro, cst, frz, op2, cmp2, cmp3, ofB, eAnd, eOr, eNot, eNeg, eIf, tAnd', tOr', tNot', tru, eTup, eLst, eIx, eSl, oNone, oSome, b1, b2, eIsi, noExc_ok, noExc_err, biAbs, biInt, opAdd, opSub, opMul, smI_lit, opPow, smP1015, Bool.or_true, Bool.true_or, opDiv, opMod, cmLt, cmLe, cmGt, cmGe, cmInt, cmIs, cmIsNot, itR, itRC, rgM, rgMC, its, gtN, gtT, gtCons, gtNil, sAsg, sApp, appM, isOwnL, sFor, freeze1, wipeN, eListR, eTupR, eMeth, isSq_tup, isSq_lst, eRev, ok_bind, err_bind, List.map_cons, List.map_nil, List.length_cons, List.length_nil, List.cons_append, List.nil_append, List.replicate_succ, List.replicate_zero, List.getElem?_cons_zero, List.getElem?_cons_succ, List.set_cons_zero, List.set_cons_succ, List.foldl_cons, List.foldl_nil, if_true, if_false, ite_true, ite_false, reduceIte, reduceCtorEq, Int.reduceLT, Int.reduceLE, Int.reducePow, Int.reduceToNat, Nat.reducePow, Nat.reduceLT, Nat.reduceLeDiff, Int.reduceAdd, Int.reduceSub, Int.reduceMul, Int.reduceNeg, Nat.reduceAdd, Nat.reduceSub, Int.reduceEq, Nat.reduceEqDiff, decide_true, decide_false, and_self, Bool.and_self, Bool.and_true, Bool.true_and, and_true, true_and, Nat.zero_le, Bool.not_true, Bool.not_false, Bool.false_eq_true, decide_eq_true_eq, goOn, turn, group_at_ev h ha hb hc, e1, badG, Bool.false_or, Bool.false_and, h3]
      | true =>
        cases e2 : (t a b == t b a) with
        | true => simp (implicitDefEqProofs := false) only [isInt_non, isInt_bl, isInt_int, isInt_str, isInt_tup, isInt_lst, isBool_non, isBool_bl, isBool_int, isBool_str, isBool_tup, isBool_lst, isTuple_non, isTuple_bl, isTuple_int, isTuple_str, isTuple_tup, isTuple_lst, isStr_non, isStr_bl, isStr_int, isStr_str, isStr_tup, isStr_lst, biLen_tup, biTuple_tup, biList_tup, itD_tup, truD_tup, biLen_lst, biTuple_lst, biList_lst, itD_lst, truD_lst, biLen_scr, biLen_dI, biLen_dT, truD_non, truD_bl, truD_int, asB_bl, isNon_non, isNon_bl, isNon_int, isNon_str, isNon_tup, isNon_lst, runF, endF, sSeq, thenS, sSet, sSetN, sRet, sIf, sExpr, sNil, sPass, sCont, sFrz, sKill, eCall, aCons, aNil, aStar, rd, ro, cst, frz, op2, cmp2, cmp3, ofB, eAnd, eOr, eNot, eNeg, eIf, tAnd', tOr', tNot', tru, eTup, eLst, eIx, eSl, oNone, oSome, b1, b2, eIsi, noExc_ok, noExc_err, biAbs, biInt, opAdd, opSub, opMul, smI_lit, opPow, smP1015, Bool.or_true, Bool.true_or, opDiv, opMod, cmLt, cmLe, cmGt, cmGe, cmInt, cmIs, cmIsNot, itR, itRC, rgM, rgMC, its, gtN, gtT, gtCons, gtNil, sAsg, sApp, appM, isOwnL, sFor, freeze1, wipeN, eListR, eTupR, eMeth, isSq_tup, isSq_lst, eRev, ok_bind, err_bind, List.map_cons, List.map_nil, List.length_cons, List.length_nil, List.cons_append, List.nil_append, List.replicate_succ, List.replicate_zero, List.getElem?_cons_zero, List.getElem?_cons_succ, List.set_cons_zero, List.set_cons_succ, List.foldl_cons, List.foldl_nil, if_true, if_false, ite_true, ite_false, reduceIte, reduceCtorEq, Int.reduceLT, Int.reduceLE, Int.reducePow, Int.reduceToNat, Nat.reducePow, Nat.reduceLT, Nat.reduceLeDiff, Int.reduceAdd, Int.reduceSub, Int.reduceMul, Int.reduceNeg, Nat.reduceAdd, Nat.reduceSub, Int.reduceEq, Nat.reduceEqDiff, decide_true, decide_false, and_self, Bool.and_self, Bool.and_true, Bool.true_and, and_true, true_and, Nat.zero_le, Bool.not_true, Bool.not_false, Bool.false_eq_true, decide_eq_true_eq, goOn, turn, group_at_ev h ha hb hc, e1, e2, badG, Bool.false_or, ix_grid ha, ix_grid hb, ix_row ha, ix_row hb, cmNe_int, nat_eqB, h3]
        | false => simp (implicitDefEqProofs := false) only [isInt_non, isInt_bl, isInt_int, isInt_str, isInt_tup, isInt_lst, isBool_non, isBool_bl, isBool_int, isBool_str, isBool_tup, isBool_lst, isTuple_non, isTuple_bl, isTuple_int, isTuple_str, isTuple_tup, isTuple_lst, isStr_non, isStr_bl, isStr_int, isStr_str, isStr_tup, isStr_lst, biLen_tup, biTuple_tup, biList_tup, itD_tup, truD_tup, biLen_lst, biTuple_lst, biList_lst, itD_lst, truD_lst, biLen_scr, biLen_dI, biLen_dT, truD_non, truD_bl, truD_int, asB_bl, isNon_non, isNon_bl, isNon_int, isNon_str, isNon_tup, isNon_lst, runF, endF, sSeq, thenS, sSet, sSetN, sRet, sIf, sExpr, sNil, sPass, sCont, sFrz, sKill, eCall, aCons, aNil, aStar, rd, ro, cst, frz, op2, cmp2, cmp3, ofB, eAnd, eOr, eNot, eNeg, eIf, tAnd', tOr', tNot', tru, eTup, eLst, eIx, eSl, oNone, oSome, b1, b2, eIsi, noExc_ok, noExc_err, biAbs, biInt, opAdd, opSub, opMul, smI_lit, opPow, smP1015, Bool.or_true, Bool.true_or, opDiv, opMod, cmLt, cmLe, cmGt, cmGe, cmInt, cmIs, cmIsNot, itR, itRC, rgM, rgMC, its, gtN, gtT, gtCons, gtNil, sAsg, sApp, appM, isOwnL, sFor, freeze1, wipeN, eListR, eTupR, eMeth, isSq_tup, isSq_lst, eRev, ok_bind, err_bind, List.map_cons, List.map_nil, List.length_cons, List.length_nil, List.cons_append, List.nil_append, List.replicate_succ, List.replicate_zero, List.getElem?_cons_zero, List.getElem?_cons_succ, List.set_cons_zero, List.set_cons_succ, List.foldl_cons, List.foldl_nil, if_true, if_false, ite_true, ite_false, reduceIte, reduceCtorEq, Int.reduceLT, Int.reduceLE, Int.reducePow, Int.reduceToNat, Nat.reducePow, Nat.reduceLT, Nat.reduceLeDiff, Int.reduceAdd, Int.reduceSub, Int.reduceMul, Int.reduceNeg, Nat.reduceAdd, Nat.reduceSub, Int.reduceEq, Nat.reduceEqDiff, decide_true, decide_false, and_self, Bool.and_self, Bool.and_true, Bool.true_and, and_true, true_and, Nat.zero_le, Bool.not_true, Bool.not_false, Bool.false_eq_true, decide_eq_true_eq, goOn, turn, group_at_ev h ha hb hc, e1, e2, badG, Bool.false_or, ix_grid ha, ix_grid hb, ix_row ha, ix_row hb, cmNe_int, nat_eqB, h3])
  unfold f_group_break m_group_break
  rcases key with ⟨k1, k2⟩ | ⟨x, ρ2, k1, _, k2⟩
  · unfold tupl at hall
    simp (implicitDefEqProofs := false) only [isInt_non, isInt_bl, isInt_int, isInt_str, isInt_tup, isInt_lst, isBool_non, isBool_bl, isBool_int, isBool_str, isBool_tup, isBool_lst, isTuple_non, isTuple_bl, isTuple_int, isTuple_str, isTuple_tup, isTuple_lst, isStr_non, isStr_bl, isStr_int, isStr_str, isStr_tup, isStr_lst, biLen_tup, biTuple_tup, biList_tup, itD_tup, truD_tup, biLen_lst, biTuple_lst, biList_lst, itD_lst, truD_lst, biLen_scr, biLen_dI, biLen_dT, truD_non, truD_bl, truD_int, asB_bl, isNon_non, isNon_bl, isNon_int, isNon_str, isNon_tup, isNon_lst, runF, endF, sSeq, thenS, sSet, sSetN, sRet, sIf, sExpr, sNil, sPass, sCont, sFrz, sKill, eCall, aCons, aNil, aStar, rd, ro, cst, frz, op2, cmp2, cmp3, ofB, eAnd, eOr, eNot, eNeg, eIf, tAnd', tOr', tNot', tru, eTup, eLst, eIx, eSl, oNone, oSome, b1, b2, eIsi, noExc_ok, noExc_err, biAbs, biInt, opAdd, opSub, opMul, smI_lit, opPow, smP1015, Bool.or_true, Bool.true_or, opDiv, opMod, cmLt, cmLe, cmGt, cmGe, cmInt, cmIs, cmIsNot, itR, itRC, rgM, rgMC, its, gtN, gtT, gtCons, gtNil, sAsg, sApp, appM, isOwnL, sFor, freeze1, wipeN, eListR, eTupR, eMeth, isSq_tup, isSq_lst, eRev, ok_bind, err_bind, List.map_cons, List.map_nil, List.length_cons, List.length_nil, List.cons_append, List.nil_append, List.replicate_succ, List.replicate_zero, List.getElem?_cons_zero, List.getElem?_cons_succ, List.set_cons_zero, List.set_cons_succ, List.foldl_cons, List.foldl_nil, if_true, if_false, ite_true, ite_false, reduceIte, reduceCtorEq, Int.reduceLT, Int.reduceLE, Int.reducePow, Int.reduceToNat, Nat.reducePow, Nat.reduceLT, Nat.reduceLeDiff, Int.reduceAdd, Int.reduceSub, Int.reduceMul, Int.reduceNeg, Nat.reduceAdd, Nat.reduceSub, Int.reduceEq, Nat.reduceEqDiff, decide_true, decide_false, and_self, Bool.and_self, Bool.and_true, Bool.true_and, and_true, true_and, Nat.zero_le, Bool.not_true, Bool.not_false, Bool.false_eq_true, decide_eq_true_eq, goOn, turn, len_grid, hall, k2, k1, optD]
  · unfold tupl at hall
    simp (implicitDefEqProofs := false) only [isInt_non, isInt_bl, isInt_int, isInt_str, isInt_tup, isInt_lst, isBool_non, isBool_bl, isBool_int, isBool_str, isBool_tup, isBool_lst, isTuple_non, isTuple_bl, isTuple_int, isTuple_str, isTuple_tup, isTuple_lst, isStr_non, isStr_bl, isStr_int, isStr_str, isStr_tup, isStr_lst, biLen_tup, biTuple_tup, biList_tup, itD_tup, truD_tup, biLen_lst, biTuple_lst, biList_lst, itD_lst, truD_lst, biLen_scr, biLen_dI, biLen_dT, truD_non, truD_bl, truD_int, asB_bl, isNon_non, isNon_bl, isNon_int, isNon_str, isNon_tup, isNon_lst, runF, endF, sSeq, thenS, sSet, sSetN, sRet, sIf, sExpr, sNil, sPass, sCont, sFrz, sKill, eCall, aCons, aNil, aStar, rd, ro, cst, frz, op2, cmp2, cmp3, ofB, eAnd, eOr, eNot, eNeg, eIf, tAnd', tOr', tNot', tru, eTup, eLst, eIx, eSl, oNone, oSome, b1, b2, eIsi, noExc_ok, noExc_err, biAbs, biInt, opAdd, opSub, opMul, smI_lit, opPow, smP1015, Bool.or_true, Bool.true_or, opDiv, opMod, cmLt, cmLe, cmGt, cmGe, cmInt, cmIs, cmIsNot, itR, itRC, rgM, rgMC, its, gtN, gtT, gtCons, gtNil, sAsg, sApp, appM, isOwnL, sFor, freeze1, wipeN, eListR, eTupR, eMeth, isSq_tup, isSq_lst, eRev, ok_bind, err_bind, List.map_cons, List.map_nil, List.length_cons, List.length_nil, List.cons_append, List.nil_append, List.replicate_succ, List.replicate_zero, List.getElem?_cons_zero, List.getElem?_cons_succ, List.set_cons_zero, List.set_cons_succ, List.foldl_cons, List.foldl_nil, if_true, if_false, ite_true, ite_false, reduceIte, reduceCtorEq, Int.reduceLT, Int.reduceLE, Int.reducePow, Int.reduceToNat, Nat.reducePow, Nat.reduceLT, Nat.reduceLeDiff, Int.reduceAdd, Int.reduceSub, Int.reduceMul, Int.reduceNeg, Nat.reduceAdd, Nat.reduceSub, Int.reduceEq, Nat.reduceEqDiff, decide_true, decide_false, and_self, Bool.and_self, Bool.and_true, Bool.true_and, and_true, true_and, Nat.zero_le, Bool.not_true, Bool.not_false, Bool.false_eq_true, decide_eq_true_eq, goOn, turn, len_grid, hall, k2, k1, optD]
end Sim

namespace Sim
open PySem L2
theorem ix0_nats : ∀ l : List Nat, (l.any fun x => x == 0) = true → ∃ j, ix0 (.int 0) (nats l) = some j ∧ j < l.length
  | [], h => by simp at h
  | x :: l, h => by
    unfold nats
    rw [List.map_cons, ix0]
    by_cases hx : x = 0
    · subst hx
      exact ⟨0, by rw [if_pos (by rw [eqD_int]; rfl)], by simp⟩
    · rw [if_neg (by rw [eqD_int]; simpa using hx)]
      have h' : (l.any fun x => x == 0) = true := by simpa [hx] using h
      obtain ⟨j, h1, h2⟩ := ix0_nats l h'
      unfold nats at h1
      exact ⟨j + 1, by rw [h1]; rfl, by simpa using h2⟩
def zix (n : Nat) (f : Nat → Nat) : Nat := (ix0 (.int 0) (nats ((List.range n).map f))).getD 0
theorem zix_lt {n : Nat} {f : Nat → Nat} (h : hasZ n f = true) : zix n f < n := by
  obtain ⟨j, h1, h2⟩ := ix0_nats _ h
  unfold zix
  rw [h1]
  simpa using h2
theorem mix_row {n : Nat} {f : Nat → Nat} (h : hasZ n f = true) : mIndex (rowD n f) [.int 0] = .ok (.val (.int (zix n f : Nat))) := by
  obtain ⟨j, h1, h2⟩ := ix0_nats _ h
  unfold rowD mIndex ixSq zix
  simp only
  rw [if_pos ⟨rfl, ok_nats _ _⟩, h1]
  rfl
theorem isSq_row (n : Nat) (f : Nat → Nat) : isSq (rowD n f) = true := rfl
theorem minus_ev {n : Nat} {t : Nat → Nat → Nat} {a : Nat} (ha : a < n) (h : hasZ n (t a) = true) : f_minus [gridD n n t, .int a] = .ok (.int (zix n (t a) : Nat)) := by
  unfold f_minus m_minus
  simp (implicitDefEqProofs := false) only [isInt_non, isInt_bl, isInt_int, isInt_str, isInt_tup, isInt_lst, isBool_non, isBool_bl, isBool_int, isBool_str, isBool_tup, isBool_lst, isTuple_non, isTuple_bl, isTuple_int, isTuple_str, isTuple_tup, isTuple_lst, isStr_non, isStr_bl, isStr_int, isStr_str, isStr_tup, isStr_lst, biLen_tup, biTuple_tup, biList_tup, itD_tup, truD_tup, biLen_lst, biTuple_lst, biList_lst, itD_lst, truD_lst, biLen_scr, biLen_dI, biLen_dT, truD_non, truD_bl, truD_int, asB_bl, isNon_non, isNon_bl, isNon_int, isNon_str, isNon_tup, isNon_lst, runF, endF, sSeq, thenS, sSet, sSetN, sRet, sIf, sExpr, sNil, sPass, sCont, sFrz, sKill, eCall, aCons, aNil, aStar, rd, ro, cst, frz, op2, cmp2, cmp3, ofB, eAnd, eOr, eNot, eNeg, eIf, tAnd', tOr', tNot', tru, eTup, eLst, eIx, eSl, oNone, oSome, b1, b2, eIsi, noExc_ok, noExc_err, biAbs, biInt, opAdd, opSub, opMul, smI_lit, opPow, smP1015, Bool.or_true, Bool.true_or, opDiv, opMod, cmLt, cmLe, cmGt, cmGe, cmInt, cmIs, cmIsNot, itR, itRC, rgM, rgMC, its, gtN, gtT, gtCons, gtNil, sAsg, sApp, appM, isOwnL, sFor, freeze1, wipeN, eListR, eTupR, eMeth, isSq_tup, isSq_lst, eRev, ok_bind, err_bind, List.map_cons, List.map_nil, List.length_cons, List.length_nil, List.cons_append, List.nil_append, List.replicate_succ, List.replicate_zero, List.getElem?_cons_zero, List.getElem?_cons_succ, List.set_cons_zero, List.set_cons_succ, List.foldl_cons, List.foldl_nil, if_true, if_false, ite_true, ite_false, reduceIte, reduceCtorEq, Int.reduceLT, Int.reduceLE, Int.reducePow, Int.reduceToNat, Nat.reducePow, Nat.reduceLT, Nat.reduceLeDiff, Int.reduceAdd, Int.reduceSub, Int.reduceMul, Int.reduceNeg, Nat.reduceAdd, Nat.reduceSub, Int.reduceEq, Nat.reduceEqDiff, decide_true, decide_false, and_self, Bool.and_self, Bool.and_true, Bool.true_and, and_true, true_and, Nat.zero_le, Bool.not_true, Bool.not_false, Bool.false_eq_true, decide_eq_true_eq, goOn, turn, ix_grid ha, isSq_row, mix_row h]
def badJ (n : Nat) (s u : Nat → Nat → Nat) : List Nat → Bool
  | [a, b, c] => !(u a (s b c) == s (u a b) (s (zix n (s a)) (u a c)))
  | _ => false
theorem joint_break_ev {n : Nat} {s u : Nat → Nat → Nat} (h : Bd n s) (h' : Bd n u) (hn : n ≤ 24) (hz : ∀ a, a < n → hasZ n (s a) = true) : f_joint_break [.tup [gridD n n s, gridD n n u]] = .ok (optD ((rowsR n 3).find? (badJ n s u))) := by
  have h3 : (0 + 1 + 1 + 1 ≤ lim) = True := eq_true (by decide)
  have hall := all_tuples_ev 3 n (by decide) (by omega) (pow3 hn)
  have e3 : ((3 : Nat) : Int) = 3 := rfl
  rw [e3] at hall
  have key := forGo_if (gt := gtT (gtCons (gtN 3) (gtCons (gtN 4) (gtCons (gtN 5) gtNil)))) (kill := [3, 4, 5]) (m := sIf (cmp2 cmNe (eIx (eIx (ro 2) (rd 3)) (eIx (eIx (ro 1) (rd 4)) (rd 5))) (eIx (eIx (ro 1) (eIx (eIx (ro 2) (rd 3)) (rd 4))) (eIx (eIx (ro 1) (eCall f_minus (aCons (rd 1) (aCons (rd 3) aNil)))) (eIx (eIx (ro 2) (rd 3)) (rd 5))))) (sRet (eTup (aCons (rd 3) (aCons (rd 4) (aCons (rd 5) aNil))))) sNil)
    (ρ := [some (.val (.tup [gridD n n s, gridD n n u])), some (.val (gridD n n s)), some (.val (gridD n n u)), none, none, none]) (enc := fun r => .tup (nats r)) (bad := badJ n s u) (r := fun r => .tup (nats r)) (rowsR n 3) (fun r hr => by
    obtain ⟨a, b, c, rfl, ha, hb, hc⟩ := row3 hr
    refine ⟨[some (.val (.tup [gridD n n s, gridD n n u])), some (.val (gridD n n s)), some (.val (gridD n n u)), some (.val (.int (a : Nat))), some (.val (.int (b : Nat))), some (.val (.int (c : Nat)))], [some (.val (.tup [gridD n n s, gridD n n u])), some (.val (gridD n n s)), some (.val (gridD n n u)), some (.val (.int (a : Nat))), some (.val (.int (b : Nat))), some (.val (.int (c : Nat)))], rfl, ?_, fun _ => rfl⟩
    rw [nats3]
    have hza := hz a ha
    have z := zix_lt hza
    cases e1 : (u a (s b c) == s (u a b) (s (zix n (s a)) (u a c))) with
    | true => simp (implicitDefEqProofs := false) only [isInt_non, isInt_bl, isInt_int, isInt_str, isInt_tup, isInt_lst, isBool_non, isBool_bl, isBool_int, isBool_str, isBool_tup, isBool_lst, isTuple_non, isTuple_bl, isTuple_int, isTuple_str, isTuple_tup, isTuple_lst, isStr_non, isStr_bl, isStr_int, isStr_str, isStr_tup, isStr_lst, biLen_tup, biTuple_tup, biList_tup, itD_tup, truD_tup, biLen_lst, biTuple_lst, biList_lst, itD_lst, truD_lst, biLen_scr, biLen_dI, biLen_dT, truD_non, truD_bl, truD_int, asB_bl, isNon_non, isNon_bl, isNon_int, isNon_str, isNon_tup, isNon_lst, runF, endF, sSeq, thenS, sSet, sSetN, sRet, sIf, sExpr, sNil, sPass, sCont, sFrz, sKill, eCall, aCons, aNil, aStar, rd, ro, cst, frz, op2, cmp2, cmp3, ofB, eAnd, eOr, eNot, eNeg, eIf, tAnd', tOr', tNot', tru, eTup, eLst, eIx, eSl, oNone, oSome, b1, b2, eIsi, noExc_ok, noExc_err, biAbs, biInt, opAdd, opSub, opMul, smI_lit, opPow, smP1015, Bool.or_true, Bool.true_or, opDiv, opMod, cmLt, cmLe, cmGt, cmGe, cmInt, cmIs, cmIsNot, itR, itRC, rgM, rgMC, its, gtN, gtT, gtCons, gtNil, sAsg, sApp, appM, isOwnL, sFor, freeze1, wipeN, eListR, eTupR, eMeth, isSq_tup, isSq_lst, eRev, ok_bind, err_bind, List.map_cons, List.map_nil, List.length_cons, List.length_nil, List.cons_append, List.nil_append, List.replicate_succ, List.replicate_zero, List.getElem?_cons_zero, List.getElem?_cons_succ, List.set_cons_zero, List.set_cons_succ, List.foldl_cons, List.foldl_nil, if_true, if_false, ite_true, ite_false, reduceIte, reduceCtorEq, Int.reduceLT, Int.reduceLE, Int.reducePow, Int.reduceToNat, Nat.reducePow, Nat.reduceLT, Nat.reduceLeDiff, Int.reduceAdd, Int.reduceSub, Int.reduceMul, Int.reduceNeg, Nat.reduceAdd, Nat.reduceSub, Int.reduceEq, Nat.reduceEqDiff, decide_true, decide_false, and_self, Bool.and_self, Bool.and_true, Bool.true_and, and_true, true_and, Nat.zero_le, Bool.not_true, Bool.not_false, Bool.false_eq_true, decide_eq_true_eq, goOn, turn, ix_grid ha, ix_grid hb, ix_row hc, ix_row hb, ix_row (h b c hb hc), ix_grid (h' a b ha hb), minus_ev ha hza, ix_grid z, ix_row (h' a c ha hc), ix_row (h _ _ z (h' a c ha hc)), cmNe_int, nat_eqB, e1, badJ, h3]
    | false => simp (implicitDefEqProofs := false) only [isInt_non, isInt_bl, isInt_int, isInt_str, isInt_tup, isInt_lst, isBool_non, isBool_bl, isBool_int, isBool_str, isBool_tup, isBool_lst, isTuple_non, isTuple_bl, isTuple_int, isTuple_str, isTuple_tup, isTuple_lst, isStr_non, isStr_bl, isStr_int, isStr_str, isStr_tup, isStr_lst, biLen_tup, biTuple_tup, biList_tup, itD_tup, truD_tup, biLen_lst, biTuple_lst, biList_lst, itD_lst, truD_lst, biLen_scr, biLen_dI, biLen_dT, truD_non, truD_bl, truD_int, asB_bl, isNon_non, isNon_bl, isNon_int, isNon_str, isNon_tup, isNon_lst, runF, endF, sSeq, thenS, sSet, sSetN, sRet, sIf, sExpr, sNil, sPass, sCont, sFrz, sKill, eCall, aCons, aNil, aStar, rd, ro, cst, frz, op2, cmp2, cmp3, ofB, eAnd, eOr, eNot, eNeg, eIf, tAnd', tOr', tNot', tru, eTup, eLst, eIx, eSl, oNone, oSome, b1, b2, eIsi, noExc_ok, noExc_err, biAbs, biInt, opAdd, opSub, opMul, smI_lit, opPow, smP1015, Bool.or_true, Bool.true_or, opDiv, opMod, cmLt, cmLe, cmGt, cmGe, cmInt, cmIs, cmIsNot, itR, itRC, rgM, rgMC, its, gtN, gtT, gtCons, gtNil, sAsg, sApp, appM, isOwnL, sFor, freeze1, wipeN, eListR, eTupR, eMeth, isSq_tup, isSq_lst, eRev, ok_bind, err_bind, List.map_cons, List.map_nil, List.length_cons, List.length_nil, List.cons_append, List.nil_append, List.replicate_succ, List.replicate_zero, List.getElem?_cons_zero, List.getElem?_cons_succ, List.set_cons_zero, List.set_cons_succ, List.foldl_cons, List.foldl_nil, if_true, if_false, ite_true, ite_false, reduceIte, reduceCtorEq, Int.reduceLT, Int.reduceLE, Int.reducePow, Int.reduceToNat, Nat.reducePow, Nat.reduceLT, Nat.reduceLeDiff, Int.reduceAdd, Int.reduceSub, Int.reduceMul, Int.reduceNeg, Nat.reduceAdd, Nat.reduceSub, Int.reduceEq, Nat.reduceEqDiff, decide_true, decide_false, and_self, Bool.and_self, Bool.and_true, Bool.true_and, and_true, true_and, Nat.zero_le, Bool.not_true, Bool.not_false, Bool.false_eq_true, decide_eq_true_eq, goOn, turn, ix_grid ha, ix_grid hb, ix_row hc, ix_row hb, ix_row (h b c hb hc), ix_grid (h' a b ha hb), minus_ev ha hza, ix_grid z, ix_row (h' a c ha hc), ix_row (h _ _ z (h' a c ha hc)), cmNe_int, nat_eqB, e1, badJ, h3])
  unfold f_joint_break m_joint_break
  rcases key with ⟨k1, k2⟩ | ⟨x, ρ2, k1, _, k2⟩
  · unfold tupl at hall
    simp (implicitDefEqProofs := false) only [isInt_non, isInt_bl, isInt_int, isInt_str, isInt_tup, isInt_lst, isBool_non, isBool_bl, isBool_int, isBool_str, isBool_tup, isBool_lst, isTuple_non, isTuple_bl, isTuple_int, isTuple_str, isTuple_tup, isTuple_lst, isStr_non, isStr_bl, isStr_int, isStr_str, isStr_tup, isStr_lst, biLen_tup, biTuple_tup, biList_tup, itD_tup, truD_tup, biLen_lst, biTuple_lst, biList_lst, itD_lst, truD_lst, biLen_scr, biLen_dI, biLen_dT, truD_non, truD_bl, truD_int, asB_bl, isNon_non, isNon_bl, isNon_int, isNon_str, isNon_tup, isNon_lst, runF, endF, sSeq, thenS, sSet, sSetN, sRet, sIf, sExpr, sNil, sPass, sCont, sFrz, sKill, eCall, aCons, aNil, aStar, rd, ro, cst, frz, op2, cmp2, cmp3, ofB, eAnd, eOr, eNot, eNeg, eIf, tAnd', tOr', tNot', tru, eTup, eLst, eIx, eSl, oNone, oSome, b1, b2, eIsi, noExc_ok, noExc_err, biAbs, biInt, opAdd, opSub, opMul, smI_lit, opPow, smP1015, Bool.or_true, Bool.true_or, opDiv, opMod, cmLt, cmLe, cmGt, cmGe, cmInt, cmIs, cmIsNot, itR, itRC, rgM, rgMC, its, gtN, gtT, gtCons, gtNil, sAsg, sApp, appM, isOwnL, sFor, freeze1, wipeN, eListR, eTupR, eMeth, isSq_tup, isSq_lst, eRev, ok_bind, err_bind, List.map_cons, List.map_nil, List.length_cons, List.length_nil, List.cons_append, List.nil_append, List.replicate_succ, List.replicate_zero, List.getElem?_cons_zero, List.getElem?_cons_succ, List.set_cons_zero, List.set_cons_succ, List.foldl_cons, List.foldl_nil, if_true, if_false, ite_true, ite_false, reduceIte, reduceCtorEq, Int.reduceLT, Int.reduceLE, Int.reducePow, Int.reduceToNat, Nat.reducePow, Nat.reduceLT, Nat.reduceLeDiff, Int.reduceAdd, Int.reduceSub, Int.reduceMul, Int.reduceNeg, Nat.reduceAdd, Nat.reduceSub, Int.reduceEq, Nat.reduceEqDiff, decide_true, decide_false, and_self, Bool.and_self, Bool.and_true, Bool.true_and, and_true, true_and, Nat.zero_le, Bool.not_true, Bool.not_false, Bool.false_eq_true, decide_eq_true_eq, goOn, turn, len_grid, hall, k2, k1, optD]
  · unfold tupl at hall
    simp (implicitDefEqProofs := false) only [isInt_non, isInt_bl, isInt_int, isInt_str, isInt_tup, isInt_lst, isBool_non, isBool_bl, isBool_int, isBool_str, isBool_tup, isBool_lst, isTuple_non, isTuple_bl, isTuple_int, isTuple_str, isTuple_tup, isTuple_lst, isStr_non, isStr_bl, isStr_int, isStr_str, isStr_tup, isStr_lst, biLen_tup, biTuple_tup, biList_tup, itD_tup, truD_tup, biLen_lst, biTuple_lst, biList_lst, itD_lst, truD_lst, biLen_scr, biLen_dI, biLen_dT, truD_non, truD_bl, truD_int, asB_bl, isNon_non, isNon_bl, isNon_int, isNon_str, isNon_tup, isNon_lst, runF, endF, sSeq, thenS, sSet, sSetN, sRet, sIf, sExpr, sNil, sPass, sCont, sFrz, sKill, eCall, aCons, aNil, aStar, rd, ro, cst, frz, op2, cmp2, cmp3, ofB, eAnd, eOr, eNot, eNeg, eIf, tAnd', tOr', tNot', tru, eTup, eLst, eIx, eSl, oNone, oSome, b1, b2, eIsi, noExc_ok, noExc_err, biAbs, biInt, opAdd, opSub, opMul, smI_lit, opPow, smP1015, Bool.or_true, Bool.true_or, opDiv, opMod, cmLt, cmLe, cmGt, cmGe, cmInt, cmIs, cmIsNot, itR, itRC, rgM, rgMC, its, gtN, gtT, gtCons, gtNil, sAsg, sApp, appM, isOwnL, sFor, freeze1, wipeN, eListR, eTupR, eMeth, isSq_tup, isSq_lst, eRev, ok_bind, err_bind, List.map_cons, List.map_nil, List.length_cons, List.length_nil, List.cons_append, List.nil_append, List.replicate_succ, List.replicate_zero, List.getElem?_cons_zero, List.getElem?_cons_succ, List.set_cons_zero, List.set_cons_succ, List.foldl_cons, List.foldl_nil, if_true, if_false, ite_true, ite_false, reduceIte, reduceCtorEq, Int.reduceLT, Int.reduceLE, Int.reducePow, Int.reduceToNat, Nat.reducePow, Nat.reduceLT, Nat.reduceLeDiff, Int.reduceAdd, Int.reduceSub, Int.reduceMul, Int.reduceNeg, Nat.reduceAdd, Nat.reduceSub, Int.reduceEq, Nat.reduceEqDiff, decide_true, decide_false, and_self, Bool.and_self, Bool.and_true, Bool.true_and, and_true, true_and, Nat.zero_le, Bool.not_true, Bool.not_false, Bool.false_eq_true, decide_eq_true_eq, goOn, turn, len_grid, hall, k2, k1, optD]
/-- every row of a group has 0 -/
theorem grp_hasZ {n : Nat} {s : Nat → Nat → Nat} {tu : Bool} (h : (rowsR n 3).find? (badG n s tu) = none) (a : Nat) (ha : a < n) : hasZ n (s a) = true := by
  have hm : [a, 0, 0] ∈ rowsR n 3 := by
    have h0 : 0 < n := by omega
    simp only [rowsR, nextR, List.mem_flatMap, List.mem_map, List.mem_range]
    exact ⟨[a, 0], ⟨[a], ⟨[], by simp, a, ha, rfl⟩, 0, h0, rfl⟩, 0, h0, rfl⟩
  have := List.find?_eq_none.mp h _ hm
  simp only [badG, grpB, Bool.not_eq_true, Bool.or_eq_false_iff, Bool.not_eq_false', Bool.and_eq_true] at this
  exact this.1.2.2
/-- the fault that both name -/
def faultD (n : Nat) (s u : Nat → Nat → Nat) : D := match (rowsR n 3).find? (badG n s true) with
  | some r => .tup (.str "sums" :: nats r)
  | none => match (rowsR n 3).find? (badG n u false) with
    | some r => .tup (.str "times" :: nats r)
    | none => match (rowsR n 3).find? (badJ n s u) with
      | some r => .tup (.str "both" :: nats r)
      | none => .non
end Sim

namespace Sim
open PySem L2
def cellV : D → Nat
  | .int i => i.toNat
  | _ => 0
def rowV : D → Nat → Nat
  | .tup xs, b => cellV (xs.getD b .non)
  | _, _ => 0
def gridV : D → Nat → Nat → Nat
  | .tup xs, a => rowV (xs.getD a .non)
  | _, _ => fun _ => 0
theorem cell_form {n : Nat} {d : D} (h : isCell n d = true) : d = .int ((cellV d : Nat) : Int) ∧ cellV d < n := by
  cases d with
  | int i =>
    simp only [isCell, Bool.and_eq_true, decide_eq_true_eq] at h
    have e : cellV (.int i) = i.toNat := rfl
    rw [e]
    exact ⟨by rw [Int.toNat_of_nonneg h.1], by omega⟩
  | _ => cases h
theorem row_form {n : Nat} {d : D} (h : isRowD n d = true) : d = rowD n (rowV d) ∧ ∀ b, b < n → rowV d b < n := by
  cases d with
  | tup xs =>
    simp only [isRowD, Bool.and_eq_true, beq_iff_eq, List.all_eq_true] at h
    obtain ⟨h1, h2⟩ := h
    have key : ∀ b (hb : b < xs.length), xs[b] = .int ((rowV (.tup xs) b : Nat) : Int) ∧ rowV (.tup xs) b < n := fun b hb => by
      have := cell_form (h2 xs[b] (List.getElem_mem hb))
      show xs[b] = .int ((cellV (xs.getD b .non) : Nat) : Int) ∧ cellV (xs.getD b .non) < n
      rw [List.getD_eq_getElem?_getD, List.getElem?_eq_getElem hb]
      exact this
    refine ⟨?_, fun b hb => (key b (by omega)).2⟩
    unfold rowD nats
    congr 1
    apply List.ext_getElem
    · simp [h1]
    · intro b hb hb2
      rw [(key b hb).1]
      simp
  | _ => cases h
theorem grid_form {n : Nat} {d : D} (h : isGridD n d = true) : d = gridD n n (gridV d) ∧ Bd n (gridV d) := by
  cases d with
  | tup xs =>
    simp only [isGridD, Bool.and_eq_true, beq_iff_eq, List.all_eq_true] at h
    obtain ⟨h1, h2⟩ := h
    have key : ∀ a (ha : a < xs.length), xs[a] = rowD n (gridV (.tup xs) a) ∧ ∀ b, b < n → gridV (.tup xs) a b < n := fun a ha => by
      have := row_form (h2 xs[a] (List.getElem_mem ha))
      show xs[a] = rowD n (rowV (xs.getD a .non)) ∧ ∀ b, b < n → rowV (xs.getD a .non) b < n
      rw [List.getD_eq_getElem?_getD, List.getElem?_eq_getElem ha]
      exact this
    refine ⟨?_, fun a b ha hb => (key a (by omega)).2 b hb⟩
    unfold gridD
    congr 1
    apply List.ext_getElem
    · simp [h1]
    · intro a ha ha2
      rw [(key a ha).1]
      simp
  | _ => cases h
/-- two grids -/
theorem areGrids_form {d : D} (h : areGridsD d = true) : ∃ n s u, 1 ≤ n ∧ n ≤ 24 ∧ Bd n s ∧ Bd n u ∧ d = .tup [gridD n n s, gridD n n u] := by
  unfold areGridsD at h
  split at h
  · rename_i xs y
    simp only [Bool.and_eq_true, decide_eq_true_eq] at h
    obtain ⟨⟨⟨h1, h2⟩, h3⟩, h4⟩ := h
    obtain ⟨a1, a2⟩ := grid_form h3
    obtain ⟨b1, b2⟩ := grid_form h4
    exact ⟨xs.length, _, _, h1, h2, a2, b2, by rw [← a1, ← b1]⟩
  · cases h
def tablesD : D := .tup [.str "tables"]
def resD (d : D) : D := match d with
  | .tup [.tup xs, y] => if areGridsD d = true then faultD xs.length (gridV (.tup xs)) (gridV y) else tablesD
  | _ => tablesD
theorem sucl : (0 + 1 ≤ lim) = True := eq_true (by decide)
theorem isNon_opt (o : Option (List Nat)) : isNon (optD o) = o.isNone := by
  cases o <;> rfl
theorem len3 {n : Nat} {r : List Nat} (h : r ∈ rowsR n 3) : (nats r).length + 1 ≤ lim := by
  obtain ⟨a, b, c, rfl, _⟩ := row3 h
  rw [nats_len]
  exact (by decide : 3 + 1 ≤ lim)
theorem itD_opt (r : List Nat) : itD (optD (some r)) = .ok (nats r) := rfl
theorem first_fault_grids {n : Nat} {s u : Nat → Nat → Nat} (h1 : 1 ≤ n) (hn : n ≤ 24) (h : Bd n s) (h' : Bd n u) (k : Nat) (hk : okD (k + 3) (.tup [gridD n n s, gridD n n u]) = true) (ha : areGridsD (.tup [gridD n n s, gridD n n u]) = true) :
    f_first_fault [.tup [gridD n n s, gridD n n u]] = .ok (faultD n s u) := by
  have i0 : ixD (.tup [gridD n n s, gridD n n u]) (.int 0) = .ok (gridD n n s) := rfl
  have i1 : ixD (.tup [gridD n n s, gridD n n u]) (.int 1) = .ok (gridD n n u) := rfl
  unfold f_first_fault m_first_fault
  cases e1 : (rowsR n 3).find? (badG n s true) with
  | some r =>
    have hl := len3 (List.mem_of_find?_eq_some e1)
    simp (implicitDefEqProofs := false) only [isInt_non, isInt_bl, isInt_int, isInt_str, isInt_tup, isInt_lst, isBool_non, isBool_bl, isBool_int, isBool_str, isBool_tup, isBool_lst, isTuple_non, isTuple_bl, isTuple_int, isTuple_str, isTuple_tup, isTuple_lst, isStr_non, isStr_bl, isStr_int, isStr_str, isStr_tup, isStr_lst, biLen_tup, biTuple_tup, biList_tup, itD_tup, truD_tup, biLen_lst, biTuple_lst, biList_lst, itD_lst, truD_lst, biLen_scr, biLen_dI, biLen_dT, truD_non, truD_bl, truD_int, asB_bl, isNon_non, isNon_bl, isNon_int, isNon_str, isNon_tup, isNon_lst, runF, endF, sSeq, thenS, sSet, sSetN, sRet, sIf, sExpr, sNil, sPass, sCont, sFrz, sKill, eCall, aCons, aNil, aStar, rd, ro, cst, frz, op2, cmp2, cmp3, ofB, eAnd, eOr, eNot, eNeg, eIf, tAnd', tOr', tNot', tru, eTup, eLst, eIx, eSl, oNone, oSome, b1, b2, eIsi, noExc_ok, noExc_err, biAbs, biInt, opAdd, opSub, opMul, smI_lit, opPow, smP1015, Bool.or_true, Bool.true_or, opDiv, opMod, cmLt, cmLe, cmGt, cmGe, cmInt, cmIs, cmIsNot, itR, itRC, rgM, rgMC, its, gtN, gtT, gtCons, gtNil, sAsg, sApp, appM, isOwnL, sFor, freeze1, wipeN, eListR, eTupR, eMeth, isSq_tup, isSq_lst, eRev, ok_bind, err_bind, List.map_cons, List.map_nil, List.length_cons, List.length_nil, List.cons_append, List.nil_append, List.replicate_succ, List.replicate_zero, List.getElem?_cons_zero, List.getElem?_cons_succ, List.set_cons_zero, List.set_cons_succ, List.foldl_cons, List.foldl_nil, if_true, if_false, ite_true, ite_false, reduceIte, reduceCtorEq, Int.reduceLT, Int.reduceLE, Int.reducePow, Int.reduceToNat, Nat.reducePow, Nat.reduceLT, Nat.reduceLeDiff, Int.reduceAdd, Int.reduceSub, Int.reduceMul, Int.reduceNeg, Nat.reduceAdd, Nat.reduceSub, Int.reduceEq, Nat.reduceEqDiff, decide_true, decide_false, and_self, Bool.and_self, Bool.and_true, Bool.true_and, and_true, true_and, Nat.zero_le, Bool.not_true, Bool.not_false, Bool.false_eq_true, decide_eq_true_eq, goOn, turn, are_grids_ev _ hk, ha, i0, i1, group_break_ev h hn, e1, isNon_opt, Option.isNone_none, Option.isNone_some, itD_opt, hl, faultD, List.append_nil]
  | none =>
    have hz := grp_hasZ e1
    cases e2 : (rowsR n 3).find? (badG n u false) with
    | some r =>
      have hl := len3 (List.mem_of_find?_eq_some e2)
      simp (implicitDefEqProofs := false) only [isInt_non, isInt_bl, isInt_int, isInt_str, isInt_tup, isInt_lst, isBool_non, isBool_bl, isBool_int, isBool_str, isBool_tup, isBool_lst, isTuple_non, isTuple_bl, isTuple_int, isTuple_str, isTuple_tup, isTuple_lst, isStr_non, isStr_bl, isStr_int, isStr_str, isStr_tup, isStr_lst, biLen_tup, biTuple_tup, biList_tup, itD_tup, truD_tup, biLen_lst, biTuple_lst, biList_lst, itD_lst, truD_lst, biLen_scr, biLen_dI, biLen_dT, truD_non, truD_bl, truD_int, asB_bl, isNon_non, isNon_bl, isNon_int, isNon_str, isNon_tup, isNon_lst, runF, endF, sSeq, thenS, sSet, sSetN, sRet, sIf, sExpr, sNil, sPass, sCont, sFrz, sKill, eCall, aCons, aNil, aStar, rd, ro, cst, frz, op2, cmp2, cmp3, ofB, eAnd, eOr, eNot, eNeg, eIf, tAnd', tOr', tNot', tru, eTup, eLst, eIx, eSl, oNone, oSome, b1, b2, eIsi, noExc_ok, noExc_err, biAbs, biInt, opAdd, opSub, opMul, smI_lit, opPow, smP1015, Bool.or_true, Bool.true_or, opDiv, opMod, cmLt, cmLe, cmGt, cmGe, cmInt, cmIs, cmIsNot, itR, itRC, rgM, rgMC, its, gtN, gtT, gtCons, gtNil, sAsg, sApp, appM, isOwnL, sFor, freeze1, wipeN, eListR, eTupR, eMeth, isSq_tup, isSq_lst, eRev, ok_bind, err_bind, List.map_cons, List.map_nil, List.length_cons, List.length_nil, List.cons_append, List.nil_append, List.replicate_succ, List.replicate_zero, List.getElem?_cons_zero, List.getElem?_cons_succ, List.set_cons_zero, List.set_cons_succ, List.foldl_cons, List.foldl_nil, if_true, if_false, ite_true, ite_false, reduceIte, reduceCtorEq, Int.reduceLT, Int.reduceLE, Int.reducePow, Int.reduceToNat, Nat.reducePow, Nat.reduceLT, Nat.reduceLeDiff, Int.reduceAdd, Int.reduceSub, Int.reduceMul, Int.reduceNeg, Nat.reduceAdd, Nat.reduceSub, Int.reduceEq, Nat.reduceEqDiff, decide_true, decide_false, and_self, Bool.and_self, Bool.and_true, Bool.true_and, and_true, true_and, Nat.zero_le, Bool.not_true, Bool.not_false, Bool.false_eq_true, decide_eq_true_eq, goOn, turn, are_grids_ev _ hk, ha, i0, i1, group_break_ev h hn, group_break_ev h' hn, e1, e2, isNon_opt, Option.isNone_none, Option.isNone_some, itD_opt, hl, faultD, List.append_nil]
    | none =>
      cases e3 : (rowsR n 3).find? (badJ n s u) with
      | some r =>
        have hl := len3 (List.mem_of_find?_eq_some e3)
        simp (implicitDefEqProofs := false) only [isInt_non, isInt_bl, isInt_int, isInt_str, isInt_tup, isInt_lst, isBool_non, isBool_bl, isBool_int, isBool_str, isBool_tup, isBool_lst, isTuple_non, isTuple_bl, isTuple_int, isTuple_str, isTuple_tup, isTuple_lst, isStr_non, isStr_bl, isStr_int, isStr_str, isStr_tup, isStr_lst, biLen_tup, biTuple_tup, biList_tup, itD_tup, truD_tup, biLen_lst, biTuple_lst, biList_lst, itD_lst, truD_lst, biLen_scr, biLen_dI, biLen_dT, truD_non, truD_bl, truD_int, asB_bl, isNon_non, isNon_bl, isNon_int, isNon_str, isNon_tup, isNon_lst, runF, endF, sSeq, thenS, sSet, sSetN, sRet, sIf, sExpr, sNil, sPass, sCont, sFrz, sKill, eCall, aCons, aNil, aStar, rd, ro, cst, frz, op2, cmp2, cmp3, ofB, eAnd, eOr, eNot, eNeg, eIf, tAnd', tOr', tNot', tru, eTup, eLst, eIx, eSl, oNone, oSome, b1, b2, eIsi, noExc_ok, noExc_err, biAbs, biInt, opAdd, opSub, opMul, smI_lit, opPow, smP1015, Bool.or_true, Bool.true_or, opDiv, opMod, cmLt, cmLe, cmGt, cmGe, cmInt, cmIs, cmIsNot, itR, itRC, rgM, rgMC, its, gtN, gtT, gtCons, gtNil, sAsg, sApp, appM, isOwnL, sFor, freeze1, wipeN, eListR, eTupR, eMeth, isSq_tup, isSq_lst, eRev, ok_bind, err_bind, List.map_cons, List.map_nil, List.length_cons, List.length_nil, List.cons_append, List.nil_append, List.replicate_succ, List.replicate_zero, List.getElem?_cons_zero, List.getElem?_cons_succ, List.set_cons_zero, List.set_cons_succ, List.foldl_cons, List.foldl_nil, if_true, if_false, ite_true, ite_false, reduceIte, reduceCtorEq, Int.reduceLT, Int.reduceLE, Int.reducePow, Int.reduceToNat, Nat.reducePow, Nat.reduceLT, Nat.reduceLeDiff, Int.reduceAdd, Int.reduceSub, Int.reduceMul, Int.reduceNeg, Nat.reduceAdd, Nat.reduceSub, Int.reduceEq, Nat.reduceEqDiff, decide_true, decide_false, and_self, Bool.and_self, Bool.and_true, Bool.true_and, and_true, true_and, Nat.zero_le, Bool.not_true, Bool.not_false, Bool.false_eq_true, decide_eq_true_eq, goOn, turn, are_grids_ev _ hk, ha, i0, i1, group_break_ev h hn, group_break_ev h' hn, joint_break_ev h h' hn hz, e1, e2, e3, isNon_opt, Option.isNone_none, Option.isNone_some, itD_opt, hl, faultD, List.append_nil]
      | none =>
        simp (implicitDefEqProofs := false) only [isInt_non, isInt_bl, isInt_int, isInt_str, isInt_tup, isInt_lst, isBool_non, isBool_bl, isBool_int, isBool_str, isBool_tup, isBool_lst, isTuple_non, isTuple_bl, isTuple_int, isTuple_str, isTuple_tup, isTuple_lst, isStr_non, isStr_bl, isStr_int, isStr_str, isStr_tup, isStr_lst, biLen_tup, biTuple_tup, biList_tup, itD_tup, truD_tup, biLen_lst, biTuple_lst, biList_lst, itD_lst, truD_lst, biLen_scr, biLen_dI, biLen_dT, truD_non, truD_bl, truD_int, asB_bl, isNon_non, isNon_bl, isNon_int, isNon_str, isNon_tup, isNon_lst, runF, endF, sSeq, thenS, sSet, sSetN, sRet, sIf, sExpr, sNil, sPass, sCont, sFrz, sKill, eCall, aCons, aNil, aStar, rd, ro, cst, frz, op2, cmp2, cmp3, ofB, eAnd, eOr, eNot, eNeg, eIf, tAnd', tOr', tNot', tru, eTup, eLst, eIx, eSl, oNone, oSome, b1, b2, eIsi, noExc_ok, noExc_err, biAbs, biInt, opAdd, opSub, opMul, smI_lit, opPow, smP1015, Bool.or_true, Bool.true_or, opDiv, opMod, cmLt, cmLe, cmGt, cmGe, cmInt, cmIs, cmIsNot, itR, itRC, rgM, rgMC, its, gtN, gtT, gtCons, gtNil, sAsg, sApp, appM, isOwnL, sFor, freeze1, wipeN, eListR, eTupR, eMeth, isSq_tup, isSq_lst, eRev, ok_bind, err_bind, List.map_cons, List.map_nil, List.length_cons, List.length_nil, List.cons_append, List.nil_append, List.replicate_succ, List.replicate_zero, List.getElem?_cons_zero, List.getElem?_cons_succ, List.set_cons_zero, List.set_cons_succ, List.foldl_cons, List.foldl_nil, if_true, if_false, ite_true, ite_false, reduceIte, reduceCtorEq, Int.reduceLT, Int.reduceLE, Int.reducePow, Int.reduceToNat, Nat.reducePow, Nat.reduceLT, Nat.reduceLeDiff, Int.reduceAdd, Int.reduceSub, Int.reduceMul, Int.reduceNeg, Nat.reduceAdd, Nat.reduceSub, Int.reduceEq, Nat.reduceEqDiff, decide_true, decide_false, and_self, Bool.and_self, Bool.and_true, Bool.true_and, and_true, true_and, Nat.zero_le, Bool.not_true, Bool.not_false, Bool.false_eq_true, decide_eq_true_eq, goOn, turn, are_grids_ev _ hk, ha, i0, i1, group_break_ev h hn, group_break_ev h' hn, joint_break_ev h h' hn hz, e1, e2, e3, isNon_opt, Option.isNone_none, Option.isNone_some, itD_opt, faultD, List.append_nil]
theorem first_fault_tables {d : D} {k : Nat} (hk : okD (k + 3) d = true) (ha : areGridsD d = false) : f_first_fault [d] = .ok tablesD := by
  unfold f_first_fault m_first_fault
  simp (implicitDefEqProofs := false) only [isInt_non, isInt_bl, isInt_int, isInt_str, isInt_tup, isInt_lst, isBool_non, isBool_bl, isBool_int, isBool_str, isBool_tup, isBool_lst, isTuple_non, isTuple_bl, isTuple_int, isTuple_str, isTuple_tup, isTuple_lst, isStr_non, isStr_bl, isStr_int, isStr_str, isStr_tup, isStr_lst, biLen_tup, biTuple_tup, biList_tup, itD_tup, truD_tup, biLen_lst, biTuple_lst, biList_lst, itD_lst, truD_lst, biLen_scr, biLen_dI, biLen_dT, truD_non, truD_bl, truD_int, asB_bl, isNon_non, isNon_bl, isNon_int, isNon_str, isNon_tup, isNon_lst, runF, endF, sSeq, thenS, sSet, sSetN, sRet, sIf, sExpr, sNil, sPass, sCont, sFrz, sKill, eCall, aCons, aNil, aStar, rd, ro, cst, frz, op2, cmp2, cmp3, ofB, eAnd, eOr, eNot, eNeg, eIf, tAnd', tOr', tNot', tru, eTup, eLst, eIx, eSl, oNone, oSome, b1, b2, eIsi, noExc_ok, noExc_err, biAbs, biInt, opAdd, opSub, opMul, smI_lit, opPow, smP1015, Bool.or_true, Bool.true_or, opDiv, opMod, cmLt, cmLe, cmGt, cmGe, cmInt, cmIs, cmIsNot, itR, itRC, rgM, rgMC, its, gtN, gtT, gtCons, gtNil, sAsg, sApp, appM, isOwnL, sFor, freeze1, wipeN, eListR, eTupR, eMeth, isSq_tup, isSq_lst, eRev, ok_bind, err_bind, List.map_cons, List.map_nil, List.length_cons, List.length_nil, List.cons_append, List.nil_append, List.replicate_succ, List.replicate_zero, List.getElem?_cons_zero, List.getElem?_cons_succ, List.set_cons_zero, List.set_cons_succ, List.foldl_cons, List.foldl_nil, if_true, if_false, ite_true, ite_false, reduceIte, reduceCtorEq, Int.reduceLT, Int.reduceLE, Int.reducePow, Int.reduceToNat, Nat.reducePow, Nat.reduceLT, Nat.reduceLeDiff, Int.reduceAdd, Int.reduceSub, Int.reduceMul, Int.reduceNeg, Nat.reduceAdd, Nat.reduceSub, Int.reduceEq, Nat.reduceEqDiff, decide_true, decide_false, and_self, Bool.and_self, Bool.and_true, Bool.true_and, and_true, true_and, Nat.zero_le, Bool.not_true, Bool.not_false, Bool.false_eq_true, decide_eq_true_eq, goOn, turn, are_grids_ev _ hk, ha, sucl, tablesD]
end Sim

namespace Sim
open PySem L2
mutual
theorem okD_mono : ∀ (n m : Nat) (d : D), n ≤ m → okD n d = true → okD m d = true
  | _, _, .non, _, _ => by simp [okD]
  | _, _, .bl _, _, _ => by simp [okD]
  | _, _, .int _, _, _ => by simp [okD]
  | _, _, .str _, _, h => by simpa [okD] using h
  | 0, _, .tup _, _, h => by simp [okD] at h
  | n + 1, 0, .tup _, h, _ => by omega
  | n + 1, m + 1, .tup xs, hl, h => by
    have := okDs_mono n m xs (by omega) (by simpa [okD] using h)
    simpa [okD] using this
  | 0, _, .lst _, _, h => by simp [okD] at h
  | n + 1, 0, .lst _, h, _ => by omega
  | n + 1, m + 1, .lst xs, hl, h => by
    have := okDs_mono n m xs (by omega) (by simpa [okD] using h)
    simpa [okD] using this
  | _, _, .dI _, _, h => by simp [okD] at h
  | _, _, .dT _, _, h => by simp [okD] at h
  | _, _, .tab _ _, _, h => by simp [okD] at h
  | _, _, .scr _, _, h => by simp [okD] at h
theorem okDs_mono : ∀ (n m : Nat) (ds : List D), n ≤ m → okDs n ds = true → okDs m ds = true
  | _, _, [], _, _ => by simp [okDs]
  | n, m, d :: ds, hl, h => by
    have h' : okD n d = true ∧ okDs n ds = true := by simpa [okDs] using h
    have a := okD_mono n m d hl h'.1
    have b := okDs_mono n m ds hl h'.2
    simp [okDs, a, b]
end
theorem okDs_of {n : Nat} : ∀ {ds : List D}, (∀ d ∈ ds, okD n d = true) → okDs n ds = true
  | [], _ => by simp [okDs]
  | d :: ds, h => by
    have a := h d List.mem_cons_self
    have b := okDs_of (n := n) (ds := ds) fun x hx => h x (List.mem_cons_of_mem _ hx)
    simp [okDs, a, b]
theorem cmNe_nil {F : List D} (h : okDs 59 F = true) : cmNe (.lst F) (.lst []) = .ok (!F.isEmpty) := by
  unfold cmNe
  rw [if_pos ⟨by simpa [okD] using h, rfl⟩]
  cases F with
  | nil => rfl
  | cons a l => simp [eqD, toPy, toPys, PyData.eqv, PyData.eqvAll]
theorem filter_empty (f : D → Bool) (l : List D) : ((l.filter fun d => !f d).map fun d => d).isEmpty = l.all f := by
  rw [List.map_id']
  induction l with
  | nil => rfl
  | cons a l ih =>
    rw [List.filter_cons, List.all_cons]
    cases h : f a with
    | true => simpa using ih
    | false => simp
theorem law_check_ev {k n : Nat} (hk2 : k ≤ 50) (thing d : D) (h : okD (k + 2) d = true) (ρ : Nv) (hρ : ρ = [some (.val thing), some (.val (.int (n : Nat))), some (.val d), none, none, none, none, none, none, none]) :
    sSeq (sIf (tOr' (tNot' (tru (eIsi isTuple (ro 2)))) (cmp2 cmNe (frz (b1 biLen (ro 2))) (ro 1))) (sRet (eTup (aCons (cst (.str "tables")) aNil))) sNil) (sIf (cmp2 cmNe (frz (eLC (its (ro 2)) [9] (gtN 9) (tNot' (tru (eCall f__law_is_row (aCons (rd 9) (aCons (rd 1) (aCons (rd 1) aNil)))))) (rd 9))) (frz (eLst aNil))) (sRet (eTup (aCons (cst (.str "tables")) aNil))) sNil) ρ =
      .ok (if (!isGridD n d) = true then (.rt tablesD, ρ) else (.nx, ρ)) := by
  have h0 : (0 ≤ lim) = True := eq_true (Nat.zero_le _)
  subst hρ
  cases d with
  | tup xs =>
    have hxs : okDs (k + 1) xs = true := by simpa [okD] using h
    cases hl : xs.length == n with
    | false => simp (implicitDefEqProofs := false) only [isInt_non, isInt_bl, isInt_int, isInt_str, isInt_tup, isInt_lst, isBool_non, isBool_bl, isBool_int, isBool_str, isBool_tup, isBool_lst, isTuple_non, isTuple_bl, isTuple_int, isTuple_str, isTuple_tup, isTuple_lst, isStr_non, isStr_bl, isStr_int, isStr_str, isStr_tup, isStr_lst, biLen_tup, biTuple_tup, biList_tup, itD_tup, truD_tup, biLen_lst, biTuple_lst, biList_lst, itD_lst, truD_lst, biLen_scr, biLen_dI, biLen_dT, truD_non, truD_bl, truD_int, asB_bl, isNon_non, isNon_bl, isNon_int, isNon_str, isNon_tup, isNon_lst, runF, endF, sSeq, thenS, sSet, sSetN, sRet, sIf, sExpr, sNil, sPass, sCont, sFrz, sKill, eCall, aCons, aNil, aStar, rd, ro, cst, frz, op2, cmp2, cmp3, ofB, eAnd, eOr, eNot, eNeg, eIf, tAnd', tOr', tNot', tru, eTup, eLst, eIx, eSl, oNone, oSome, b1, b2, eIsi, noExc_ok, noExc_err, biAbs, biInt, opAdd, opSub, opMul, smI_lit, opPow, smP1015, Bool.or_true, Bool.true_or, opDiv, opMod, cmLt, cmLe, cmGt, cmGe, cmInt, cmIs, cmIsNot, itR, itRC, rgM, rgMC, its, gtN, gtT, gtCons, gtNil, sAsg, sApp, appM, isOwnL, sFor, freeze1, wipeN, eListR, eTupR, eMeth, isSq_tup, isSq_lst, eRev, ok_bind, err_bind, List.map_cons, List.map_nil, List.length_cons, List.length_nil, List.cons_append, List.nil_append, List.replicate_succ, List.replicate_zero, List.getElem?_cons_zero, List.getElem?_cons_succ, List.set_cons_zero, List.set_cons_succ, List.foldl_cons, List.foldl_nil, if_true, if_false, ite_true, ite_false, reduceIte, reduceCtorEq, Int.reduceLT, Int.reduceLE, Int.reducePow, Int.reduceToNat, Nat.reducePow, Nat.reduceLT, Nat.reduceLeDiff, Int.reduceAdd, Int.reduceSub, Int.reduceMul, Int.reduceNeg, Nat.reduceAdd, Nat.reduceSub, Int.reduceEq, Nat.reduceEqDiff, decide_true, decide_false, and_self, Bool.and_self, Bool.and_true, Bool.true_and, and_true, true_and, Nat.zero_le, Bool.not_true, Bool.not_false, Bool.false_eq_true, decide_eq_true_eq, goOn, turn, cmNe_int, nat_eqB, hl, isGridD, Bool.false_and, sucl, tablesD]
    | true =>
      have hlc := lc_filter (i := 9) (t := tNot' (tru (eCall f__law_is_row (aCons (rd 9) (aCons (rd 1) (aCons (rd 1) aNil)))))) (p := rd 9) (ρ := [some (.val thing), some (.val (.int (n : Nat))), some (.val (.tup xs)), none, none, none, none, none, none, none]) (b := fun d => !isRowD n d) (g := fun d => d) xs
        (fun d hd => by simp (implicitDefEqProofs := false) only [isInt_non, isInt_bl, isInt_int, isInt_str, isInt_tup, isInt_lst, isBool_non, isBool_bl, isBool_int, isBool_str, isBool_tup, isBool_lst, isTuple_non, isTuple_bl, isTuple_int, isTuple_str, isTuple_tup, isTuple_lst, isStr_non, isStr_bl, isStr_int, isStr_str, isStr_tup, isStr_lst, biLen_tup, biTuple_tup, biList_tup, itD_tup, truD_tup, biLen_lst, biTuple_lst, biList_lst, itD_lst, truD_lst, biLen_scr, biLen_dI, biLen_dT, truD_non, truD_bl, truD_int, asB_bl, isNon_non, isNon_bl, isNon_int, isNon_str, isNon_tup, isNon_lst, runF, endF, sSeq, thenS, sSet, sSetN, sRet, sIf, sExpr, sNil, sPass, sCont, sFrz, sKill, eCall, aCons, aNil, aStar, rd, ro, cst, frz, op2, cmp2, cmp3, ofB, eAnd, eOr, eNot, eNeg, eIf, tAnd', tOr', tNot', tru, eTup, eLst, eIx, eSl, oNone, oSome, b1, b2, eIsi, noExc_ok, noExc_err, biAbs, biInt, opAdd, opSub, opMul, smI_lit, opPow, smP1015, Bool.or_true, Bool.true_or, opDiv, opMod, cmLt, cmLe, cmGt, cmGe, cmInt, cmIs, cmIsNot, itR, itRC, rgM, rgMC, its, gtN, gtT, gtCons, gtNil, sAsg, sApp, appM, isOwnL, sFor, freeze1, wipeN, eListR, eTupR, eMeth, isSq_tup, isSq_lst, eRev, ok_bind, err_bind, List.map_cons, List.map_nil, List.length_cons, List.length_nil, List.cons_append, List.nil_append, List.replicate_succ, List.replicate_zero, List.getElem?_cons_zero, List.getElem?_cons_succ, List.set_cons_zero, List.set_cons_succ, List.foldl_cons, List.foldl_nil, if_true, if_false, ite_true, ite_false, reduceIte, reduceCtorEq, Int.reduceLT, Int.reduceLE, Int.reducePow, Int.reduceToNat, Nat.reducePow, Nat.reduceLT, Nat.reduceLeDiff, Int.reduceAdd, Int.reduceSub, Int.reduceMul, Int.reduceNeg, Nat.reduceAdd, Nat.reduceSub, Int.reduceEq, Nat.reduceEqDiff, decide_true, decide_false, and_self, Bool.and_self, Bool.and_true, Bool.true_and, and_true, true_and, Nat.zero_le, Bool.not_true, Bool.not_false, Bool.false_eq_true, decide_eq_true_eq, goOn, turn, is_row_ev n d (okDs_mem hxs d hd)]) (fun d hd _ => by simp (implicitDefEqProofs := false) only [isInt_non, isInt_bl, isInt_int, isInt_str, isInt_tup, isInt_lst, isBool_non, isBool_bl, isBool_int, isBool_str, isBool_tup, isBool_lst, isTuple_non, isTuple_bl, isTuple_int, isTuple_str, isTuple_tup, isTuple_lst, isStr_non, isStr_bl, isStr_int, isStr_str, isStr_tup, isStr_lst, biLen_tup, biTuple_tup, biList_tup, itD_tup, truD_tup, biLen_lst, biTuple_lst, biList_lst, itD_lst, truD_lst, biLen_scr, biLen_dI, biLen_dT, truD_non, truD_bl, truD_int, asB_bl, isNon_non, isNon_bl, isNon_int, isNon_str, isNon_tup, isNon_lst, runF, endF, sSeq, thenS, sSet, sSetN, sRet, sIf, sExpr, sNil, sPass, sCont, sFrz, sKill, eCall, aCons, aNil, aStar, rd, ro, cst, frz, op2, cmp2, cmp3, ofB, eAnd, eOr, eNot, eNeg, eIf, tAnd', tOr', tNot', tru, eTup, eLst, eIx, eSl, oNone, oSome, b1, b2, eIsi, noExc_ok, noExc_err, biAbs, biInt, opAdd, opSub, opMul, smI_lit, opPow, smP1015, Bool.or_true, Bool.true_or, opDiv, opMod, cmLt, cmLe, cmGt, cmGe, cmInt, cmIs, cmIsNot, itR, itRC, rgM, rgMC, its, gtN, gtT, gtCons, gtNil, sAsg, sApp, appM, isOwnL, sFor, freeze1, wipeN, eListR, eTupR, eMeth, isSq_tup, isSq_lst, eRev, ok_bind, err_bind, List.map_cons, List.map_nil, List.length_cons, List.length_nil, List.cons_append, List.nil_append, List.replicate_succ, List.replicate_zero, List.getElem?_cons_zero, List.getElem?_cons_succ, List.set_cons_zero, List.set_cons_succ, List.foldl_cons, List.foldl_nil, if_true, if_false, ite_true, ite_false, reduceIte, reduceCtorEq, Int.reduceLT, Int.reduceLE, Int.reducePow, Int.reduceToNat, Nat.reducePow, Nat.reduceLT, Nat.reduceLeDiff, Int.reduceAdd, Int.reduceSub, Int.reduceMul, Int.reduceNeg, Nat.reduceAdd, Nat.reduceSub, Int.reduceEq, Nat.reduceEqDiff, decide_true, decide_false, and_self, Bool.and_self, Bool.and_true, Bool.true_and, and_true, true_and, Nat.zero_le, Bool.not_true, Bool.not_false, Bool.false_eq_true, decide_eq_true_eq, goOn, turn])
      have hF : okDs 59 ((xs.filter fun d => !isRowD n d).map fun d => d) = true := okDs_of fun d hd => by
        rw [List.map_id'] at hd
        exact okD_mono (k + 1) 59 d (by omega) (okDs_mem hxs d (List.mem_filter.mp hd).1)
      cases hall : xs.all (isRowD n) with
      | true => simp (implicitDefEqProofs := false) only [isInt_non, isInt_bl, isInt_int, isInt_str, isInt_tup, isInt_lst, isBool_non, isBool_bl, isBool_int, isBool_str, isBool_tup, isBool_lst, isTuple_non, isTuple_bl, isTuple_int, isTuple_str, isTuple_tup, isTuple_lst, isStr_non, isStr_bl, isStr_int, isStr_str, isStr_tup, isStr_lst, biLen_tup, biTuple_tup, biList_tup, itD_tup, truD_tup, biLen_lst, biTuple_lst, biList_lst, itD_lst, truD_lst, biLen_scr, biLen_dI, biLen_dT, truD_non, truD_bl, truD_int, asB_bl, isNon_non, isNon_bl, isNon_int, isNon_str, isNon_tup, isNon_lst, runF, endF, sSeq, thenS, sSet, sSetN, sRet, sIf, sExpr, sNil, sPass, sCont, sFrz, sKill, eCall, aCons, aNil, aStar, rd, ro, cst, frz, op2, cmp2, cmp3, ofB, eAnd, eOr, eNot, eNeg, eIf, tAnd', tOr', tNot', tru, eTup, eLst, eIx, eSl, oNone, oSome, b1, b2, eIsi, noExc_ok, noExc_err, biAbs, biInt, opAdd, opSub, opMul, smI_lit, opPow, smP1015, Bool.or_true, Bool.true_or, opDiv, opMod, cmLt, cmLe, cmGt, cmGe, cmInt, cmIs, cmIsNot, itR, itRC, rgM, rgMC, its, gtN, gtT, gtCons, gtNil, sAsg, sApp, appM, isOwnL, sFor, freeze1, wipeN, eListR, eTupR, eMeth, isSq_tup, isSq_lst, eRev, ok_bind, err_bind, List.map_cons, List.map_nil, List.length_cons, List.length_nil, List.cons_append, List.nil_append, List.replicate_succ, List.replicate_zero, List.getElem?_cons_zero, List.getElem?_cons_succ, List.set_cons_zero, List.set_cons_succ, List.foldl_cons, List.foldl_nil, if_true, if_false, ite_true, ite_false, reduceIte, reduceCtorEq, Int.reduceLT, Int.reduceLE, Int.reducePow, Int.reduceToNat, Nat.reducePow, Nat.reduceLT, Nat.reduceLeDiff, Int.reduceAdd, Int.reduceSub, Int.reduceMul, Int.reduceNeg, Nat.reduceAdd, Nat.reduceSub, Int.reduceEq, Nat.reduceEqDiff, decide_true, decide_false, and_self, Bool.and_self, Bool.and_true, Bool.true_and, and_true, true_and, Nat.zero_le, Bool.not_true, Bool.not_false, Bool.false_eq_true, decide_eq_true_eq, goOn, turn, cmNe_int, nat_eqB, hl, eLC, hlc, h0, cmNe_nil hF, filter_empty, hall, isGridD, sucl, tablesD]
      | false => simp (implicitDefEqProofs := false) only [isInt_non, isInt_bl, isInt_int, isInt_str, isInt_tup, isInt_lst, isBool_non, isBool_bl, isBool_int, isBool_str, isBool_tup, isBool_lst, isTuple_non, isTuple_bl, isTuple_int, isTuple_str, isTuple_tup, isTuple_lst, isStr_non, isStr_bl, isStr_int, isStr_str, isStr_tup, isStr_lst, biLen_tup, biTuple_tup, biList_tup, itD_tup, truD_tup, biLen_lst, biTuple_lst, biList_lst, itD_lst, truD_lst, biLen_scr, biLen_dI, biLen_dT, truD_non, truD_bl, truD_int, asB_bl, isNon_non, isNon_bl, isNon_int, isNon_str, isNon_tup, isNon_lst, runF, endF, sSeq, thenS, sSet, sSetN, sRet, sIf, sExpr, sNil, sPass, sCont, sFrz, sKill, eCall, aCons, aNil, aStar, rd, ro, cst, frz, op2, cmp2, cmp3, ofB, eAnd, eOr, eNot, eNeg, eIf, tAnd', tOr', tNot', tru, eTup, eLst, eIx, eSl, oNone, oSome, b1, b2, eIsi, noExc_ok, noExc_err, biAbs, biInt, opAdd, opSub, opMul, smI_lit, opPow, smP1015, Bool.or_true, Bool.true_or, opDiv, opMod, cmLt, cmLe, cmGt, cmGe, cmInt, cmIs, cmIsNot, itR, itRC, rgM, rgMC, its, gtN, gtT, gtCons, gtNil, sAsg, sApp, appM, isOwnL, sFor, freeze1, wipeN, eListR, eTupR, eMeth, isSq_tup, isSq_lst, eRev, ok_bind, err_bind, List.map_cons, List.map_nil, List.length_cons, List.length_nil, List.cons_append, List.nil_append, List.replicate_succ, List.replicate_zero, List.getElem?_cons_zero, List.getElem?_cons_succ, List.set_cons_zero, List.set_cons_succ, List.foldl_cons, List.foldl_nil, if_true, if_false, ite_true, ite_false, reduceIte, reduceCtorEq, Int.reduceLT, Int.reduceLE, Int.reducePow, Int.reduceToNat, Nat.reducePow, Nat.reduceLT, Nat.reduceLeDiff, Int.reduceAdd, Int.reduceSub, Int.reduceMul, Int.reduceNeg, Nat.reduceAdd, Nat.reduceSub, Int.reduceEq, Nat.reduceEqDiff, decide_true, decide_false, and_self, Bool.and_self, Bool.and_true, Bool.true_and, and_true, true_and, Nat.zero_le, Bool.not_true, Bool.not_false, Bool.false_eq_true, decide_eq_true_eq, goOn, turn, cmNe_int, nat_eqB, hl, eLC, hlc, h0, cmNe_nil hF, filter_empty, hall, isGridD, Bool.and_false, sucl, tablesD]
  | _ => first | (simp (implicitDefEqProofs := false) only [isInt_non, isInt_bl, isInt_int, isInt_str, isInt_tup, isInt_lst, isBool_non, isBool_bl, isBool_int, isBool_str, isBool_tup, isBool_lst, isTuple_non, isTuple_bl, isTuple_int, isTuple_str, isTuple_tup, isTuple_lst, isStr_non, isStr_bl, isStr_int, isStr_str, isStr_tup, isStr_lst, biLen_tup, biTuple_tup, biList_tup, itD_tup, truD_tup, biLen_lst, biTuple_lst, biList_lst, itD_lst, truD_lst, biLen_scr, biLen_dI, biLen_dT, truD_non, truD_bl, truD_int, asB_bl, isNon_non, isNon_bl, isNon_int, isNon_str, isNon_tup, isNon_lst, runF, endF, sSeq, thenS, sSet, sSetN, sRet, sIf, sExpr, sNil, sPass, sCont, sFrz, sKill, eCall, aCons, aNil, aStar, rd, ro, cst, frz, op2, cmp2, cmp3, ofB, eAnd, eOr, eNot, eNeg, eIf, tAnd', tOr', tNot', tru, eTup, eLst, eIx, eSl, oNone, oSome, b1, b2, eIsi, noExc_ok, noExc_err, biAbs, biInt, opAdd, opSub, opMul, smI_lit, opPow, smP1015, Bool.or_true, Bool.true_or, opDiv, opMod, cmLt, cmLe, cmGt, cmGe, cmInt, cmIs, cmIsNot, itR, itRC, rgM, rgMC, its, gtN, gtT, gtCons, gtNil, sAsg, sApp, appM, isOwnL, sFor, freeze1, wipeN, eListR, eTupR, eMeth, isSq_tup, isSq_lst, eRev, ok_bind, err_bind, List.map_cons, List.map_nil, List.length_cons, List.length_nil, List.cons_append, List.nil_append, List.replicate_succ, List.replicate_zero, List.getElem?_cons_zero, List.getElem?_cons_succ, List.set_cons_zero, List.set_cons_succ, List.foldl_cons, List.foldl_nil, if_true, if_false, ite_true, ite_false, reduceIte, reduceCtorEq, Int.reduceLT, Int.reduceLE, Int.reducePow, Int.reduceToNat, Nat.reducePow, Nat.reduceLT, Nat.reduceLeDiff, Int.reduceAdd, Int.reduceSub, Int.reduceMul, Int.reduceNeg, Nat.reduceAdd, Nat.reduceSub, Int.reduceEq, Nat.reduceEqDiff, decide_true, decide_false, and_self, Bool.and_self, Bool.and_true, Bool.true_and, and_true, true_and, Nat.zero_le, Bool.not_true, Bool.not_false, Bool.false_eq_true, decide_eq_true_eq, goOn, turn, isGridD, sucl, tablesD]; done) | (simp [okD] at h)

theorem law_fault_grids {n : Nat} {s u : Nat → Nat → Nat} (h1 : 1 ≤ n) (hn : n ≤ 24) (h : Bd n s) (h' : Bd n u) {k : Nat} (hk2 : k ≤ 50) (hk : okD (k + 3) (.tup [gridD n n s, gridD n n u]) = true) (gs : isGridD n (gridD n n s) = true) (gu : isGridD n (gridD n n u) = true) :
    f__law_fault [.tup [gridD n n s, gridD n n u]] = .ok (faultD n s u) := by
  have hds : okDs (k + 2) [gridD n n s, gridD n n u] = true := by simpa [okD] using hk
  have i0 : ixD (.tup [gridD n n s, gridD n n u]) (.int 0) = .ok (gridD n n s) := rfl
  have it0 : isTuple (gridD n n s) = .ok true := rfl
  have e2 : (((0 + 1 + 1 : Nat) : Int) = 2) = True := by simp
  have l1 : ¬ ((n : Int) < 1) := by omega
  have l2 : ¬ (24 < (n : Int)) := by omega
  have h4 : (0 + 1 + 1 + 1 + 1 ≤ lim) = True := eq_true (by decide)
  have hall := all_rows_ev 3 n (by decide) (by omega) (pow3 hn)
  have e3 : ((3 : Nat) : Int) = 3 := rfl
  rw [e3] at hall
  have c1 := forGo_if (gt := gtN 2) (kill := [2]) (m := sSeq (sIf (tOr' (tNot' (tru (eIsi isTuple (ro 2)))) (cmp2 cmNe (frz (b1 biLen (ro 2))) (ro 1))) (sRet (eTup (aCons (cst (.str "tables")) aNil))) sNil) (sIf (cmp2 cmNe (frz (eLC (its (ro 2)) [9] (gtN 9) (tNot' (tru (eCall f__law_is_row (aCons (rd 9) (aCons (rd 1) (aCons (rd 1) aNil)))))) (rd 9))) (frz (eLst aNil))) (sRet (eTup (aCons (cst (.str "tables")) aNil))) sNil))
    (ρ := [some (.val (.tup [gridD n n s, gridD n n u])), some (.val (.int (n : Nat))), none, none, none, none, none, none, none, none]) (enc := fun d => d) (bad := fun d => !isGridD n d) (r := fun _ => tablesD) [gridD n n s, gridD n n u]
    (fun d hd => ⟨_, _, rfl, law_check_ev hk2 _ d (okDs_mem hds d hd) _ rfl, fun _ => rfl⟩)
  rw [List.map_id'] at c1
  have c2 : forGo (gtN 2) [2] (sSeq (sIf (tOr' (tNot' (tru (eIsi isTuple (ro 2)))) (cmp2 cmNe (frz (b1 biLen (ro 2))) (ro 1))) (sRet (eTup (aCons (cst (.str "tables")) aNil))) sNil) (sIf (cmp2 cmNe (frz (eLC (its (ro 2)) [9] (gtN 9) (tNot' (tru (eCall f__law_is_row (aCons (rd 9) (aCons (rd 1) (aCons (rd 1) aNil)))))) (rd 9))) (frz (eLst aNil))) (sRet (eTup (aCons (cst (.str "tables")) aNil))) sNil)) [gridD n n s, gridD n n u] [some (.val (.tup [gridD n n s, gridD n n u])), some (.val (.int (n : Nat))), none, none, none, none, none, none, none, none] = .ok (.nx, [some (.val (.tup [gridD n n s, gridD n n u])), some (.val (.int (n : Nat))), none, none, none, none, none, none, none, none]) := by
    rcases c1 with ⟨_, k2⟩ | ⟨x, _, k1, k2, _⟩
    · exact k2
    · have := List.find?_some k1
      simp only [List.mem_cons, List.not_mem_nil, or_false] at k2
      rcases k2 with rfl | rfl
      · rw [gs] at this; cases this
      · rw [gu] at this; cases this
  have d1 := forGo_if (gt := gtT (gtCons (gtN 5) (gtCons (gtN 6) (gtCons (gtN 7) gtNil)))) (kill := [5, 6, 7]) (m := sIf (tOr' (tNot' (tru (eCall f__law_group_at (aCons (rd 3) (aCons (rd 5) (aCons (rd 6) (aCons (rd 7) aNil))))))) (cmp2 cmNe (eIx (eIx (ro 3) (rd 5)) (rd 6)) (eIx (eIx (ro 3) (rd 6)) (rd 5)))) (sRet (eTup (aCons (cst (.str "sums")) (aCons (rd 5) (aCons (rd 6) (aCons (rd 7) aNil)))))) sNil)
    (ρ := [some (.val (.tup [gridD n n s, gridD n n u])), some (.val (.int (n : Nat))), none, some (.val (gridD n n s)), some (.val (gridD n n u)), none, none, none, none, none]) (enc := fun r => .tup (nats r)) (bad := badG n s true) (r := fun r => .tup (.str "sums" :: nats r)) (rowsR n 3) (fun r hr => by
    obtain ⟨a, b, c, rfl, ha, hb, hc⟩ := row3 hr
    refine ⟨[some (.val (.tup [gridD n n s, gridD n n u])), some (.val (.int (n : Nat))), none, some (.val (gridD n n s)), some (.val (gridD n n u)), some (.val (.int (a : Nat))), some (.val (.int (b : Nat))), some (.val (.int (c : Nat))), none, none], [some (.val (.tup [gridD n n s, gridD n n u])), some (.val (.int (n : Nat))), none, some (.val (gridD n n s)), some (.val (gridD n n u)), some (.val (.int (a : Nat))), some (.val (.int (b : Nat))), some (.val (.int (c : Nat))), none, none], rfl, ?_, fun _ => rfl⟩
    rw [show nats [a, b, c] = [.int (a : Nat), .int (b : Nat), .int (c : Nat)] from rfl]
    cases e1 : grpB n s a b c with
    | false => simp (implicitDefEqProofs := false) only [isInt_non, isInt_bl, isInt_int, isInt_str, isInt_tup, isInt_lst, isBool_non, isBool_bl, isBool_int, isBool_str, isBool_tup, isBool_lst, isTuple_non, isTuple_bl, isTuple_int, isTuple_str, isTuple_tup, isTuple_lst, isStr_non, isStr_bl, isStr_int, isStr_str, isStr_tup, isStr_lst, biLen_tup, biTuple_tup, biList_tup, itD_tup, truD_tup, biLen_lst, biTuple_lst, biList_lst, itD_lst, truD_lst, biLen_scr, biLen_dI, biLen_dT, truD_non, truD_bl, truD_int, asB_bl, isNon_non, isNon_bl, isNon_int, isNon_str, isNon_tup, isNon_lst, runF, endF, sSeq, thenS, sSet, sSetN, sRet, sIf, sExpr, sNil, sPass, sCont, sFrz, sKill, eCall, aCons, aNil, aStar, rd, ro, cst, frz, op2, cmp2, cmp3, ofB, eAnd, eOr, eNot, eNeg, eIf, tAnd', tOr', tNot', tru, eTup, eLst, eIx, eSl, oNone, oSome, b1, b2, eIsi, noExc_ok, noExc_err, biAbs, biInt, opAdd, opSub, opMul, smI_lit, opPow, smP1015, Bool.or_true, Bool.true_or, opDiv, opMod, cmLt, cmLe, cmGt, cmGe, cmInt, cmIs, cmIsNot, itR, itRC, rgM, rgMC, its, gtN, gtT, gtCons, gtNil, sAsg, sApp, appM, isOwnL, sFor, freeze1, wipeN, eListR, eTupR, eMeth, isSq_tup, isSq_lst, eRev, ok_bind, err_bind, List.map_cons, List.map_nil, List.length_cons, List.length_nil, List.cons_append, List.nil_append, List.replicate_succ, List.replicate_zero, List.getElem?_cons_zero, List.getElem?_cons_succ, List.set_cons_zero, List.set_cons_succ, List.foldl_cons, List.foldl_nil, if_true, if_false, ite_true, ite_false, reduceIte, reduceCtorEq, Int.reduceLT, Int.reduceLE, Int.reducePow, Int.reduceToNat, Nat.reducePow, Nat.reduceLT, Nat.reduceLeDiff, Int.reduceAdd, Int.reduceSub, Int.reduceMul, Int.reduceNeg, Nat.reduceAdd, Nat.reduceSub, Int.reduceEq, Nat.reduceEqDiff, decide_true, decide_false, and_self, Bool.and_self, Bool.and_true, Bool.true_and, and_true, true_and, Nat.zero_le, Bool.not_true, Bool.not_false, Bool.false_eq_true, decide_eq_true_eq, goOn, turn, law_group_at_ev h ha hb hc, e1, badG, Bool.true_or, h4]
    | true =>
      cases e2 : (s a b == s b a) with
      | true => simp (implicitDefEqProofs := false) only [isInt_non, isInt_bl, isInt_int, isInt_str, isInt_tup, isInt_lst, isBool_non, isBool_bl, isBool_int, isBool_str, isBool_tup, isBool_lst, isTuple_non, isTuple_bl, isTuple_int, isTuple_str, isTuple_tup, isTuple_lst, isStr_non, isStr_bl, isStr_int, isStr_str, isStr_tup, isStr_lst, biLen_tup, biTuple_tup, biList_tup, itD_tup, truD_tup, biLen_lst, biTuple_lst, biList_lst, itD_lst, truD_lst, biLen_scr, biLen_dI, biLen_dT, truD_non, truD_bl, truD_int, asB_bl, isNon_non, isNon_bl, isNon_int, isNon_str, isNon_tup, isNon_lst, runF, endF, sSeq, thenS, sSet, sSetN, sRet, sIf, sExpr, sNil, sPass, sCont, sFrz, sKill, eCall, aCons, aNil, aStar, rd, ro, cst, frz, op2, cmp2, cmp3, ofB, eAnd, eOr, eNot, eNeg, eIf, tAnd', tOr', tNot', tru, eTup, eLst, eIx, eSl, oNone, oSome, b1, b2, eIsi, noExc_ok, noExc_err, biAbs, biInt, opAdd, opSub, opMul, smI_lit, opPow, smP1015, Bool.or_true, Bool.true_or, opDiv, opMod, cmLt, cmLe, cmGt, cmGe, cmInt, cmIs, cmIsNot, itR, itRC, rgM, rgMC, its, gtN, gtT, gtCons, gtNil, sAsg, sApp, appM, isOwnL, sFor, freeze1, wipeN, eListR, eTupR, eMeth, isSq_tup, isSq_lst, eRev, ok_bind, err_bind, List.map_cons, List.map_nil, List.length_cons, List.length_nil, List.cons_append, List.nil_append, List.replicate_succ, List.replicate_zero, List.getElem?_cons_zero, List.getElem?_cons_succ, List.set_cons_zero, List.set_cons_succ, List.foldl_cons, List.foldl_nil, if_true, if_false, ite_true, ite_false, reduceIte, reduceCtorEq, Int.reduceLT, Int.reduceLE, Int.reducePow, Int.reduceToNat, Nat.reducePow, Nat.reduceLT, Nat.reduceLeDiff, Int.reduceAdd, Int.reduceSub, Int.reduceMul, Int.reduceNeg, Nat.reduceAdd, Nat.reduceSub, Int.reduceEq, Nat.reduceEqDiff, decide_true, decide_false, and_self, Bool.and_self, Bool.and_true, Bool.true_and, and_true, true_and, Nat.zero_le, Bool.not_true, Bool.not_false, Bool.false_eq_true, decide_eq_true_eq, goOn, turn, law_group_at_ev h ha hb hc, e1, e2, badG, Bool.false_or, ix_grid ha, ix_grid hb, ix_row ha, ix_row hb, cmNe_int, nat_eqB, h4]
      | false => simp (implicitDefEqProofs := false) only [isInt_non, isInt_bl, isInt_int, isInt_str, isInt_tup, isInt_lst, isBool_non, isBool_bl, isBool_int, isBool_str, isBool_tup, isBool_lst, isTuple_non, isTuple_bl, isTuple_int, isTuple_str, isTuple_tup, isTuple_lst, isStr_non, isStr_bl, isStr_int, isStr_str, isStr_tup, isStr_lst, biLen_tup, biTuple_tup, biList_tup, itD_tup, truD_tup, biLen_lst, biTuple_lst, biList_lst, itD_lst, truD_lst, biLen_scr, biLen_dI, biLen_dT, truD_non, truD_bl, truD_int, asB_bl, isNon_non, isNon_bl, isNon_int, isNon_str, isNon_tup, isNon_lst, runF, endF, sSeq, thenS, sSet, sSetN, sRet, sIf, sExpr, sNil, sPass, sCont, sFrz, sKill, eCall, aCons, aNil, aStar, rd, ro, cst, frz, op2, cmp2, cmp3, ofB, eAnd, eOr, eNot, eNeg, eIf, tAnd', tOr', tNot', tru, eTup, eLst, eIx, eSl, oNone, oSome, b1, b2, eIsi, noExc_ok, noExc_err, biAbs, biInt, opAdd, opSub, opMul, smI_lit, opPow, smP1015, Bool.or_true, Bool.true_or, opDiv, opMod, cmLt, cmLe, cmGt, cmGe, cmInt, cmIs, cmIsNot, itR, itRC, rgM, rgMC, its, gtN, gtT, gtCons, gtNil, sAsg, sApp, appM, isOwnL, sFor, freeze1, wipeN, eListR, eTupR, eMeth, isSq_tup, isSq_lst, eRev, ok_bind, err_bind, List.map_cons, List.map_nil, List.length_cons, List.length_nil, List.cons_append, List.nil_append, List.replicate_succ, List.replicate_zero, List.getElem?_cons_zero, List.getElem?_cons_succ, List.set_cons_zero, List.set_cons_succ, List.foldl_cons, List.foldl_nil, if_true, if_false, ite_true, ite_false, reduceIte, reduceCtorEq, Int.reduceLT, Int.reduceLE, Int.reducePow, Int.reduceToNat, Nat.reducePow, Nat.reduceLT, Nat.reduceLeDiff, Int.reduceAdd, Int.reduceSub, Int.reduceMul, Int.reduceNeg, Nat.reduceAdd, Nat.reduceSub, Int.reduceEq, Nat.reduceEqDiff, decide_true, decide_false, and_self, Bool.and_self, Bool.and_true, Bool.true_and, and_true, true_and, Nat.zero_le, Bool.not_true, Bool.not_false, Bool.false_eq_true, decide_eq_true_eq, goOn, turn, law_group_at_ev h ha hb hc, e1, e2, badG, Bool.false_or, ix_grid ha, ix_grid hb, ix_row ha, ix_row hb, cmNe_int, nat_eqB, h4])
  have d2 := forGo_if (gt := gtT (gtCons (gtN 5) (gtCons (gtN 6) (gtCons (gtN 7) gtNil)))) (kill := [5, 6, 7]) (m := sIf (tNot' (tru (eCall f__law_group_at (aCons (rd 4) (aCons (rd 5) (aCons (rd 6) (aCons (rd 7) aNil))))))) (sRet (eTup (aCons (cst (.str "times")) (aCons (rd 5) (aCons (rd 6) (aCons (rd 7) aNil)))))) sNil)
    (ρ := [some (.val (.tup [gridD n n s, gridD n n u])), some (.val (.int (n : Nat))), none, some (.val (gridD n n s)), some (.val (gridD n n u)), none, none, none, none, none]) (enc := fun r => .tup (nats r)) (bad := badG n u false) (r := fun r => .tup (.str "times" :: nats r)) (rowsR n 3) (fun r hr => by
    obtain ⟨a, b, c, rfl, ha, hb, hc⟩ := row3 hr
    refine ⟨[some (.val (.tup [gridD n n s, gridD n n u])), some (.val (.int (n : Nat))), none, some (.val (gridD n n s)), some (.val (gridD n n u)), some (.val (.int (a : Nat))), some (.val (.int (b : Nat))), some (.val (.int (c : Nat))), none, none], [some (.val (.tup [gridD n n s, gridD n n u])), some (.val (.int (n : Nat))), none, some (.val (gridD n n s)), some (.val (gridD n n u)), some (.val (.int (a : Nat))), some (.val (.int (b : Nat))), some (.val (.int (c : Nat))), none, none], rfl, ?_, fun _ => rfl⟩
    rw [show nats [a, b, c] = [.int (a : Nat), .int (b : Nat), .int (c : Nat)] from rfl]
    cases e1 : grpB n u a b c with
    | false => simp (implicitDefEqProofs := false) only [isInt_non, isInt_bl, isInt_int, isInt_str, isInt_tup, isInt_lst, isBool_non, isBool_bl, isBool_int, isBool_str, isBool_tup, isBool_lst, isTuple_non, isTuple_bl, isTuple_int, isTuple_str, isTuple_tup, isTuple_lst, isStr_non, isStr_bl, isStr_int, isStr_str, isStr_tup, isStr_lst, biLen_tup, biTuple_tup, biList_tup, itD_tup, truD_tup, biLen_lst, biTuple_lst, biList_lst, itD_lst, truD_lst, biLen_scr, biLen_dI, biLen_dT, truD_non, truD_bl, truD_int, asB_bl, isNon_non, isNon_bl, isNon_int, isNon_str, isNon_tup, isNon_lst, runF, endF, sSeq, thenS, sSet, sSetN, sRet, sIf, sExpr, sNil, sPass, sCont, sFrz, sKill, eCall, aCons, aNil, aStar, rd, ro, cst, frz, op2, cmp2, cmp3, ofB, eAnd, eOr, eNot, eNeg, eIf, tAnd', tOr', tNot', tru, eTup, eLst, eIx, eSl, oNone, oSome, b1, b2, eIsi, noExc_ok, noExc_err, biAbs, biInt, opAdd, opSub, opMul, smI_lit, opPow, smP1015, Bool.or_true, Bool.true_or, opDiv, opMod, cmLt, cmLe, cmGt, cmGe, cmInt, cmIs, cmIsNot, itR, itRC, rgM, rgMC, its, gtN, gtT, gtCons, gtNil, sAsg, sApp, appM, isOwnL, sFor, freeze1, wipeN, eListR, eTupR, eMeth, isSq_tup, isSq_lst, eRev, ok_bind, err_bind, List.map_cons, List.map_nil, List.length_cons, List.length_nil, List.cons_append, List.nil_append, List.replicate_succ, List.replicate_zero, List.getElem?_cons_zero, List.getElem?_cons_succ, List.set_cons_zero, List.set_cons_succ, List.foldl_cons, List.foldl_nil, if_true, if_false, ite_true, ite_false, reduceIte, reduceCtorEq, Int.reduceLT, Int.reduceLE, Int.reducePow, Int.reduceToNat, Nat.reducePow, Nat.reduceLT, Nat.reduceLeDiff, Int.reduceAdd, Int.reduceSub, Int.reduceMul, Int.reduceNeg, Nat.reduceAdd, Nat.reduceSub, Int.reduceEq, Nat.reduceEqDiff, decide_true, decide_false, and_self, Bool.and_self, Bool.and_true, Bool.true_and, and_true, true_and, Nat.zero_le, Bool.not_true, Bool.not_false, Bool.false_eq_true, decide_eq_true_eq, goOn, turn, law_group_at_ev h' ha hb hc, e1, badG, Bool.true_or, h4]
    | true => simp (implicitDefEqProofs := false) only [isInt_non, isInt_bl, isInt_int, isInt_str, isInt_tup, isInt_lst, isBool_non, isBool_bl, isBool_int, isBool_str, isBool_tup, isBool_lst, isTuple_non, isTuple_bl, isTuple_int, isTuple_str, isTuple_tup, isTuple_lst, isStr_non, isStr_bl, isStr_int, isStr_str, isStr_tup, isStr_lst, biLen_tup, biTuple_tup, biList_tup, itD_tup, truD_tup, biLen_lst, biTuple_lst, biList_lst, itD_lst, truD_lst, biLen_scr, biLen_dI, biLen_dT, truD_non, truD_bl, truD_int, asB_bl, isNon_non, isNon_bl, isNon_int, isNon_str, isNon_tup, isNon_lst, runF, endF, sSeq, thenS, sSet, sSetN, sRet, sIf, sExpr, sNil, sPass, sCont, sFrz, sKill, eCall, aCons, aNil, aStar, rd, ro, cst, frz, op2, cmp2, cmp3, ofB, eAnd, eOr, eNot, eNeg, eIf, tAnd', tOr', tNot', tru, eTup, eLst, eIx, eSl, oNone, oSome, b1, b2, eIsi, noExc_ok, noExc_err, biAbs, biInt, opAdd, opSub, opMul, smI_lit, opPow, smP1015, Bool.or_true, Bool.true_or, opDiv, opMod, cmLt, cmLe, cmGt, cmGe, cmInt, cmIs, cmIsNot, itR, itRC, rgM, rgMC, its, gtN, gtT, gtCons, gtNil, sAsg, sApp, appM, isOwnL, sFor, freeze1, wipeN, eListR, eTupR, eMeth, isSq_tup, isSq_lst, eRev, ok_bind, err_bind, List.map_cons, List.map_nil, List.length_cons, List.length_nil, List.cons_append, List.nil_append, List.replicate_succ, List.replicate_zero, List.getElem?_cons_zero, List.getElem?_cons_succ, List.set_cons_zero, List.set_cons_succ, List.foldl_cons, List.foldl_nil, if_true, if_false, ite_true, ite_false, reduceIte, reduceCtorEq, Int.reduceLT, Int.reduceLE, Int.reducePow, Int.reduceToNat, Nat.reducePow, Nat.reduceLT, Nat.reduceLeDiff, Int.reduceAdd, Int.reduceSub, Int.reduceMul, Int.reduceNeg, Nat.reduceAdd, Nat.reduceSub, Int.reduceEq, Nat.reduceEqDiff, decide_true, decide_false, and_self, Bool.and_self, Bool.and_true, Bool.true_and, and_true, true_and, Nat.zero_le, Bool.not_true, Bool.not_false, Bool.false_eq_true, decide_eq_true_eq, goOn, turn, law_group_at_ev h' ha hb hc, e1, badG, Bool.false_or, Bool.false_and, h4])
  unfold tupl at hall
  unfold f__law_fault m__law_fault
  rcases d1 with ⟨k1, k2⟩ | ⟨x, ρ2, k1, _, k2⟩
  · have hz := grp_hasZ k1
    rcases d2 with ⟨j1, j2⟩ | ⟨x, ρ2, j1, _, j2⟩
    · have d3 := forGo_if (gt := gtT (gtCons (gtN 5) (gtCons (gtN 6) (gtCons (gtN 7) gtNil)))) (kill := [5, 6, 7, 8]) (m := sSeq (sSetN 8 (eMeth isSq mIndex (eIx (ro 3) (rd 5)) (aCons (cst (.int 0)) aNil))) (sIf (cmp2 cmNe (eIx (eIx (ro 4) (rd 5)) (eIx (eIx (ro 3) (rd 6)) (rd 7))) (eIx (eIx (ro 3) (eIx (eIx (ro 4) (rd 5)) (rd 6))) (eIx (eIx (ro 3) (rd 8)) (eIx (eIx (ro 4) (rd 5)) (rd 7))))) (sRet (eTup (aCons (cst (.str "both")) (aCons (rd 5) (aCons (rd 6) (aCons (rd 7) aNil)))))) sNil))
        (ρ := [some (.val (.tup [gridD n n s, gridD n n u])), some (.val (.int (n : Nat))), none, some (.val (gridD n n s)), some (.val (gridD n n u)), none, none, none, none, none]) (enc := fun r => .tup (nats r)) (bad := badJ n s u) (r := fun r => .tup (.str "both" :: nats r)) (rowsR n 3) (fun r hr => by
        obtain ⟨a, b, c, rfl, ha, hb, hc⟩ := row3 hr
        have hza := hz a ha
        have z := zix_lt hza
        refine ⟨[some (.val (.tup [gridD n n s, gridD n n u])), some (.val (.int (n : Nat))), none, some (.val (gridD n n s)), some (.val (gridD n n u)), some (.val (.int (a : Nat))), some (.val (.int (b : Nat))), some (.val (.int (c : Nat))), none, none], [some (.val (.tup [gridD n n s, gridD n n u])), some (.val (.int (n : Nat))), none, some (.val (gridD n n s)), some (.val (gridD n n u)), some (.val (.int (a : Nat))), some (.val (.int (b : Nat))), some (.val (.int (c : Nat))), some (.val (.int (zix n (s a) : Nat))), none], rfl, ?_, fun _ => rfl⟩
        rw [show nats [a, b, c] = [.int (a : Nat), .int (b : Nat), .int (c : Nat)] from rfl]
        cases e1 : (u a (s b c) == s (u a b) (s (zix n (s a)) (u a c))) with
        | true => simp (implicitDefEqProofs := false) only [isInt_non, isInt_bl, isInt_int, isInt_str, isInt_tup, isInt_lst, isBool_non, isBool_bl, isBool_int, isBool_str, isBool_tup, isBool_lst, isTuple_non, isTuple_bl, isTuple_int, isTuple_str, isTuple_tup, isTuple_lst, isStr_non, isStr_bl, isStr_int, isStr_str, isStr_tup, isStr_lst, biLen_tup, biTuple_tup, biList_tup, itD_tup, truD_tup, biLen_lst, biTuple_lst, biList_lst, itD_lst, truD_lst, biLen_scr, biLen_dI, biLen_dT, truD_non, truD_bl, truD_int, asB_bl, isNon_non, isNon_bl, isNon_int, isNon_str, isNon_tup, isNon_lst, runF, endF, sSeq, thenS, sSet, sSetN, sRet, sIf, sExpr, sNil, sPass, sCont, sFrz, sKill, eCall, aCons, aNil, aStar, rd, ro, cst, frz, op2, cmp2, cmp3, ofB, eAnd, eOr, eNot, eNeg, eIf, tAnd', tOr', tNot', tru, eTup, eLst, eIx, eSl, oNone, oSome, b1, b2, eIsi, noExc_ok, noExc_err, biAbs, biInt, opAdd, opSub, opMul, smI_lit, opPow, smP1015, Bool.or_true, Bool.true_or, opDiv, opMod, cmLt, cmLe, cmGt, cmGe, cmInt, cmIs, cmIsNot, itR, itRC, rgM, rgMC, its, gtN, gtT, gtCons, gtNil, sAsg, sApp, appM, isOwnL, sFor, freeze1, wipeN, eListR, eTupR, eMeth, isSq_tup, isSq_lst, eRev, ok_bind, err_bind, List.map_cons, List.map_nil, List.length_cons, List.length_nil, List.cons_append, List.nil_append, List.replicate_succ, List.replicate_zero, List.getElem?_cons_zero, List.getElem?_cons_succ, List.set_cons_zero, List.set_cons_succ, List.foldl_cons, List.foldl_nil, if_true, if_false, ite_true, ite_false, reduceIte, reduceCtorEq, Int.reduceLT, Int.reduceLE, Int.reducePow, Int.reduceToNat, Nat.reducePow, Nat.reduceLT, Nat.reduceLeDiff, Int.reduceAdd, Int.reduceSub, Int.reduceMul, Int.reduceNeg, Nat.reduceAdd, Nat.reduceSub, Int.reduceEq, Nat.reduceEqDiff, decide_true, decide_false, and_self, Bool.and_self, Bool.and_true, Bool.true_and, and_true, true_and, Nat.zero_le, Bool.not_true, Bool.not_false, Bool.false_eq_true, decide_eq_true_eq, goOn, turn, isSq_row, mix_row hza, ix_grid ha, ix_grid hb, ix_row hc, ix_row hb, ix_row (h b c hb hc), ix_grid (h' a b ha hb), ix_grid z, ix_row (h' a c ha hc), ix_row (h _ _ z (h' a c ha hc)), cmNe_int, nat_eqB, e1, badJ, h4]
        | false => simp (implicitDefEqProofs := false) only [isInt_non, isInt_bl, isInt_int, isInt_str, isInt_tup, isInt_lst, isBool_non, isBool_bl, isBool_int, isBool_str, isBool_tup, isBool_lst, isTuple_non, isTuple_bl, isTuple_int, isTuple_str, isTuple_tup, isTuple_lst, isStr_non, isStr_bl, isStr_int, isStr_str, isStr_tup, isStr_lst, biLen_tup, biTuple_tup, biList_tup, itD_tup, truD_tup, biLen_lst, biTuple_lst, biList_lst, itD_lst, truD_lst, biLen_scr, biLen_dI, biLen_dT, truD_non, truD_bl, truD_int, asB_bl, isNon_non, isNon_bl, isNon_int, isNon_str, isNon_tup, isNon_lst, runF, endF, sSeq, thenS, sSet, sSetN, sRet, sIf, sExpr, sNil, sPass, sCont, sFrz, sKill, eCall, aCons, aNil, aStar, rd, ro, cst, frz, op2, cmp2, cmp3, ofB, eAnd, eOr, eNot, eNeg, eIf, tAnd', tOr', tNot', tru, eTup, eLst, eIx, eSl, oNone, oSome, b1, b2, eIsi, noExc_ok, noExc_err, biAbs, biInt, opAdd, opSub, opMul, smI_lit, opPow, smP1015, Bool.or_true, Bool.true_or, opDiv, opMod, cmLt, cmLe, cmGt, cmGe, cmInt, cmIs, cmIsNot, itR, itRC, rgM, rgMC, its, gtN, gtT, gtCons, gtNil, sAsg, sApp, appM, isOwnL, sFor, freeze1, wipeN, eListR, eTupR, eMeth, isSq_tup, isSq_lst, eRev, ok_bind, err_bind, List.map_cons, List.map_nil, List.length_cons, List.length_nil, List.cons_append, List.nil_append, List.replicate_succ, List.replicate_zero, List.getElem?_cons_zero, List.getElem?_cons_succ, List.set_cons_zero, List.set_cons_succ, List.foldl_cons, List.foldl_nil, if_true, if_false, ite_true, ite_false, reduceIte, reduceCtorEq, Int.reduceLT, Int.reduceLE, Int.reducePow, Int.reduceToNat, Nat.reducePow, Nat.reduceLT, Nat.reduceLeDiff, Int.reduceAdd, Int.reduceSub, Int.reduceMul, Int.reduceNeg, Nat.reduceAdd, Nat.reduceSub, Int.reduceEq, Nat.reduceEqDiff, decide_true, decide_false, and_self, Bool.and_self, Bool.and_true, Bool.true_and, and_true, true_and, Nat.zero_le, Bool.not_true, Bool.not_false, Bool.false_eq_true, decide_eq_true_eq, goOn, turn, isSq_row, mix_row hza, ix_grid ha, ix_grid hb, ix_row hc, ix_row hb, ix_row (h b c hb hc), ix_grid (h' a b ha hb), ix_grid z, ix_row (h' a c ha hc), ix_row (h _ _ z (h' a c ha hc)), cmNe_int, nat_eqB, e1, badJ, h4])
      rcases d3 with ⟨q1, q2⟩ | ⟨x, ρ2, q1, _, q2⟩
      · simp (implicitDefEqProofs := false) only [isInt_non, isInt_bl, isInt_int, isInt_str, isInt_tup, isInt_lst, isBool_non, isBool_bl, isBool_int, isBool_str, isBool_tup, isBool_lst, isTuple_non, isTuple_bl, isTuple_int, isTuple_str, isTuple_tup, isTuple_lst, isStr_non, isStr_bl, isStr_int, isStr_str, isStr_tup, isStr_lst, biLen_tup, biTuple_tup, biList_tup, itD_tup, truD_tup, biLen_lst, biTuple_lst, biList_lst, itD_lst, truD_lst, biLen_scr, biLen_dI, biLen_dT, truD_non, truD_bl, truD_int, asB_bl, isNon_non, isNon_bl, isNon_int, isNon_str, isNon_tup, isNon_lst, runF, endF, sSeq, thenS, sSet, sSetN, sRet, sIf, sExpr, sNil, sPass, sCont, sFrz, sKill, eCall, aCons, aNil, aStar, rd, ro, cst, frz, op2, cmp2, cmp3, ofB, eAnd, eOr, eNot, eNeg, eIf, tAnd', tOr', tNot', tru, eTup, eLst, eIx, eSl, oNone, oSome, b1, b2, eIsi, noExc_ok, noExc_err, biAbs, biInt, opAdd, opSub, opMul, smI_lit, opPow, smP1015, Bool.or_true, Bool.true_or, opDiv, opMod, cmLt, cmLe, cmGt, cmGe, cmInt, cmIs, cmIsNot, itR, itRC, rgM, rgMC, its, gtN, gtT, gtCons, gtNil, sAsg, sApp, appM, isOwnL, sFor, freeze1, wipeN, eListR, eTupR, eMeth, isSq_tup, isSq_lst, eRev, ok_bind, err_bind, List.map_cons, List.map_nil, List.length_cons, List.length_nil, List.cons_append, List.nil_append, List.replicate_succ, List.replicate_zero, List.getElem?_cons_zero, List.getElem?_cons_succ, List.set_cons_zero, List.set_cons_succ, List.foldl_cons, List.foldl_nil, if_true, if_false, ite_true, ite_false, reduceIte, reduceCtorEq, Int.reduceLT, Int.reduceLE, Int.reducePow, Int.reduceToNat, Nat.reducePow, Nat.reduceLT, Nat.reduceLeDiff, Int.reduceAdd, Int.reduceSub, Int.reduceMul, Int.reduceNeg, Nat.reduceAdd, Nat.reduceSub, Int.reduceEq, Nat.reduceEqDiff, decide_true, decide_false, and_self, Bool.and_self, Bool.and_true, Bool.true_and, and_true, true_and, Nat.zero_le, Bool.not_true, Bool.not_false, Bool.false_eq_true, decide_eq_true_eq, goOn, turn, cmNe_int, i0, it0, e2, len_grid, l1, l2, c2, hall, k2, j2, q2, faultD, k1, j1, q1]
      · simp (implicitDefEqProofs := false) only [isInt_non, isInt_bl, isInt_int, isInt_str, isInt_tup, isInt_lst, isBool_non, isBool_bl, isBool_int, isBool_str, isBool_tup, isBool_lst, isTuple_non, isTuple_bl, isTuple_int, isTuple_str, isTuple_tup, isTuple_lst, isStr_non, isStr_bl, isStr_int, isStr_str, isStr_tup, isStr_lst, biLen_tup, biTuple_tup, biList_tup, itD_tup, truD_tup, biLen_lst, biTuple_lst, biList_lst, itD_lst, truD_lst, biLen_scr, biLen_dI, biLen_dT, truD_non, truD_bl, truD_int, asB_bl, isNon_non, isNon_bl, isNon_int, isNon_str, isNon_tup, isNon_lst, runF, endF, sSeq, thenS, sSet, sSetN, sRet, sIf, sExpr, sNil, sPass, sCont, sFrz, sKill, eCall, aCons, aNil, aStar, rd, ro, cst, frz, op2, cmp2, cmp3, ofB, eAnd, eOr, eNot, eNeg, eIf, tAnd', tOr', tNot', tru, eTup, eLst, eIx, eSl, oNone, oSome, b1, b2, eIsi, noExc_ok, noExc_err, biAbs, biInt, opAdd, opSub, opMul, smI_lit, opPow, smP1015, Bool.or_true, Bool.true_or, opDiv, opMod, cmLt, cmLe, cmGt, cmGe, cmInt, cmIs, cmIsNot, itR, itRC, rgM, rgMC, its, gtN, gtT, gtCons, gtNil, sAsg, sApp, appM, isOwnL, sFor, freeze1, wipeN, eListR, eTupR, eMeth, isSq_tup, isSq_lst, eRev, ok_bind, err_bind, List.map_cons, List.map_nil, List.length_cons, List.length_nil, List.cons_append, List.nil_append, List.replicate_succ, List.replicate_zero, List.getElem?_cons_zero, List.getElem?_cons_succ, List.set_cons_zero, List.set_cons_succ, List.foldl_cons, List.foldl_nil, if_true, if_false, ite_true, ite_false, reduceIte, reduceCtorEq, Int.reduceLT, Int.reduceLE, Int.reducePow, Int.reduceToNat, Nat.reducePow, Nat.reduceLT, Nat.reduceLeDiff, Int.reduceAdd, Int.reduceSub, Int.reduceMul, Int.reduceNeg, Nat.reduceAdd, Nat.reduceSub, Int.reduceEq, Nat.reduceEqDiff, decide_true, decide_false, and_self, Bool.and_self, Bool.and_true, Bool.true_and, and_true, true_and, Nat.zero_le, Bool.not_true, Bool.not_false, Bool.false_eq_true, decide_eq_true_eq, goOn, turn, cmNe_int, i0, it0, e2, len_grid, l1, l2, c2, hall, k2, j2, q2, faultD, k1, j1, q1]
    · simp (implicitDefEqProofs := false) only [isInt_non, isInt_bl, isInt_int, isInt_str, isInt_tup, isInt_lst, isBool_non, isBool_bl, isBool_int, isBool_str, isBool_tup, isBool_lst, isTuple_non, isTuple_bl, isTuple_int, isTuple_str, isTuple_tup, isTuple_lst, isStr_non, isStr_bl, isStr_int, isStr_str, isStr_tup, isStr_lst, biLen_tup, biTuple_tup, biList_tup, itD_tup, truD_tup, biLen_lst, biTuple_lst, biList_lst, itD_lst, truD_lst, biLen_scr, biLen_dI, biLen_dT, truD_non, truD_bl, truD_int, asB_bl, isNon_non, isNon_bl, isNon_int, isNon_str, isNon_tup, isNon_lst, runF, endF, sSeq, thenS, sSet, sSetN, sRet, sIf, sExpr, sNil, sPass, sCont, sFrz, sKill, eCall, aCons, aNil, aStar, rd, ro, cst, frz, op2, cmp2, cmp3, ofB, eAnd, eOr, eNot, eNeg, eIf, tAnd', tOr', tNot', tru, eTup, eLst, eIx, eSl, oNone, oSome, b1, b2, eIsi, noExc_ok, noExc_err, biAbs, biInt, opAdd, opSub, opMul, smI_lit, opPow, smP1015, Bool.or_true, Bool.true_or, opDiv, opMod, cmLt, cmLe, cmGt, cmGe, cmInt, cmIs, cmIsNot, itR, itRC, rgM, rgMC, its, gtN, gtT, gtCons, gtNil, sAsg, sApp, appM, isOwnL, sFor, freeze1, wipeN, eListR, eTupR, eMeth, isSq_tup, isSq_lst, eRev, ok_bind, err_bind, List.map_cons, List.map_nil, List.length_cons, List.length_nil, List.cons_append, List.nil_append, List.replicate_succ, List.replicate_zero, List.getElem?_cons_zero, List.getElem?_cons_succ, List.set_cons_zero, List.set_cons_succ, List.foldl_cons, List.foldl_nil, if_true, if_false, ite_true, ite_false, reduceIte, reduceCtorEq, Int.reduceLT, Int.reduceLE, Int.reducePow, Int.reduceToNat, Nat.reducePow, Nat.reduceLT, Nat.reduceLeDiff, Int.reduceAdd, Int.reduceSub, Int.reduceMul, Int.reduceNeg, Nat.reduceAdd, Nat.reduceSub, Int.reduceEq, Nat.reduceEqDiff, decide_true, decide_false, and_self, Bool.and_self, Bool.and_true, Bool.true_and, and_true, true_and, Nat.zero_le, Bool.not_true, Bool.not_false, Bool.false_eq_true, decide_eq_true_eq, goOn, turn, cmNe_int, i0, it0, e2, len_grid, l1, l2, c2, hall, k2, j2, faultD, k1, j1]
  · simp (implicitDefEqProofs := false) only [isInt_non, isInt_bl, isInt_int, isInt_str, isInt_tup, isInt_lst, isBool_non, isBool_bl, isBool_int, isBool_str, isBool_tup, isBool_lst, isTuple_non, isTuple_bl, isTuple_int, isTuple_str, isTuple_tup, isTuple_lst, isStr_non, isStr_bl, isStr_int, isStr_str, isStr_tup, isStr_lst, biLen_tup, biTuple_tup, biList_tup, itD_tup, truD_tup, biLen_lst, biTuple_lst, biList_lst, itD_lst, truD_lst, biLen_scr, biLen_dI, biLen_dT, truD_non, truD_bl, truD_int, asB_bl, isNon_non, isNon_bl, isNon_int, isNon_str, isNon_tup, isNon_lst, runF, endF, sSeq, thenS, sSet, sSetN, sRet, sIf, sExpr, sNil, sPass, sCont, sFrz, sKill, eCall, aCons, aNil, aStar, rd, ro, cst, frz, op2, cmp2, cmp3, ofB, eAnd, eOr, eNot, eNeg, eIf, tAnd', tOr', tNot', tru, eTup, eLst, eIx, eSl, oNone, oSome, b1, b2, eIsi, noExc_ok, noExc_err, biAbs, biInt, opAdd, opSub, opMul, smI_lit, opPow, smP1015, Bool.or_true, Bool.true_or, opDiv, opMod, cmLt, cmLe, cmGt, cmGe, cmInt, cmIs, cmIsNot, itR, itRC, rgM, rgMC, its, gtN, gtT, gtCons, gtNil, sAsg, sApp, appM, isOwnL, sFor, freeze1, wipeN, eListR, eTupR, eMeth, isSq_tup, isSq_lst, eRev, ok_bind, err_bind, List.map_cons, List.map_nil, List.length_cons, List.length_nil, List.cons_append, List.nil_append, List.replicate_succ, List.replicate_zero, List.getElem?_cons_zero, List.getElem?_cons_succ, List.set_cons_zero, List.set_cons_succ, List.foldl_cons, List.foldl_nil, if_true, if_false, ite_true, ite_false, reduceIte, reduceCtorEq, Int.reduceLT, Int.reduceLE, Int.reducePow, Int.reduceToNat, Nat.reducePow, Nat.reduceLT, Nat.reduceLeDiff, Int.reduceAdd, Int.reduceSub, Int.reduceMul, Int.reduceNeg, Nat.reduceAdd, Nat.reduceSub, Int.reduceEq, Nat.reduceEqDiff, decide_true, decide_false, and_self, Bool.and_self, Bool.and_true, Bool.true_and, and_true, true_and, Nat.zero_le, Bool.not_true, Bool.not_false, Bool.false_eq_true, decide_eq_true_eq, goOn, turn, cmNe_int, i0, it0, e2, len_grid, l1, l2, c2, hall, k2, faultD, k1]
end Sim

namespace Sim
open PySem L2
theorem law_fault_tables {k : Nat} (hk2 : k ≤ 50) (d : D) (h : okD (k + 3) d = true) (ha : areGridsD d = false) : f__law_fault [d] = .ok tablesD := by
  unfold f__law_fault m__law_fault
  cases d with
  | tup ds =>
    have hds : okDs (k + 2) ds = true := by simpa [okD] using h
    match ds, hds with
    | [], _ => simp (implicitDefEqProofs := false) only [isInt_non, isInt_bl, isInt_int, isInt_str, isInt_tup, isInt_lst, isBool_non, isBool_bl, isBool_int, isBool_str, isBool_tup, isBool_lst, isTuple_non, isTuple_bl, isTuple_int, isTuple_str, isTuple_tup, isTuple_lst, isStr_non, isStr_bl, isStr_int, isStr_str, isStr_tup, isStr_lst, biLen_tup, biTuple_tup, biList_tup, itD_tup, truD_tup, biLen_lst, biTuple_lst, biList_lst, itD_lst, truD_lst, biLen_scr, biLen_dI, biLen_dT, truD_non, truD_bl, truD_int, asB_bl, isNon_non, isNon_bl, isNon_int, isNon_str, isNon_tup, isNon_lst, runF, endF, sSeq, thenS, sSet, sSetN, sRet, sIf, sExpr, sNil, sPass, sCont, sFrz, sKill, eCall, aCons, aNil, aStar, rd, ro, cst, frz, op2, cmp2, cmp3, ofB, eAnd, eOr, eNot, eNeg, eIf, tAnd', tOr', tNot', tru, eTup, eLst, eIx, eSl, oNone, oSome, b1, b2, eIsi, noExc_ok, noExc_err, biAbs, biInt, opAdd, opSub, opMul, smI_lit, opPow, smP1015, Bool.or_true, Bool.true_or, opDiv, opMod, cmLt, cmLe, cmGt, cmGe, cmInt, cmIs, cmIsNot, itR, itRC, rgM, rgMC, its, gtN, gtT, gtCons, gtNil, sAsg, sApp, appM, isOwnL, sFor, freeze1, wipeN, eListR, eTupR, eMeth, isSq_tup, isSq_lst, eRev, ok_bind, err_bind, List.map_cons, List.map_nil, List.length_cons, List.length_nil, List.cons_append, List.nil_append, List.replicate_succ, List.replicate_zero, List.getElem?_cons_zero, List.getElem?_cons_succ, List.set_cons_zero, List.set_cons_succ, List.foldl_cons, List.foldl_nil, if_true, if_false, ite_true, ite_false, reduceIte, reduceCtorEq, Int.reduceLT, Int.reduceLE, Int.reducePow, Int.reduceToNat, Nat.reducePow, Nat.reduceLT, Nat.reduceLeDiff, Int.reduceAdd, Int.reduceSub, Int.reduceMul, Int.reduceNeg, Nat.reduceAdd, Nat.reduceSub, Int.reduceEq, Nat.reduceEqDiff, decide_true, decide_false, and_self, Bool.and_self, Bool.and_true, Bool.true_and, and_true, true_and, Nat.zero_le, Bool.not_true, Bool.not_false, Bool.false_eq_true, decide_eq_true_eq, goOn, turn, cmNe_int, sucl, tablesD]; rfl
    | [x], _ => simp (implicitDefEqProofs := false) only [isInt_non, isInt_bl, isInt_int, isInt_str, isInt_tup, isInt_lst, isBool_non, isBool_bl, isBool_int, isBool_str, isBool_tup, isBool_lst, isTuple_non, isTuple_bl, isTuple_int, isTuple_str, isTuple_tup, isTuple_lst, isStr_non, isStr_bl, isStr_int, isStr_str, isStr_tup, isStr_lst, biLen_tup, biTuple_tup, biList_tup, itD_tup, truD_tup, biLen_lst, biTuple_lst, biList_lst, itD_lst, truD_lst, biLen_scr, biLen_dI, biLen_dT, truD_non, truD_bl, truD_int, asB_bl, isNon_non, isNon_bl, isNon_int, isNon_str, isNon_tup, isNon_lst, runF, endF, sSeq, thenS, sSet, sSetN, sRet, sIf, sExpr, sNil, sPass, sCont, sFrz, sKill, eCall, aCons, aNil, aStar, rd, ro, cst, frz, op2, cmp2, cmp3, ofB, eAnd, eOr, eNot, eNeg, eIf, tAnd', tOr', tNot', tru, eTup, eLst, eIx, eSl, oNone, oSome, b1, b2, eIsi, noExc_ok, noExc_err, biAbs, biInt, opAdd, opSub, opMul, smI_lit, opPow, smP1015, Bool.or_true, Bool.true_or, opDiv, opMod, cmLt, cmLe, cmGt, cmGe, cmInt, cmIs, cmIsNot, itR, itRC, rgM, rgMC, its, gtN, gtT, gtCons, gtNil, sAsg, sApp, appM, isOwnL, sFor, freeze1, wipeN, eListR, eTupR, eMeth, isSq_tup, isSq_lst, eRev, ok_bind, err_bind, List.map_cons, List.map_nil, List.length_cons, List.length_nil, List.cons_append, List.nil_append, List.replicate_succ, List.replicate_zero, List.getElem?_cons_zero, List.getElem?_cons_succ, List.set_cons_zero, List.set_cons_succ, List.foldl_cons, List.foldl_nil, if_true, if_false, ite_true, ite_false, reduceIte, reduceCtorEq, Int.reduceLT, Int.reduceLE, Int.reducePow, Int.reduceToNat, Nat.reducePow, Nat.reduceLT, Nat.reduceLeDiff, Int.reduceAdd, Int.reduceSub, Int.reduceMul, Int.reduceNeg, Nat.reduceAdd, Nat.reduceSub, Int.reduceEq, Nat.reduceEqDiff, decide_true, decide_false, and_self, Bool.and_self, Bool.and_true, Bool.true_and, and_true, true_and, Nat.zero_le, Bool.not_true, Bool.not_false, Bool.false_eq_true, decide_eq_true_eq, goOn, turn, cmNe_int, sucl, tablesD]; rfl
    | x :: y :: z :: r, _ =>
      have hne : decide (((r.length + 1 + 1 + 1 : Nat) : Int) = 2) = false := decide_eq_false (by omega)
      simp (implicitDefEqProofs := false) only [isInt_non, isInt_bl, isInt_int, isInt_str, isInt_tup, isInt_lst, isBool_non, isBool_bl, isBool_int, isBool_str, isBool_tup, isBool_lst, isTuple_non, isTuple_bl, isTuple_int, isTuple_str, isTuple_tup, isTuple_lst, isStr_non, isStr_bl, isStr_int, isStr_str, isStr_tup, isStr_lst, biLen_tup, biTuple_tup, biList_tup, itD_tup, truD_tup, biLen_lst, biTuple_lst, biList_lst, itD_lst, truD_lst, biLen_scr, biLen_dI, biLen_dT, truD_non, truD_bl, truD_int, asB_bl, isNon_non, isNon_bl, isNon_int, isNon_str, isNon_tup, isNon_lst, runF, endF, sSeq, thenS, sSet, sSetN, sRet, sIf, sExpr, sNil, sPass, sCont, sFrz, sKill, eCall, aCons, aNil, aStar, rd, ro, cst, frz, op2, cmp2, cmp3, ofB, eAnd, eOr, eNot, eNeg, eIf, tAnd', tOr', tNot', tru, eTup, eLst, eIx, eSl, oNone, oSome, b1, b2, eIsi, noExc_ok, noExc_err, biAbs, biInt, opAdd, opSub, opMul, smI_lit, opPow, smP1015, Bool.or_true, Bool.true_or, opDiv, opMod, cmLt, cmLe, cmGt, cmGe, cmInt, cmIs, cmIsNot, itR, itRC, rgM, rgMC, its, gtN, gtT, gtCons, gtNil, sAsg, sApp, appM, isOwnL, sFor, freeze1, wipeN, eListR, eTupR, eMeth, isSq_tup, isSq_lst, eRev, ok_bind, err_bind, List.map_cons, List.map_nil, List.length_cons, List.length_nil, List.cons_append, List.nil_append, List.replicate_succ, List.replicate_zero, List.getElem?_cons_zero, List.getElem?_cons_succ, List.set_cons_zero, List.set_cons_succ, List.foldl_cons, List.foldl_nil, if_true, if_false, ite_true, ite_false, reduceIte, reduceCtorEq, Int.reduceLT, Int.reduceLE, Int.reducePow, Int.reduceToNat, Nat.reducePow, Nat.reduceLT, Nat.reduceLeDiff, Int.reduceAdd, Int.reduceSub, Int.reduceMul, Int.reduceNeg, Nat.reduceAdd, Nat.reduceSub, Int.reduceEq, Nat.reduceEqDiff, decide_true, decide_false, and_self, Bool.and_self, Bool.and_true, Bool.true_and, and_true, true_and, Nat.zero_le, Bool.not_true, Bool.not_false, Bool.false_eq_true, decide_eq_true_eq, goOn, turn, cmNe_int, hne, sucl, tablesD]
    | [x, y], hds =>
      have hx := okDs_mem hds x (by simp)
      have i0 : ∀ x, ixD (.tup [x, y]) (.int 0) = .ok x := fun _ => rfl
      have e2 : (((0 + 1 + 1 : Nat) : Int) = 2) = True := by simp
      cases x with
      | tup xs =>
        by_cases h1 : (xs.length : Int) < 1
        · simp (implicitDefEqProofs := false) only [isInt_non, isInt_bl, isInt_int, isInt_str, isInt_tup, isInt_lst, isBool_non, isBool_bl, isBool_int, isBool_str, isBool_tup, isBool_lst, isTuple_non, isTuple_bl, isTuple_int, isTuple_str, isTuple_tup, isTuple_lst, isStr_non, isStr_bl, isStr_int, isStr_str, isStr_tup, isStr_lst, biLen_tup, biTuple_tup, biList_tup, itD_tup, truD_tup, biLen_lst, biTuple_lst, biList_lst, itD_lst, truD_lst, biLen_scr, biLen_dI, biLen_dT, truD_non, truD_bl, truD_int, asB_bl, isNon_non, isNon_bl, isNon_int, isNon_str, isNon_tup, isNon_lst, runF, endF, sSeq, thenS, sSet, sSetN, sRet, sIf, sExpr, sNil, sPass, sCont, sFrz, sKill, eCall, aCons, aNil, aStar, rd, ro, cst, frz, op2, cmp2, cmp3, ofB, eAnd, eOr, eNot, eNeg, eIf, tAnd', tOr', tNot', tru, eTup, eLst, eIx, eSl, oNone, oSome, b1, b2, eIsi, noExc_ok, noExc_err, biAbs, biInt, opAdd, opSub, opMul, smI_lit, opPow, smP1015, Bool.or_true, Bool.true_or, opDiv, opMod, cmLt, cmLe, cmGt, cmGe, cmInt, cmIs, cmIsNot, itR, itRC, rgM, rgMC, its, gtN, gtT, gtCons, gtNil, sAsg, sApp, appM, isOwnL, sFor, freeze1, wipeN, eListR, eTupR, eMeth, isSq_tup, isSq_lst, eRev, ok_bind, err_bind, List.map_cons, List.map_nil, List.length_cons, List.length_nil, List.cons_append, List.nil_append, List.replicate_succ, List.replicate_zero, List.getElem?_cons_zero, List.getElem?_cons_succ, List.set_cons_zero, List.set_cons_succ, List.foldl_cons, List.foldl_nil, if_true, if_false, ite_true, ite_false, reduceIte, reduceCtorEq, Int.reduceLT, Int.reduceLE, Int.reducePow, Int.reduceToNat, Nat.reducePow, Nat.reduceLT, Nat.reduceLeDiff, Int.reduceAdd, Int.reduceSub, Int.reduceMul, Int.reduceNeg, Nat.reduceAdd, Nat.reduceSub, Int.reduceEq, Nat.reduceEqDiff, decide_true, decide_false, and_self, Bool.and_self, Bool.and_true, Bool.true_and, and_true, true_and, Nat.zero_le, Bool.not_true, Bool.not_false, Bool.false_eq_true, decide_eq_true_eq, goOn, turn, cmNe_int, i0, e2, h1, sucl, tablesD]
        · by_cases h2 : 24 < (xs.length : Int)
          · simp (implicitDefEqProofs := false) only [isInt_non, isInt_bl, isInt_int, isInt_str, isInt_tup, isInt_lst, isBool_non, isBool_bl, isBool_int, isBool_str, isBool_tup, isBool_lst, isTuple_non, isTuple_bl, isTuple_int, isTuple_str, isTuple_tup, isTuple_lst, isStr_non, isStr_bl, isStr_int, isStr_str, isStr_tup, isStr_lst, biLen_tup, biTuple_tup, biList_tup, itD_tup, truD_tup, biLen_lst, biTuple_lst, biList_lst, itD_lst, truD_lst, biLen_scr, biLen_dI, biLen_dT, truD_non, truD_bl, truD_int, asB_bl, isNon_non, isNon_bl, isNon_int, isNon_str, isNon_tup, isNon_lst, runF, endF, sSeq, thenS, sSet, sSetN, sRet, sIf, sExpr, sNil, sPass, sCont, sFrz, sKill, eCall, aCons, aNil, aStar, rd, ro, cst, frz, op2, cmp2, cmp3, ofB, eAnd, eOr, eNot, eNeg, eIf, tAnd', tOr', tNot', tru, eTup, eLst, eIx, eSl, oNone, oSome, b1, b2, eIsi, noExc_ok, noExc_err, biAbs, biInt, opAdd, opSub, opMul, smI_lit, opPow, smP1015, Bool.or_true, Bool.true_or, opDiv, opMod, cmLt, cmLe, cmGt, cmGe, cmInt, cmIs, cmIsNot, itR, itRC, rgM, rgMC, its, gtN, gtT, gtCons, gtNil, sAsg, sApp, appM, isOwnL, sFor, freeze1, wipeN, eListR, eTupR, eMeth, isSq_tup, isSq_lst, eRev, ok_bind, err_bind, List.map_cons, List.map_nil, List.length_cons, List.length_nil, List.cons_append, List.nil_append, List.replicate_succ, List.replicate_zero, List.getElem?_cons_zero, List.getElem?_cons_succ, List.set_cons_zero, List.set_cons_succ, List.foldl_cons, List.foldl_nil, if_true, if_false, ite_true, ite_false, reduceIte, reduceCtorEq, Int.reduceLT, Int.reduceLE, Int.reducePow, Int.reduceToNat, Nat.reducePow, Nat.reduceLT, Nat.reduceLeDiff, Int.reduceAdd, Int.reduceSub, Int.reduceMul, Int.reduceNeg, Nat.reduceAdd, Nat.reduceSub, Int.reduceEq, Nat.reduceEqDiff, decide_true, decide_false, and_self, Bool.and_self, Bool.and_true, Bool.true_and, and_true, true_and, Nat.zero_le, Bool.not_true, Bool.not_false, Bool.false_eq_true, decide_eq_true_eq, goOn, turn, cmNe_int, i0, e2, h1, h2, sucl, tablesD]
          · have c1 := forGo_if (gt := gtN 2) (kill := [2]) (m := sSeq (sIf (tOr' (tNot' (tru (eIsi isTuple (ro 2)))) (cmp2 cmNe (frz (b1 biLen (ro 2))) (ro 1))) (sRet (eTup (aCons (cst (.str "tables")) aNil))) sNil) (sIf (cmp2 cmNe (frz (eLC (its (ro 2)) [9] (gtN 9) (tNot' (tru (eCall f__law_is_row (aCons (rd 9) (aCons (rd 1) (aCons (rd 1) aNil)))))) (rd 9))) (frz (eLst aNil))) (sRet (eTup (aCons (cst (.str "tables")) aNil))) sNil))
              (ρ := [some (.val (.tup [.tup xs, y])), some (.val (.int (xs.length : Nat))), none, none, none, none, none, none, none, none]) (enc := fun d => d) (bad := fun d => !isGridD xs.length d) (r := fun _ => tablesD) [.tup xs, y]
              (fun d hd => ⟨_, _, rfl, law_check_ev hk2 _ d (okDs_mem hds d hd) _ rfl, fun _ => rfl⟩)
            rw [List.map_id'] at c1
            rcases c1 with ⟨k1, _⟩ | ⟨x, ρ2, _, _, k2⟩
            · exfalso
              have a1 := List.find?_eq_none.mp k1 (.tup xs) (by simp)
              have a2 := List.find?_eq_none.mp k1 y (by simp)
              simp only [Bool.not_eq_true, Bool.not_eq_false'] at a1 a2
              have b1 : 1 ≤ xs.length := by omega
              have b2 : xs.length ≤ 24 := by omega
              simp [areGridsD, a1, a2, b1, b2] at ha
            · simp (implicitDefEqProofs := false) only [isInt_non, isInt_bl, isInt_int, isInt_str, isInt_tup, isInt_lst, isBool_non, isBool_bl, isBool_int, isBool_str, isBool_tup, isBool_lst, isTuple_non, isTuple_bl, isTuple_int, isTuple_str, isTuple_tup, isTuple_lst, isStr_non, isStr_bl, isStr_int, isStr_str, isStr_tup, isStr_lst, biLen_tup, biTuple_tup, biList_tup, itD_tup, truD_tup, biLen_lst, biTuple_lst, biList_lst, itD_lst, truD_lst, biLen_scr, biLen_dI, biLen_dT, truD_non, truD_bl, truD_int, asB_bl, isNon_non, isNon_bl, isNon_int, isNon_str, isNon_tup, isNon_lst, runF, endF, sSeq, thenS, sSet, sSetN, sRet, sIf, sExpr, sNil, sPass, sCont, sFrz, sKill, eCall, aCons, aNil, aStar, rd, ro, cst, frz, op2, cmp2, cmp3, ofB, eAnd, eOr, eNot, eNeg, eIf, tAnd', tOr', tNot', tru, eTup, eLst, eIx, eSl, oNone, oSome, b1, b2, eIsi, noExc_ok, noExc_err, biAbs, biInt, opAdd, opSub, opMul, smI_lit, opPow, smP1015, Bool.or_true, Bool.true_or, opDiv, opMod, cmLt, cmLe, cmGt, cmGe, cmInt, cmIs, cmIsNot, itR, itRC, rgM, rgMC, its, gtN, gtT, gtCons, gtNil, sAsg, sApp, appM, isOwnL, sFor, freeze1, wipeN, eListR, eTupR, eMeth, isSq_tup, isSq_lst, eRev, ok_bind, err_bind, List.map_cons, List.map_nil, List.length_cons, List.length_nil, List.cons_append, List.nil_append, List.replicate_succ, List.replicate_zero, List.getElem?_cons_zero, List.getElem?_cons_succ, List.set_cons_zero, List.set_cons_succ, List.foldl_cons, List.foldl_nil, if_true, if_false, ite_true, ite_false, reduceIte, reduceCtorEq, Int.reduceLT, Int.reduceLE, Int.reducePow, Int.reduceToNat, Nat.reducePow, Nat.reduceLT, Nat.reduceLeDiff, Int.reduceAdd, Int.reduceSub, Int.reduceMul, Int.reduceNeg, Nat.reduceAdd, Nat.reduceSub, Int.reduceEq, Nat.reduceEqDiff, decide_true, decide_false, and_self, Bool.and_self, Bool.and_true, Bool.true_and, and_true, true_and, Nat.zero_le, Bool.not_true, Bool.not_false, Bool.false_eq_true, decide_eq_true_eq, goOn, turn, cmNe_int, i0, e2, h1, h2, k2]
      | _ => first | (simp (implicitDefEqProofs := false) only [isInt_non, isInt_bl, isInt_int, isInt_str, isInt_tup, isInt_lst, isBool_non, isBool_bl, isBool_int, isBool_str, isBool_tup, isBool_lst, isTuple_non, isTuple_bl, isTuple_int, isTuple_str, isTuple_tup, isTuple_lst, isStr_non, isStr_bl, isStr_int, isStr_str, isStr_tup, isStr_lst, biLen_tup, biTuple_tup, biList_tup, itD_tup, truD_tup, biLen_lst, biTuple_lst, biList_lst, itD_lst, truD_lst, biLen_scr, biLen_dI, biLen_dT, truD_non, truD_bl, truD_int, asB_bl, isNon_non, isNon_bl, isNon_int, isNon_str, isNon_tup, isNon_lst, runF, endF, sSeq, thenS, sSet, sSetN, sRet, sIf, sExpr, sNil, sPass, sCont, sFrz, sKill, eCall, aCons, aNil, aStar, rd, ro, cst, frz, op2, cmp2, cmp3, ofB, eAnd, eOr, eNot, eNeg, eIf, tAnd', tOr', tNot', tru, eTup, eLst, eIx, eSl, oNone, oSome, b1, b2, eIsi, noExc_ok, noExc_err, biAbs, biInt, opAdd, opSub, opMul, smI_lit, opPow, smP1015, Bool.or_true, Bool.true_or, opDiv, opMod, cmLt, cmLe, cmGt, cmGe, cmInt, cmIs, cmIsNot, itR, itRC, rgM, rgMC, its, gtN, gtT, gtCons, gtNil, sAsg, sApp, appM, isOwnL, sFor, freeze1, wipeN, eListR, eTupR, eMeth, isSq_tup, isSq_lst, eRev, ok_bind, err_bind, List.map_cons, List.map_nil, List.length_cons, List.length_nil, List.cons_append, List.nil_append, List.replicate_succ, List.replicate_zero, List.getElem?_cons_zero, List.getElem?_cons_succ, List.set_cons_zero, List.set_cons_succ, List.foldl_cons, List.foldl_nil, if_true, if_false, ite_true, ite_false, reduceIte, reduceCtorEq, Int.reduceLT, Int.reduceLE, Int.reducePow, Int.reduceToNat, Nat.reducePow, Nat.reduceLT, Nat.reduceLeDiff, Int.reduceAdd, Int.reduceSub, Int.reduceMul, Int.reduceNeg, Nat.reduceAdd, Nat.reduceSub, Int.reduceEq, Nat.reduceEqDiff, decide_true, decide_false, and_self, Bool.and_self, Bool.and_true, Bool.true_and, and_true, true_and, Nat.zero_le, Bool.not_true, Bool.not_false, Bool.false_eq_true, decide_eq_true_eq, goOn, turn, cmNe_int, i0, e2, sucl, tablesD]; done) | (simp [okD] at hx)
  | _ => first | (simp (implicitDefEqProofs := false) only [isInt_non, isInt_bl, isInt_int, isInt_str, isInt_tup, isInt_lst, isBool_non, isBool_bl, isBool_int, isBool_str, isBool_tup, isBool_lst, isTuple_non, isTuple_bl, isTuple_int, isTuple_str, isTuple_tup, isTuple_lst, isStr_non, isStr_bl, isStr_int, isStr_str, isStr_tup, isStr_lst, biLen_tup, biTuple_tup, biList_tup, itD_tup, truD_tup, biLen_lst, biTuple_lst, biList_lst, itD_lst, truD_lst, biLen_scr, biLen_dI, biLen_dT, truD_non, truD_bl, truD_int, asB_bl, isNon_non, isNon_bl, isNon_int, isNon_str, isNon_tup, isNon_lst, runF, endF, sSeq, thenS, sSet, sSetN, sRet, sIf, sExpr, sNil, sPass, sCont, sFrz, sKill, eCall, aCons, aNil, aStar, rd, ro, cst, frz, op2, cmp2, cmp3, ofB, eAnd, eOr, eNot, eNeg, eIf, tAnd', tOr', tNot', tru, eTup, eLst, eIx, eSl, oNone, oSome, b1, b2, eIsi, noExc_ok, noExc_err, biAbs, biInt, opAdd, opSub, opMul, smI_lit, opPow, smP1015, Bool.or_true, Bool.true_or, opDiv, opMod, cmLt, cmLe, cmGt, cmGe, cmInt, cmIs, cmIsNot, itR, itRC, rgM, rgMC, its, gtN, gtT, gtCons, gtNil, sAsg, sApp, appM, isOwnL, sFor, freeze1, wipeN, eListR, eTupR, eMeth, isSq_tup, isSq_lst, eRev, ok_bind, err_bind, List.map_cons, List.map_nil, List.length_cons, List.length_nil, List.cons_append, List.nil_append, List.replicate_succ, List.replicate_zero, List.getElem?_cons_zero, List.getElem?_cons_succ, List.set_cons_zero, List.set_cons_succ, List.foldl_cons, List.foldl_nil, if_true, if_false, ite_true, ite_false, reduceIte, reduceCtorEq, Int.reduceLT, Int.reduceLE, Int.reducePow, Int.reduceToNat, Nat.reducePow, Nat.reduceLT, Nat.reduceLeDiff, Int.reduceAdd, Int.reduceSub, Int.reduceMul, Int.reduceNeg, Nat.reduceAdd, Nat.reduceSub, Int.reduceEq, Nat.reduceEqDiff, decide_true, decide_false, and_self, Bool.and_self, Bool.and_true, Bool.true_and, and_true, true_and, Nat.zero_le, Bool.not_true, Bool.not_false, Bool.false_eq_true, decide_eq_true_eq, goOn, turn, sucl, tablesD]; done) | (simp [okD] at h)
/-- both name the same fault -/
theorem fault_eq {k : Nat} (hk2 : k ≤ 50) (d : D) (h : okD (k + 3) d = true) : ∃ r, f_first_fault [d] = .ok r ∧ f__law_fault [d] = .ok r ∧ (r = .non ∨ ∃ xs, r = .tup xs ∧ okD 60 r = true) := by
  cases ha : areGridsD d with
  | false => exact ⟨tablesD, first_fault_tables h ha, law_fault_tables hk2 d h ha, .inr ⟨_, rfl, by decide +kernel⟩⟩
  | true =>
    obtain ⟨n, s, u, h1, h2, b1, b2, rfl⟩ := areGrids_form ha
    have hg : isGridD n (gridD n n s) = true ∧ isGridD n (gridD n n u) = true := by
      have e : areGridsD (.tup [gridD n n s, gridD n n u]) = (decide (1 ≤ ((List.range n).map fun a => rowD n (s a)).length) && decide (((List.range n).map fun a => rowD n (s a)).length ≤ 24) && isGridD ((List.range n).map fun a => rowD n (s a)).length (gridD n n s) && isGridD ((List.range n).map fun a => rowD n (s a)).length (gridD n n u)) := rfl
      rw [e] at ha
      simp only [List.length_map, List.length_range, Bool.and_eq_true] at ha
      exact ⟨ha.1.2, ha.2⟩
    refine ⟨_, first_fault_grids h1 h2 b1 b2 k h ha, law_fault_grids h1 h2 b1 b2 hk2 h hg.1 hg.2, ?_⟩
    unfold faultD
    have key : ∀ (x : Str) (r : List Nat), okD 0 (.str x) = true → okD 60 (.tup (.str x :: nats r)) = true := fun x r hx => by
      have := ok_nats 59 r
      simp only [okD] at hx
      simp [okD, okDs, this, hx]
    split
    · exact .inr ⟨_, rfl, key _ _ (by decide +kernel)⟩
    · split
      · exact .inr ⟨_, rfl, key _ _ (by decide +kernel)⟩
      · split
        · exact .inr ⟨_, rfl, key _ _ (by decide +kernel)⟩
        · exact .inl rfl
end Sim

namespace Sim
open PySem L2
def okPair : D → Bool
  | .tup [.tup xs, y] => decide (1 ≤ xs.length) && decide (xs.length ≤ 9) && isGridD xs.length (.tup xs) && isGridD xs.length y
  | _ => false
def chkB : Bool := match f__law_braces [] with
  | .ok (.lst l) => (l.length == 11) && l.all okPair
  | _ => false
theorem chkB_ok : chkB = true := by decide +kernel
theorem braces_ev : ∃ l : List D, f__law_braces [] = .ok (.lst l) ∧ l.length = 11 ∧ ∀ d ∈ l, ∃ n s u, 1 ≤ n ∧ n ≤ 9 ∧ Bd n s ∧ Bd n u ∧ d = .tup [gridD n n s, gridD n n u] := by
  have h := chkB_ok
  unfold chkB at h
  split at h
  · rename_i l hl
    simp only [Bool.and_eq_true, beq_iff_eq, List.all_eq_true] at h
    refine ⟨l, hl, h.1, fun d hd => ?_⟩
    have := h.2 d hd
    unfold okPair at this
    split at this
    · rename_i xs y
      simp only [Bool.and_eq_true, decide_eq_true_eq] at this
      obtain ⟨⟨⟨h1, h2⟩, h3⟩, h4⟩ := this
      obtain ⟨a1, a2⟩ := grid_form h3
      obtain ⟨b1, b2⟩ := grid_form h4
      exact ⟨xs.length, _, _, h1, h2, a2, b2, by rw [← a1, ← b1]⟩
    · cases this
  · cases h
/-- the place of a number in a row of names -/
theorem ix0_mem : ∀ {q : List Nat} {i : Nat}, i ∈ q → ∃ j, ix0 (.int (i : Nat)) (nats q) = some j ∧ j < q.length
  | x :: q, i, h => by
    unfold nats
    rw [List.map_cons, ix0]
    by_cases e : x = i
    · subst e
      exact ⟨0, by rw [if_pos (by rw [eqD_int]; simp)], by simp⟩
    · rw [if_neg (by rw [eqD_int]; simp; omega)]
      obtain ⟨j, h1, h2⟩ := ix0_mem ((List.mem_cons.mp h).resolve_left fun z => e z.symm)
      unfold nats at h1
      exact ⟨j + 1, by rw [h1]; rfl, by simpa using h2⟩
def placeN (q : List Nat) (i : Nat) : Nat := (ix0 (.int (i : Nat)) (nats q)).getD 0
theorem place_lt {q : List Nat} {i : Nat} (h : i ∈ q) : placeN q i < q.length := by
  obtain ⟨j, h1, h2⟩ := ix0_mem h
  unfold placeN
  rw [h1]
  exact h2
theorem mix_nats {q : List Nat} {i : Nat} (h : i ∈ q) : mIndex (.tup (nats q)) [.int (i : Nat)] = .ok (.val (.int (placeN q i : Nat))) := by
  obtain ⟨j, h1, h2⟩ := ix0_mem h
  unfold mIndex ixSq placeN
  simp only
  rw [if_pos ⟨rfl, ok_nats _ _⟩, h1]
  rfl
/-- a grid renamed -/
def renN (q : List Nat) (t : Nat → Nat → Nat) (a b : Nat) : Nat := q.getD (t (placeN q a) (placeN q b)) 0
theorem ren_bd {n : Nat} {q : List Nat} {t : Nat → Nat → Nat} (hq : q.Perm (List.range n)) (h : Bd n t) : Bd n (renN q t) := fun a b ha hb => by
  have hl : q.length = n := by rw [hq.length_eq, List.length_range]
  have m1 : a ∈ q := hq.mem_iff.mpr (List.mem_range.mpr ha)
  have m2 : b ∈ q := hq.mem_iff.mpr (List.mem_range.mpr hb)
  have p1 := place_lt m1
  have p2 := place_lt m2
  rw [hl] at p1 p2
  have := h _ _ p1 p2
  unfold renN
  rw [List.getD_eq_getElem?_getD, List.getElem?_eq_getElem (by omega)]
  exact List.mem_range.mp (hq.mem_iff.mp (List.getElem_mem _))
theorem rg_nats_map {n : Nat} (f : Nat → Nat) : (rgD 0 (n : Int)).map (fun d => .int ((f (cellV d) : Nat) : Int)) = nats ((List.range n).map f) := by
  rw [rgD_nats]
  unfold nats
  rw [List.map_map, List.map_map]
  congr 1
theorem renamed_ev {n : Nat} {q : List Nat} {s u : Nat → Nat → Nat} (hn : n ≤ 100) (hq : q.Perm (List.range n)) (h : Bd n s) (h' : Bd n u) :
    f__law_grids_renamed [.tup [gridD n n s, gridD n n u], .tup (nats q)] = .ok (.tup [gridD n n (renN q s), gridD n n (renN q u)]) := by
  have hl : q.length = n := by rw [hq.length_eq, List.length_range]
  have hO := rgOk_nat (n := n) (by omega)
  have hF := rngF_nat (n := n) (by omega)
  have mem : ∀ {i : Nat}, i < n → i ∈ q := fun hi => hq.mem_iff.mpr (List.mem_range.mpr hi)
  have hel := lc_map (i := 7) (p := frz (eMeth isSq mIndex (ro 1) (aCons (rd 7) aNil))) (ρ := [some (.val (.tup [gridD n n s, gridD n n u])), some (.val (.tup (nats q))), none, none, none, none, none, none, none]) (g := fun d => .int ((placeN q (cellV d) : Nat) : Int)) (rgD 0 (n : Int)) (fun d hd => by
    rw [rgD_nats] at hd
    obtain ⟨i, hi, rfl⟩ := List.mem_map.mp hd
    have hi' := mem (List.mem_range.mp hi)
    simp (implicitDefEqProofs := false) only [isInt_non, isInt_bl, isInt_int, isInt_str, isInt_tup, isInt_lst, isBool_non, isBool_bl, isBool_int, isBool_str, isBool_tup, isBool_lst, isTuple_non, isTuple_bl, isTuple_int, isTuple_str, isTuple_tup, isTuple_lst, isStr_non, isStr_bl, isStr_int, isStr_str, isStr_tup, isStr_lst, biLen_tup, biTuple_tup, biList_tup, itD_tup, truD_tup, biLen_lst, biTuple_lst, biList_lst, itD_lst, truD_lst, biLen_scr, biLen_dI, biLen_dT, truD_non, truD_bl, truD_int, asB_bl, isNon_non, isNon_bl, isNon_int, isNon_str, isNon_tup, isNon_lst, runF, endF, sSeq, thenS, sSet, sSetN, sRet, sIf, sExpr, sNil, sPass, sCont, sFrz, sKill, eCall, aCons, aNil, aStar, rd, ro, cst, frz, op2, cmp2, cmp3, ofB, eAnd, eOr, eNot, eNeg, eIf, tAnd', tOr', tNot', tru, eTup, eLst, eIx, eSl, oNone, oSome, b1, b2, eIsi, noExc_ok, noExc_err, biAbs, biInt, opAdd, opSub, opMul, smI_lit, opPow, smP1015, Bool.or_true, Bool.true_or, opDiv, opMod, cmLt, cmLe, cmGt, cmGe, cmInt, cmIs, cmIsNot, itR, itRC, rgM, rgMC, its, gtN, gtT, gtCons, gtNil, sAsg, sApp, appM, isOwnL, sFor, freeze1, wipeN, eListR, eTupR, eMeth, isSq_tup, isSq_lst, eRev, ok_bind, err_bind, List.map_cons, List.map_nil, List.length_cons, List.length_nil, List.cons_append, List.nil_append, List.replicate_succ, List.replicate_zero, List.getElem?_cons_zero, List.getElem?_cons_succ, List.set_cons_zero, List.set_cons_succ, List.foldl_cons, List.foldl_nil, if_true, if_false, ite_true, ite_false, reduceIte, reduceCtorEq, Int.reduceLT, Int.reduceLE, Int.reducePow, Int.reduceToNat, Nat.reducePow, Nat.reduceLT, Nat.reduceLeDiff, Int.reduceAdd, Int.reduceSub, Int.reduceMul, Int.reduceNeg, Nat.reduceAdd, Nat.reduceSub, Int.reduceEq, Nat.reduceEqDiff, decide_true, decide_false, and_self, Bool.and_self, Bool.and_true, Bool.true_and, and_true, true_and, Nat.zero_le, Bool.not_true, Bool.not_false, Bool.false_eq_true, decide_eq_true_eq, goOn, turn, mix_nats hi']
    rfl)
  rw [rg_nats_map] at hel
  have el_get : ∀ {a : Nat}, a < n → ixD (.lst (nats ((List.range n).map (placeN q)))) (.int (a : Nat)) = .ok (.int (placeN q a : Nat)) := fun {a} ha => by
    rw [ix_nats (by simpa using ha)]
    simp
  have one : ∀ (t : Nat → Nat → Nat) (told : List D), Bd n t → told.length < lim → turn (gtN 4) [4, 5, 6] (sSeq (sSetN 5 (eLst aNil)) (sSeq (sFor (itR (cst (.int 0)) (frz (b1 biLen (ro 1)))) (gtN 6) [6] (sApp 5 (frz (b1 biTuple (frz (eLC (itRC (cst (.int 0)) (frz (b1 biLen (ro 1)))) [8] (gtN 8) tsYes (eIx (ro 1) (eIx (eIx (ro 4) (eIx (ro 2) (rd 6))) (eIx (ro 2) (rd 8)))))))))) (sApp 3 (frz (b1 biTuple (ro 5)))))) (gridD n n t)
      [some (.val (.tup [gridD n n s, gridD n n u])), some (.val (.tup (nats q))), some (.own (.lst (nats ((List.range n).map (placeN q))))), some (.own (.lst told)), none, none, none, none, none] =
      .ok [some (.val (.tup [gridD n n s, gridD n n u])), some (.val (.tup (nats q))), some (.own (.lst (nats ((List.range n).map (placeN q))))), some (.own (.lst (told ++ [gridD n n (renN q t)]))), none, none, none, none, none] := by
    intro t told ht hlt
    obtain ⟨ρ2, k1, k2⟩ := forGo_inv0 (gt := gtN 6) (kill := [6]) (m := sApp 5 (frz (b1 biTuple (frz (eLC (itRC (cst (.int 0)) (frz (b1 biLen (ro 1)))) [8] (gtN 8) tsYes (eIx (ro 1) (eIx (eIx (ro 4) (eIx (ro 2) (rd 6))) (eIx (ro 2) (rd 8)))))))))
      (fun j ρ => ρ = [some (.val (.tup [gridD n n s, gridD n n u])), some (.val (.tup (nats q))), some (.own (.lst (nats ((List.range n).map (placeN q))))), some (.own (.lst told)), some (.val (gridD n n t)), some (.own (.lst ((List.range j).map fun a => rowD n (renN q t a)))), none, none, none])
      (rgD 0 (n : Int)) [some (.val (.tup [gridD n n s, gridD n n u])), some (.val (.tup (nats q))), some (.own (.lst (nats ((List.range n).map (placeN q))))), some (.own (.lst told)), some (.val (gridD n n t)), some (.own (.lst [])), none, none, none] rfl
      (fun a d ρ e k2 => by
        obtain ⟨rfl, ha⟩ := rgD_get e
        subst k2
        refine ⟨_, ?_, rfl⟩
        have pa := place_lt (mem ha)
        rw [hl] at pa
        have hlc := lc_map (i := 8) (p := eIx (ro 1) (eIx (eIx (ro 4) (eIx (ro 2) (rd 6))) (eIx (ro 2) (rd 8)))) (ρ := [some (.val (.tup [gridD n n s, gridD n n u])), some (.val (.tup (nats q))), some (.own (.lst (nats ((List.range n).map (placeN q))))), some (.own (.lst told)), some (.val (gridD n n t)), some (.own (.lst ((List.range a).map fun a => rowD n (renN q t a)))), some (.val (.int (a : Nat))), none, none]) (g := fun d => .int ((renN q t a (cellV d) : Nat) : Int)) (rgD 0 (n : Int)) (fun d hd => by
          rw [rgD_nats] at hd
          obtain ⟨b, hb, rfl⟩ := List.mem_map.mp hd
          have hb := List.mem_range.mp hb
          have pb := place_lt (mem hb)
          rw [hl] at pb
          have hv := ht _ _ pa pb
          have hg : ixD (.tup (nats q)) (.int ((t (placeN q a) (placeN q b) : Nat) : Int)) = .ok (.int ((renN q t a b : Nat) : Int)) := by
            rw [ix_natsT (by omega)]
            unfold renN
            rw [List.getD_eq_getElem?_getD, List.getElem?_eq_getElem (by omega)]
            rfl
          simp (implicitDefEqProofs := false) only [isInt_non, isInt_bl, isInt_int, isInt_str, isInt_tup, isInt_lst, isBool_non, isBool_bl, isBool_int, isBool_str, isBool_tup, isBool_lst, isTuple_non, isTuple_bl, isTuple_int, isTuple_str, isTuple_tup, isTuple_lst, isStr_non, isStr_bl, isStr_int, isStr_str, isStr_tup, isStr_lst, biLen_tup, biTuple_tup, biList_tup, itD_tup, truD_tup, biLen_lst, biTuple_lst, biList_lst, itD_lst, truD_lst, biLen_scr, biLen_dI, biLen_dT, truD_non, truD_bl, truD_int, asB_bl, isNon_non, isNon_bl, isNon_int, isNon_str, isNon_tup, isNon_lst, runF, endF, sSeq, thenS, sSet, sSetN, sRet, sIf, sExpr, sNil, sPass, sCont, sFrz, sKill, eCall, aCons, aNil, aStar, rd, ro, cst, frz, op2, cmp2, cmp3, ofB, eAnd, eOr, eNot, eNeg, eIf, tAnd', tOr', tNot', tru, eTup, eLst, eIx, eSl, oNone, oSome, b1, b2, eIsi, noExc_ok, noExc_err, biAbs, biInt, opAdd, opSub, opMul, smI_lit, opPow, smP1015, Bool.or_true, Bool.true_or, opDiv, opMod, cmLt, cmLe, cmGt, cmGe, cmInt, cmIs, cmIsNot, itR, itRC, rgM, rgMC, its, gtN, gtT, gtCons, gtNil, sAsg, sApp, appM, isOwnL, sFor, freeze1, wipeN, eListR, eTupR, eMeth, isSq_tup, isSq_lst, eRev, ok_bind, err_bind, List.map_cons, List.map_nil, List.length_cons, List.length_nil, List.cons_append, List.nil_append, List.replicate_succ, List.replicate_zero, List.getElem?_cons_zero, List.getElem?_cons_succ, List.set_cons_zero, List.set_cons_succ, List.foldl_cons, List.foldl_nil, if_true, if_false, ite_true, ite_false, reduceIte, reduceCtorEq, Int.reduceLT, Int.reduceLE, Int.reducePow, Int.reduceToNat, Nat.reducePow, Nat.reduceLT, Nat.reduceLeDiff, Int.reduceAdd, Int.reduceSub, Int.reduceMul, Int.reduceNeg, Nat.reduceAdd, Nat.reduceSub, Int.reduceEq, Nat.reduceEqDiff, decide_true, decide_false, and_self, Bool.and_self, Bool.and_true, Bool.true_and, and_true, true_and, Nat.zero_le, Bool.not_true, Bool.not_false, Bool.false_eq_true, decide_eq_true_eq, goOn, turn, el_get ha, el_get hb, ix_grid pa, ix_row pb, hg]
          rfl)
        rw [rg_nats_map] at hlc
        have hlen : ((List.range a).map fun a => rowD n (renN q t a)).length < lim := by rw [List.length_map, List.length_range]; unfold lim; omega
        simp (implicitDefEqProofs := false) only [isInt_non, isInt_bl, isInt_int, isInt_str, isInt_tup, isInt_lst, isBool_non, isBool_bl, isBool_int, isBool_str, isBool_tup, isBool_lst, isTuple_non, isTuple_bl, isTuple_int, isTuple_str, isTuple_tup, isTuple_lst, isStr_non, isStr_bl, isStr_int, isStr_str, isStr_tup, isStr_lst, biLen_tup, biTuple_tup, biList_tup, itD_tup, truD_tup, biLen_lst, biTuple_lst, biList_lst, itD_lst, truD_lst, biLen_scr, biLen_dI, biLen_dT, truD_non, truD_bl, truD_int, asB_bl, isNon_non, isNon_bl, isNon_int, isNon_str, isNon_tup, isNon_lst, runF, endF, sSeq, thenS, sSet, sSetN, sRet, sIf, sExpr, sNil, sPass, sCont, sFrz, sKill, eCall, aCons, aNil, aStar, rd, ro, cst, frz, op2, cmp2, cmp3, ofB, eAnd, eOr, eNot, eNeg, eIf, tAnd', tOr', tNot', tru, eTup, eLst, eIx, eSl, oNone, oSome, b1, b2, eIsi, noExc_ok, noExc_err, biAbs, biInt, opAdd, opSub, opMul, smI_lit, opPow, smP1015, Bool.or_true, Bool.true_or, opDiv, opMod, cmLt, cmLe, cmGt, cmGe, cmInt, cmIs, cmIsNot, itR, itRC, rgM, rgMC, its, gtN, gtT, gtCons, gtNil, sAsg, sApp, appM, isOwnL, sFor, freeze1, wipeN, eListR, eTupR, eMeth, isSq_tup, isSq_lst, eRev, ok_bind, err_bind, List.map_cons, List.map_nil, List.length_cons, List.length_nil, List.cons_append, List.nil_append, List.replicate_succ, List.replicate_zero, List.getElem?_cons_zero, List.getElem?_cons_succ, List.set_cons_zero, List.set_cons_succ, List.foldl_cons, List.foldl_nil, if_true, if_false, ite_true, ite_false, reduceIte, reduceCtorEq, Int.reduceLT, Int.reduceLE, Int.reducePow, Int.reduceToNat, Nat.reducePow, Nat.reduceLT, Nat.reduceLeDiff, Int.reduceAdd, Int.reduceSub, Int.reduceMul, Int.reduceNeg, Nat.reduceAdd, Nat.reduceSub, Int.reduceEq, Nat.reduceEqDiff, decide_true, decide_false, and_self, Bool.and_self, Bool.and_true, Bool.true_and, and_true, true_and, Nat.zero_le, Bool.not_true, Bool.not_false, Bool.false_eq_true, decide_eq_true_eq, goOn, turn, eLC, nats_len, hl, hO, hlc, hlen]
        rw [List.range_succ, List.map_append]
        rfl)
    subst k2
    rw [rgD_len] at k1
    have h0 : (0 ≤ lim) = True := eq_true (Nat.zero_le _)
    simp (implicitDefEqProofs := false) only [isInt_non, isInt_bl, isInt_int, isInt_str, isInt_tup, isInt_lst, isBool_non, isBool_bl, isBool_int, isBool_str, isBool_tup, isBool_lst, isTuple_non, isTuple_bl, isTuple_int, isTuple_str, isTuple_tup, isTuple_lst, isStr_non, isStr_bl, isStr_int, isStr_str, isStr_tup, isStr_lst, biLen_tup, biTuple_tup, biList_tup, itD_tup, truD_tup, biLen_lst, biTuple_lst, biList_lst, itD_lst, truD_lst, biLen_scr, biLen_dI, biLen_dT, truD_non, truD_bl, truD_int, asB_bl, isNon_non, isNon_bl, isNon_int, isNon_str, isNon_tup, isNon_lst, runF, endF, sSeq, thenS, sSet, sSetN, sRet, sIf, sExpr, sNil, sPass, sCont, sFrz, sKill, eCall, aCons, aNil, aStar, rd, ro, cst, frz, op2, cmp2, cmp3, ofB, eAnd, eOr, eNot, eNeg, eIf, tAnd', tOr', tNot', tru, eTup, eLst, eIx, eSl, oNone, oSome, b1, b2, eIsi, noExc_ok, noExc_err, biAbs, biInt, opAdd, opSub, opMul, smI_lit, opPow, smP1015, Bool.or_true, Bool.true_or, opDiv, opMod, cmLt, cmLe, cmGt, cmGe, cmInt, cmIs, cmIsNot, itR, itRC, rgM, rgMC, its, gtN, gtT, gtCons, gtNil, sAsg, sApp, appM, isOwnL, sFor, freeze1, wipeN, eListR, eTupR, eMeth, isSq_tup, isSq_lst, eRev, ok_bind, err_bind, List.map_cons, List.map_nil, List.length_cons, List.length_nil, List.cons_append, List.nil_append, List.replicate_succ, List.replicate_zero, List.getElem?_cons_zero, List.getElem?_cons_succ, List.set_cons_zero, List.set_cons_succ, List.foldl_cons, List.foldl_nil, if_true, if_false, ite_true, ite_false, reduceIte, reduceCtorEq, Int.reduceLT, Int.reduceLE, Int.reducePow, Int.reduceToNat, Nat.reducePow, Nat.reduceLT, Nat.reduceLeDiff, Int.reduceAdd, Int.reduceSub, Int.reduceMul, Int.reduceNeg, Nat.reduceAdd, Nat.reduceSub, Int.reduceEq, Nat.reduceEqDiff, decide_true, decide_false, and_self, Bool.and_self, Bool.and_true, Bool.true_and, and_true, true_and, Nat.zero_le, Bool.not_true, Bool.not_false, Bool.false_eq_true, decide_eq_true_eq, goOn, turn, h0, nats_len, hl, hF, k1, hlt]
    rfl
  have h0 : (0 ≤ lim) = True := eq_true (Nat.zero_le _)
  have t1 := one s [] h (by decide)
  have t2 := one u ([] ++ [gridD n n (renN q s)]) h' (by rw [List.nil_append, List.length_cons, List.length_nil]; exact (by decide : 0 + 1 < lim))
  have lp := turn_ok t1 [gridD n n u]
  rw [turn_ok t2 []] at lp
  unfold f__law_grids_renamed m__law_grids_renamed
  simp (implicitDefEqProofs := false) only [isInt_non, isInt_bl, isInt_int, isInt_str, isInt_tup, isInt_lst, isBool_non, isBool_bl, isBool_int, isBool_str, isBool_tup, isBool_lst, isTuple_non, isTuple_bl, isTuple_int, isTuple_str, isTuple_tup, isTuple_lst, isStr_non, isStr_bl, isStr_int, isStr_str, isStr_tup, isStr_lst, biLen_tup, biTuple_tup, biList_tup, itD_tup, truD_tup, biLen_lst, biTuple_lst, biList_lst, itD_lst, truD_lst, biLen_scr, biLen_dI, biLen_dT, truD_non, truD_bl, truD_int, asB_bl, isNon_non, isNon_bl, isNon_int, isNon_str, isNon_tup, isNon_lst, runF, endF, sSeq, thenS, sSet, sSetN, sRet, sIf, sExpr, sNil, sPass, sCont, sFrz, sKill, eCall, aCons, aNil, aStar, rd, ro, cst, frz, op2, cmp2, cmp3, ofB, eAnd, eOr, eNot, eNeg, eIf, tAnd', tOr', tNot', tru, eTup, eLst, eIx, eSl, oNone, oSome, b1, b2, eIsi, noExc_ok, noExc_err, biAbs, biInt, opAdd, opSub, opMul, smI_lit, opPow, smP1015, Bool.or_true, Bool.true_or, opDiv, opMod, cmLt, cmLe, cmGt, cmGe, cmInt, cmIs, cmIsNot, itR, itRC, rgM, rgMC, its, gtN, gtT, gtCons, gtNil, sAsg, sApp, appM, isOwnL, sFor, freeze1, wipeN, eListR, eTupR, eMeth, isSq_tup, isSq_lst, eRev, ok_bind, err_bind, List.map_cons, List.map_nil, List.length_cons, List.length_nil, List.cons_append, List.nil_append, List.replicate_succ, List.replicate_zero, List.getElem?_cons_zero, List.getElem?_cons_succ, List.set_cons_zero, List.set_cons_succ, List.foldl_cons, List.foldl_nil, if_true, if_false, ite_true, ite_false, reduceIte, reduceCtorEq, Int.reduceLT, Int.reduceLE, Int.reducePow, Int.reduceToNat, Nat.reducePow, Nat.reduceLT, Nat.reduceLeDiff, Int.reduceAdd, Int.reduceSub, Int.reduceMul, Int.reduceNeg, Nat.reduceAdd, Nat.reduceSub, Int.reduceEq, Nat.reduceEqDiff, decide_true, decide_false, and_self, Bool.and_self, Bool.and_true, Bool.true_and, and_true, true_and, Nat.zero_le, Bool.not_true, Bool.not_false, Bool.false_eq_true, decide_eq_true_eq, goOn, turn, eLC, nats_len, hl, hO, hel, h0]
  simp only [List.nil_append] at lp
  rw [lp]
  rfl
end Sim

namespace Sim
open PySem L2
theorem names_perm {m : Nat} {p : List Nat} (h : p.Perm (List.range m)) : (0 :: p.map fun x => 1 + x).Perm (List.range (m + 1)) := by
  rw [List.range_succ_eq_map]
  refine .cons 0 ?_
  have := h.map fun x => 1 + x
  have e : (List.range m).map (fun x => 1 + x) = (List.range m).map Nat.succ := by
    congr 1
    funext x
    omega
  rw [e] at this
  exact this
theorem ix0_nats0 {l : List Nat} (h : 0 < l.length) : ixD (.lst (nats l)) (.int 0) = .ok (.int ((l[0] : Nat) : Int)) := ix_nats (k := 0) h
theorem sub1C {n : Nat} (h : 1 ≤ n) : ((n : Int) - 1) = ((n - 1 : Nat) : Int) := by omega
theorem brace_ev (l : List Nat) (hl : l.length = 30) : ∃ n s u, 1 ≤ n ∧ n ≤ 9 ∧ Bd n s ∧ Bd n u ∧ f__law_brace [.lst (nats l)] = .ok (.tup [gridD n n s, gridD n n u]) := by
  obtain ⟨L, hL, hL2, hL3⟩ := braces_ev
  have hm : l[0] % 11 < L.length := by rw [hL2]; exact Nat.mod_lt _ (by decide)
  obtain ⟨n, s, u, h1, h2, g1, g2, e⟩ := hL3 L[l[0] % 11] (List.getElem_mem hm)
  obtain ⟨p, hp, ho⟩ := order_ev l 1 (n - 1) (by omega) (by omega) (by omega)
  have e1 : ((1 : Nat) : Int) = 1 := rfl
  rw [e1] at ho
  have hq := names_perm hp
  rw [show n - 1 + 1 = n by omega] at hq
  refine ⟨n, _, _, h1, h2, ren_bd hq g1, ren_bd hq g2, ?_⟩
  have hr := renamed_ev (by omega) hq g1 g2
  have hix : ixD (.lst L) (.int ((l[0] % 11 : Nat) : Int)) = .ok (.tup [gridD n n s, gridD n n u]) := by
    simp only [ixD, atI_nat, List.getElem?_eq_getElem hm, e]
  have i0 : ixD (.tup [gridD n n s, gridD n n u]) (.int 0) = .ok (gridD n n s) := rfl
  have e11 : ((11 : Nat) : Int) = 11 := rfl
  have hmod : ∀ x : Nat, Int.emod (x : Int) 11 = ((x % 11 : Nat) : Int) := fun x => by show (x : Int) % 11 = _; omega
  have hmod : ∀ x : Nat, (HMod.hMod (x : Int) (11 : Int)) = ((x % 11 : Nat) : Int) := hmod
  have hlc := lc_map (i := 4) (p := frz (op2 opAdd (cst (.int 1)) (ro 4))) (ρ := [some (.val (.lst (nats l))), some (.val (.lst L)), some (.val (.tup [gridD n n s, gridD n n u])), none, none]) (g := fun d => .int ((1 + cellV d : Nat) : Int)) (nats p) (fun d hd => by
    obtain ⟨x, hx, rfl⟩ := List.mem_map.mp hd
    simp (implicitDefEqProofs := false) only [isInt_non, isInt_bl, isInt_int, isInt_str, isInt_tup, isInt_lst, isBool_non, isBool_bl, isBool_int, isBool_str, isBool_tup, isBool_lst, isTuple_non, isTuple_bl, isTuple_int, isTuple_str, isTuple_tup, isTuple_lst, isStr_non, isStr_bl, isStr_int, isStr_str, isStr_tup, isStr_lst, biLen_tup, biTuple_tup, biList_tup, itD_tup, truD_tup, biLen_lst, biTuple_lst, biList_lst, itD_lst, truD_lst, biLen_scr, biLen_dI, biLen_dT, truD_non, truD_bl, truD_int, asB_bl, isNon_non, isNon_bl, isNon_int, isNon_str, isNon_tup, isNon_lst, runF, endF, sSeq, thenS, sSet, sSetN, sRet, sIf, sExpr, sNil, sPass, sCont, sFrz, sKill, eCall, aCons, aNil, aStar, rd, ro, cst, frz, op2, cmp2, cmp3, ofB, eAnd, eOr, eNot, eNeg, eIf, tAnd', tOr', tNot', tru, eTup, eLst, eIx, eSl, oNone, oSome, b1, b2, eIsi, noExc_ok, noExc_err, biAbs, biInt, opAdd, opSub, opMul, smI_lit, opPow, smP1015, Bool.or_true, Bool.true_or, opDiv, opMod, cmLt, cmLe, cmGt, cmGe, cmInt, cmIs, cmIsNot, itR, itRC, rgM, rgMC, its, gtN, gtT, gtCons, gtNil, sAsg, sApp, appM, isOwnL, sFor, freeze1, wipeN, eListR, eTupR, eMeth, isSq_tup, isSq_lst, eRev, ok_bind, err_bind, List.map_cons, List.map_nil, List.length_cons, List.length_nil, List.cons_append, List.nil_append, List.replicate_succ, List.replicate_zero, List.getElem?_cons_zero, List.getElem?_cons_succ, List.set_cons_zero, List.set_cons_succ, List.foldl_cons, List.foldl_nil, if_true, if_false, ite_true, ite_false, reduceIte, reduceCtorEq, Int.reduceLT, Int.reduceLE, Int.reducePow, Int.reduceToNat, Nat.reducePow, Nat.reduceLT, Nat.reduceLeDiff, Int.reduceAdd, Int.reduceSub, Int.reduceMul, Int.reduceNeg, Nat.reduceAdd, Nat.reduceSub, Int.reduceEq, Nat.reduceEqDiff, decide_true, decide_false, and_self, Bool.and_self, Bool.and_true, Bool.true_and, and_true, true_and, Nat.zero_le, Bool.not_true, Bool.not_false, Bool.false_eq_true, decide_eq_true_eq, goOn, turn, add1C']
    rfl)
  have hmap : (nats p).map (fun d => D.int ((1 + cellV d : Nat) : Int)) = nats (p.map fun x => 1 + x) := by
    unfold nats
    rw [List.map_map, List.map_map]
    congr 1
  rw [hmap] at hlc
  have hcons : D.int 0 :: nats (p.map fun x => 1 + x) = nats (0 :: p.map fun x => 1 + x) := rfl
  have hlen : 0 + 1 + (nats (p.map fun x => 1 + x)).length ≤ lim := by
    rw [nats_len, List.length_map, hp.length_eq, List.length_range]; unfold lim; omega
  have h1l : (0 + 1 ≤ lim) = True := eq_true (by decide)
  have h0 : 0 < l.length := by omega
  unfold f__law_brace m__law_brace
  simp (implicitDefEqProofs := false) only [isInt_non, isInt_bl, isInt_int, isInt_str, isInt_tup, isInt_lst, isBool_non, isBool_bl, isBool_int, isBool_str, isBool_tup, isBool_lst, isTuple_non, isTuple_bl, isTuple_int, isTuple_str, isTuple_tup, isTuple_lst, isStr_non, isStr_bl, isStr_int, isStr_str, isStr_tup, isStr_lst, biLen_tup, biTuple_tup, biList_tup, itD_tup, truD_tup, biLen_lst, biTuple_lst, biList_lst, itD_lst, truD_lst, biLen_scr, biLen_dI, biLen_dT, truD_non, truD_bl, truD_int, asB_bl, isNon_non, isNon_bl, isNon_int, isNon_str, isNon_tup, isNon_lst, runF, endF, sSeq, thenS, sSet, sSetN, sRet, sIf, sExpr, sNil, sPass, sCont, sFrz, sKill, eCall, aCons, aNil, aStar, rd, ro, cst, frz, op2, cmp2, cmp3, ofB, eAnd, eOr, eNot, eNeg, eIf, tAnd', tOr', tNot', tru, eTup, eLst, eIx, eSl, oNone, oSome, b1, b2, eIsi, noExc_ok, noExc_err, biAbs, biInt, opAdd, opSub, opMul, smI_lit, opPow, smP1015, Bool.or_true, Bool.true_or, opDiv, opMod, cmLt, cmLe, cmGt, cmGe, cmInt, cmIs, cmIsNot, itR, itRC, rgM, rgMC, its, gtN, gtT, gtCons, gtNil, sAsg, sApp, appM, isOwnL, sFor, freeze1, wipeN, eListR, eTupR, eMeth, isSq_tup, isSq_lst, eRev, ok_bind, err_bind, List.map_cons, List.map_nil, List.length_cons, List.length_nil, List.cons_append, List.nil_append, List.replicate_succ, List.replicate_zero, List.getElem?_cons_zero, List.getElem?_cons_succ, List.set_cons_zero, List.set_cons_succ, List.foldl_cons, List.foldl_nil, if_true, if_false, ite_true, ite_false, reduceIte, reduceCtorEq, Int.reduceLT, Int.reduceLE, Int.reducePow, Int.reduceToNat, Nat.reducePow, Nat.reduceLT, Nat.reduceLeDiff, Int.reduceAdd, Int.reduceSub, Int.reduceMul, Int.reduceNeg, Nat.reduceAdd, Nat.reduceSub, Int.reduceEq, Nat.reduceEqDiff, decide_true, decide_false, and_self, Bool.and_self, Bool.and_true, Bool.true_and, and_true, true_and, Nat.zero_le, Bool.not_true, Bool.not_false, Bool.false_eq_true, decide_eq_true_eq, goOn, turn, hL, ix0_nats0 h0, hL2, e11, hmod, hix, h1l, i0, len_grid, sub1C h1, ho, eLC, hlc, hlen, hcons, hr]
end Sim

namespace Sim
open PySem L2
theorem slD_tup (xs : List D) (lo hi : Option Int) : slD (.tup xs) lo hi = .ok (.val (.tup (cutD xs lo hi))) := rfl
theorem slD_lst (xs : List D) (lo hi : Option Int) : slD (.lst xs) lo hi = .ok (.own (.lst (cutD xs lo hi))) := rfl
theorem okDs_cut {k : Nat} {xs : List D} (lo hi : Option Int) (h : okDs k xs = true) : okDs k (cutD xs lo hi) = true := okDs_of fun d hd => okDs_mem h d (by
  unfold cutD at hd
  exact List.mem_of_mem_drop (List.mem_of_mem_take hd))
theorem cut_len (xs : List D) (lo hi : Option Int) : (cutD xs lo hi).length ≤ xs.length := by
  unfold cutD
  rw [List.length_take, List.length_drop]
  omega
theorem okDs_app {k : Nat} {xs ys : List D} (h : okDs k xs = true) (h' : okDs k ys = true) : okDs k (xs ++ ys) = true := okDs_of fun d hd => by
  rcases List.mem_append.mp hd with z | z
  · exact okDs_mem h d z
  · exact okDs_mem h' d z
theorem okDs_append (k : Nat) : ∀ xs ys : List D, okDs k (xs ++ ys) = (okDs k xs && okDs k ys)
  | [], ys => by simp [okDs]
  | x :: xs, ys => by
    rw [List.cons_append, okDs, okDs, okDs_append k xs ys, Bool.and_assoc]
theorem revD : ∀ a b : D, [a, b].reverse = [b, a] := fun _ _ => rfl
theorem bent_gen (n a b m v : Nat) (l : List Nat) (X Y Z R : List D) (hl : l.length = 30) (hn : 1 ≤ n) (hn2 : n ≤ 9) (hX : X.length = n) (hY : Y.length = n) (hZ : Z.length = n) (hR : R.length = n)
    (oX : ∀ k, okDs (k + 1) X = true) (oY : ∀ k, okDs (k + 1) Y = true) (oZ : ∀ k, okDs (k + 1) Z = true) (oR : ∀ k, okDs k R = true)
    (e10 : ixD (.lst (nats l)) (.int 10) = .ok (.int (l[10] : Nat))) (e11 : ixD (.lst (nats l)) (.int 11) = .ok (.int (l[11] : Nat))) (e12 : ixD (.lst (nats l)) (.int 12) = .ok (.int (l[12] : Nat))) (e13 : ixD (.lst (nats l)) (.int 13) = .ok (.int (l[13] : Nat)))
    (ma : ((l[10] : Nat) : Int) % (n : Int) = (a : Nat)) (mb : ((l[11] : Nat) : Int) % (n : Int) = (b : Nat)) (mm : ((l[12] : Nat) : Int) % 2 = (m : Nat))
    (iZ : ixD (.tup [.tup X, .tup Y]) (.int (m : Nat)) = .ok (.tup Z)) (iR : ixD (.tup Z) (.int (a : Nat)) = .ok (.tup R)) (iv : ixD (.tup R) (.int (b : Nat)) = .ok (.int (v : Nat))) :
    ∃ T : List D, f__law_bent [.tup [.tup X, .tup Y], .lst (nats l)] = .ok (.lst T) ∧ okDs 10 T = true := by
  have i0 : ixD (.tup [.tup X, .tup Y]) (.int 0) = .ok (.tup X) := rfl
  have i1 : ixD (.tup [.tup X, .tup Y]) (.int 1) = .ok (.tup Y) := rfl
  have pn : (0 : Int) < (n : Int) := by omega
  have b1l : (0 + 1 ≤ lim) = True := eq_true (by decide)
  have b2l : (0 + 1 + 1 ≤ lim) = True := eq_true (by decide)
  have b3l : (0 + 1 + 1 + 1 ≤ lim) = True := eq_true (by decide)
  have b6l : (0 + 1 + 1 + 1 + 1 + 1 + 1 ≤ lim) = True := eq_true (by decide)
  have b5l : (0 + 1 + 1 + 1 + 1 + 1 ≤ lim) = True := eq_true (by decide)
  have b0l : (0 ≤ lim) = True := eq_true (by decide)
  have k1 : ∀ lo hi, (cutD R lo hi).length + (0 + 1) ≤ lim := fun lo hi => by have := cut_len R lo hi; unfold lim; omega
  have k2 : ∀ lo hi lo' hi' (x : D), (cutD R lo hi ++ [x]).length + (cutD R lo' hi').length ≤ lim := fun lo hi lo' hi' x => by have := cut_len R lo hi; have := cut_len R lo' hi'; rw [List.length_append]; simp only [List.length_cons, List.length_nil]; unfold lim; omega
  have k3 : ∀ lo hi, (cutD Z lo hi).length + (0 + 1) ≤ lim := fun lo hi => by have := cut_len Z lo hi; unfold lim; omega
  have k4 : ∀ lo hi lo' hi' (x : D), (cutD Z lo hi ++ [x]).length + (cutD Z lo' hi').length ≤ lim := fun lo hi lo' hi' x => by have := cut_len Z lo hi; have := cut_len Z lo' hi'; rw [List.length_append]; simp only [List.length_cons, List.length_nil]; unfold lim; omega
  have k5 : (0 + 1 + 1 + 1 + 1 + 1 + 1 + (0 + 1 + 1 + 1 + 1 + 1) ≤ lim) = True := eq_true (by decide)
  have k6 : (0 + 1 + 1 + 1 + 1 + 1 + 1 + 1 + 1 + 1 + 1 + 1 < lim) = True := eq_true (by decide)
  have k7 : (0 + 1 + 1 + 1 + 1 + 1 + 1 + 1 + 1 + 1 + 1 + 1 + 1 < lim) = True := eq_true (by decide)
  have k8 : (0 + 1 + 1 + 1 + 1 + 1 + 1 + 1 + 1 + 1 + 1 + 1 + 1 + 1 < lim) = True := eq_true (by decide)
  unfold f__law_bent m__law_bent
  simp (implicitDefEqProofs := false) only [isInt_non, isInt_bl, isInt_int, isInt_str, isInt_tup, isInt_lst, isBool_non, isBool_bl, isBool_int, isBool_str, isBool_tup, isBool_lst, isTuple_non, isTuple_bl, isTuple_int, isTuple_str, isTuple_tup, isTuple_lst, isStr_non, isStr_bl, isStr_int, isStr_str, isStr_tup, isStr_lst, biLen_tup, biTuple_tup, biList_tup, itD_tup, truD_tup, biLen_lst, biTuple_lst, biList_lst, itD_lst, truD_lst, biLen_scr, biLen_dI, biLen_dT, truD_non, truD_bl, truD_int, asB_bl, isNon_non, isNon_bl, isNon_int, isNon_str, isNon_tup, isNon_lst, runF, endF, sSeq, thenS, sSet, sSetN, sRet, sIf, sExpr, sNil, sPass, sCont, sFrz, sKill, eCall, aCons, aNil, aStar, rd, ro, cst, frz, op2, cmp2, cmp3, ofB, eAnd, eOr, eNot, eNeg, eIf, tAnd', tOr', tNot', tru, eTup, eLst, eIx, eSl, oNone, oSome, b1, b2, eIsi, noExc_ok, noExc_err, biAbs, biInt, opAdd, opSub, opMul, smI_lit, opPow, smP1015, Bool.or_true, Bool.true_or, opDiv, opMod, cmLt, cmLe, cmGt, cmGe, cmInt, cmIs, cmIsNot, itR, itRC, rgM, rgMC, its, gtN, gtT, gtCons, gtNil, sAsg, sApp, appM, isOwnL, sFor, freeze1, wipeN, eListR, eTupR, eMeth, isSq_tup, isSq_lst, eRev, ok_bind, err_bind, List.map_cons, List.map_nil, List.length_cons, List.length_nil, List.cons_append, List.nil_append, List.replicate_succ, List.replicate_zero, List.getElem?_cons_zero, List.getElem?_cons_succ, List.set_cons_zero, List.set_cons_succ, List.foldl_cons, List.foldl_nil, if_true, if_false, ite_true, ite_false, reduceIte, reduceCtorEq, Int.reduceLT, Int.reduceLE, Int.reducePow, Int.reduceToNat, Nat.reducePow, Nat.reduceLT, Nat.reduceLeDiff, Int.reduceAdd, Int.reduceSub, Int.reduceMul, Int.reduceNeg, Nat.reduceAdd, Nat.reduceSub, Int.reduceEq, Nat.reduceEqDiff, decide_true, decide_false, and_self, Bool.and_self, Bool.and_true, Bool.true_and, and_true, true_and, Nat.zero_le, Bool.not_true, Bool.not_false, Bool.false_eq_true, decide_eq_true_eq, goOn, turn, i0, i1, hX, pn, e10, e11, e12, e13, ma, mb, mm, iZ, iR, iv, slD_tup, slD_lst, b0l, b1l, b2l, b3l, b5l, b6l, k1, k2, k3, k4, k5, k6, k7, k8, revD, Except.ok.injEq, D.lst.injEq, exists_eq_left']
  have oX8 : okDs 8 X = true := oX 7
  have oY8 : okDs 8 Y = true := oY 7
  have cX : ∀ lo hi, okDs 8 (cutD X lo hi) = true := fun lo hi => okDs_cut lo hi oX8
  have cY : ∀ lo hi, okDs 8 (cutD Y lo hi) = true := fun lo hi => okDs_cut lo hi oY8
  have cZ : ∀ lo hi, okDs 8 (cutD Z lo hi) = true := fun lo hi => okDs_cut lo hi (oZ 7)
  have cR : ∀ lo hi, okDs 7 (cutD R lo hi) = true := fun lo hi => okDs_cut lo hi (oR 7)
  have cP : ∀ lo hi, okDs 9 (cutD [.tup X, .tup Y] lo hi) = true := fun lo hi => okDs_cut lo hi (by simp only [okDs, okD, oX8, oY8, Bool.and_self])
  simp only [okDs, okD, okDs_append, oX8, oY8, cX, cY, cZ, cR, cP, Bool.and_self, Bool.and_true]

theorem okDs_row (k n : Nat) (t : Nat → Nat → Nat) (m : Nat) : okDs (k + 1) ((List.range m).map fun a => rowD n (t a)) = true := okDs_of fun d hd => by
  obtain ⟨a, _, rfl⟩ := List.mem_map.mp hd
  unfold rowD
  simp only [okD]
  exact ok_nats k _
theorem bent_ev {n : Nat} {s u : Nat → Nat → Nat} (l : List Nat) (hl : l.length = 30) (hn : 1 ≤ n) (hn2 : n ≤ 9) : ∃ T : List D, f__law_bent [.tup [gridD n n s, gridD n n u], .lst (nats l)] = .ok (.lst T) ∧ okDs 10 T = true := by
  have get : ∀ (i : Nat) (h : i < l.length), ixD (.lst (nats l)) (.int (i : Nat)) = .ok (.int ((l[i] : Nat) : Int)) := fun i h => ix_nats h
  have ha : l[10] % n < n := Nat.mod_lt _ (by omega)
  have hb : l[11] % n < n := Nat.mod_lt _ (by omega)
  have key : ∀ (t : Nat → Nat → Nat), ixD (.tup [gridD n n s, gridD n n u]) (.int ((l[12] % 2 : Nat) : Int)) = .ok (gridD n n t) → ∃ T : List D, f__law_bent [.tup [gridD n n s, gridD n n u], .lst (nats l)] = .ok (.lst T) ∧ okDs 10 T = true := fun t ht =>
    bent_gen n (l[10] % n) (l[11] % n) (l[12] % 2) (t (l[10] % n) (l[11] % n)) l ((List.range n).map fun a => rowD n (s a)) ((List.range n).map fun a => rowD n (u a)) ((List.range n).map fun a => rowD n (t a)) (nats ((List.range n).map (t (l[10] % n)))) hl hn hn2
      (by simp) (by simp) (by simp) (by rw [nats_len]; simp) (fun k => okDs_row k n s n) (fun k => okDs_row k n u n) (fun k => okDs_row k n t n) (fun k => ok_nats k _)
      (get 10 (by omega)) (get 11 (by omega)) (get 12 (by omega)) (get 13 (by omega)) (modC _ _) (modC _ _) (modC _ 2) ht (ix_grid ha) (ix_row hb)
  have h2 : l[12] % 2 = 0 ∨ l[12] % 2 = 1 := by omega
  rcases h2 with e | e
  · exact key s (by rw [e]; rfl)
  · exact key u (by rw [e]; rfl)
end Sim

namespace Sim
open PySem L2
mutual
theorem eqv_refl : ∀ (n : Nat) (d : D), okD n d = true → PyData.eqv (toPy d) (toPy d) = true
  | _, .non, _ => by simp [toPy, PyData.eqv]
  | _, .bl b, _ => by simp [toPy, PyData.eqv]
  | _, .int i, _ => by simp [toPy, PyData.eqv]
  | _, .str x, _ => by simp [toPy, PyData.eqv]
  | 0, .tup xs, h => by simp [okD] at h
  | n + 1, .tup xs, h => by
    have := eqvs_refl n xs (by simpa [okD] using h)
    simp [toPy, PyData.eqv, this]
  | 0, .lst xs, h => by simp [okD] at h
  | n + 1, .lst xs, h => by
    have := eqvs_refl n xs (by simpa [okD] using h)
    simp [toPy, PyData.eqv, this]
  | _, .dI _, h => by simp [okD] at h
  | _, .dT _, h => by simp [okD] at h
  | _, .tab _ _, h => by simp [okD] at h
  | _, .scr _, h => by simp [okD] at h
theorem eqvs_refl : ∀ (n : Nat) (ds : List D), okDs n ds = true → PyData.eqvAll (toPys ds) (toPys ds) = true
  | _, [], _ => by simp [toPys, PyData.eqvAll]
  | n, d :: ds, h => by
    have h' : okD n d = true ∧ okDs n ds = true := by simpa [okDs] using h
    have a := eqv_refl n d h'.1
    have b := eqvs_refl n ds h'.2
    simp [toPys, PyData.eqvAll, a, b]
end
theorem cmNe_self {d : D} (h : okD 60 d = true) : cmNe d d = .ok false := by
  unfold cmNe eqD
  rw [if_pos ⟨h, h⟩, eqv_refl 60 d h]
  rfl
theorem says_ev (b : Bool) : f__law_says [.bl b, .bl b] = .ok (.bl true) := by
  unfold f__law_says m__law_says
  have e : cmEq (.bl b) (.bl b) = .ok true := by cases b <;> rfl
  simp (implicitDefEqProofs := false) only [isInt_non, isInt_bl, isInt_int, isInt_str, isInt_tup, isInt_lst, isBool_non, isBool_bl, isBool_int, isBool_str, isBool_tup, isBool_lst, isTuple_non, isTuple_bl, isTuple_int, isTuple_str, isTuple_tup, isTuple_lst, isStr_non, isStr_bl, isStr_int, isStr_str, isStr_tup, isStr_lst, biLen_tup, biTuple_tup, biList_tup, itD_tup, truD_tup, biLen_lst, biTuple_lst, biList_lst, itD_lst, truD_lst, biLen_scr, biLen_dI, biLen_dT, truD_non, truD_bl, truD_int, asB_bl, isNon_non, isNon_bl, isNon_int, isNon_str, isNon_tup, isNon_lst, runF, endF, sSeq, thenS, sSet, sSetN, sRet, sIf, sExpr, sNil, sPass, sCont, sFrz, sKill, eCall, aCons, aNil, aStar, rd, ro, cst, frz, op2, cmp2, cmp3, ofB, eAnd, eOr, eNot, eNeg, eIf, tAnd', tOr', tNot', tru, eTup, eLst, eIx, eSl, oNone, oSome, b1, b2, eIsi, noExc_ok, noExc_err, biAbs, biInt, opAdd, opSub, opMul, smI_lit, opPow, smP1015, Bool.or_true, Bool.true_or, opDiv, opMod, cmLt, cmLe, cmGt, cmGe, cmInt, cmIs, cmIsNot, itR, itRC, rgM, rgMC, its, gtN, gtT, gtCons, gtNil, sAsg, sApp, appM, isOwnL, sFor, freeze1, wipeN, eListR, eTupR, eMeth, isSq_tup, isSq_lst, eRev, ok_bind, err_bind, List.map_cons, List.map_nil, List.length_cons, List.length_nil, List.cons_append, List.nil_append, List.replicate_succ, List.replicate_zero, List.getElem?_cons_zero, List.getElem?_cons_succ, List.set_cons_zero, List.set_cons_succ, List.foldl_cons, List.foldl_nil, if_true, if_false, ite_true, ite_false, reduceIte, reduceCtorEq, Int.reduceLT, Int.reduceLE, Int.reducePow, Int.reduceToNat, Nat.reducePow, Nat.reduceLT, Nat.reduceLeDiff, Int.reduceAdd, Int.reduceSub, Int.reduceMul, Int.reduceNeg, Nat.reduceAdd, Nat.reduceSub, Int.reduceEq, Nat.reduceEqDiff, decide_true, decide_false, and_self, Bool.and_self, Bool.and_true, Bool.true_and, and_true, true_and, Nat.zero_le, Bool.not_true, Bool.not_false, Bool.false_eq_true, decide_eq_true_eq, goOn, turn, e]
theorem law_turn (d : D) (h : okD 10 d = true) (x y : Option Sl) : turn (gtN 2) [2, 3, 4] (sSeq (sSet 3 (eCall f__law_fault (aCons (rd 2) aNil))) (sSeq (sSet 4 (eCall f_brace_break (aCons (rd 2) aNil))) (sSeq (sIf (cmp2 cmIs (ro 3) (cst .non)) (sIf (cmp2 cmIsNot (ro 4) (cst .non)) (sRet (cst (.bl false))) sNil) (sIf (tOr' (tNot' (tru (eIsi isTuple (ro 4)))) (cmp2 cmNe (ro 4) (ro 3))) (sRet (cst (.bl false))) sNil)) (sIf (tNot' (tru (eCall f__law_says (aCons (eCall f_is_brace (aCons (rd 2) aNil)) (aCons (ofB (cmp2 cmIs (ro 3) (cst .non))) aNil))))) (sRet (cst (.bl false))) sNil)))) d [x, y, none, none, none] = .ok [x, y, none, none, none] := by
  obtain ⟨r, h1, h2, h3⟩ := fault_eq (k := 7) (by decide) d h
  have hb : f_brace_break [d] = .ok r := by
    unfold f_brace_break m_brace_break
    simp (implicitDefEqProofs := false) only [isInt_non, isInt_bl, isInt_int, isInt_str, isInt_tup, isInt_lst, isBool_non, isBool_bl, isBool_int, isBool_str, isBool_tup, isBool_lst, isTuple_non, isTuple_bl, isTuple_int, isTuple_str, isTuple_tup, isTuple_lst, isStr_non, isStr_bl, isStr_int, isStr_str, isStr_tup, isStr_lst, biLen_tup, biTuple_tup, biList_tup, itD_tup, truD_tup, biLen_lst, biTuple_lst, biList_lst, itD_lst, truD_lst, biLen_scr, biLen_dI, biLen_dT, truD_non, truD_bl, truD_int, asB_bl, isNon_non, isNon_bl, isNon_int, isNon_str, isNon_tup, isNon_lst, runF, endF, sSeq, thenS, sSet, sSetN, sRet, sIf, sExpr, sNil, sPass, sCont, sFrz, sKill, eCall, aCons, aNil, aStar, rd, ro, cst, frz, op2, cmp2, cmp3, ofB, eAnd, eOr, eNot, eNeg, eIf, tAnd', tOr', tNot', tru, eTup, eLst, eIx, eSl, oNone, oSome, b1, b2, eIsi, noExc_ok, noExc_err, biAbs, biInt, opAdd, opSub, opMul, smI_lit, opPow, smP1015, Bool.or_true, Bool.true_or, opDiv, opMod, cmLt, cmLe, cmGt, cmGe, cmInt, cmIs, cmIsNot, itR, itRC, rgM, rgMC, its, gtN, gtT, gtCons, gtNil, sAsg, sApp, appM, isOwnL, sFor, freeze1, wipeN, eListR, eTupR, eMeth, isSq_tup, isSq_lst, eRev, ok_bind, err_bind, List.map_cons, List.map_nil, List.length_cons, List.length_nil, List.cons_append, List.nil_append, List.replicate_succ, List.replicate_zero, List.getElem?_cons_zero, List.getElem?_cons_succ, List.set_cons_zero, List.set_cons_succ, List.foldl_cons, List.foldl_nil, if_true, if_false, ite_true, ite_false, reduceIte, reduceCtorEq, Int.reduceLT, Int.reduceLE, Int.reducePow, Int.reduceToNat, Nat.reducePow, Nat.reduceLT, Nat.reduceLeDiff, Int.reduceAdd, Int.reduceSub, Int.reduceMul, Int.reduceNeg, Nat.reduceAdd, Nat.reduceSub, Int.reduceEq, Nat.reduceEqDiff, decide_true, decide_false, and_self, Bool.and_self, Bool.and_true, Bool.true_and, and_true, true_and, Nat.zero_le, Bool.not_true, Bool.not_false, Bool.false_eq_true, decide_eq_true_eq, goOn, turn, h1]
  have hi : f_is_brace [d] = .ok (.bl (isNon r)) := by
    unfold f_is_brace m_is_brace
    simp (implicitDefEqProofs := false) only [isInt_non, isInt_bl, isInt_int, isInt_str, isInt_tup, isInt_lst, isBool_non, isBool_bl, isBool_int, isBool_str, isBool_tup, isBool_lst, isTuple_non, isTuple_bl, isTuple_int, isTuple_str, isTuple_tup, isTuple_lst, isStr_non, isStr_bl, isStr_int, isStr_str, isStr_tup, isStr_lst, biLen_tup, biTuple_tup, biList_tup, itD_tup, truD_tup, biLen_lst, biTuple_lst, biList_lst, itD_lst, truD_lst, biLen_scr, biLen_dI, biLen_dT, truD_non, truD_bl, truD_int, asB_bl, isNon_non, isNon_bl, isNon_int, isNon_str, isNon_tup, isNon_lst, runF, endF, sSeq, thenS, sSet, sSetN, sRet, sIf, sExpr, sNil, sPass, sCont, sFrz, sKill, eCall, aCons, aNil, aStar, rd, ro, cst, frz, op2, cmp2, cmp3, ofB, eAnd, eOr, eNot, eNeg, eIf, tAnd', tOr', tNot', tru, eTup, eLst, eIx, eSl, oNone, oSome, b1, b2, eIsi, noExc_ok, noExc_err, biAbs, biInt, opAdd, opSub, opMul, smI_lit, opPow, smP1015, Bool.or_true, Bool.true_or, opDiv, opMod, cmLt, cmLe, cmGt, cmGe, cmInt, cmIs, cmIsNot, itR, itRC, rgM, rgMC, its, gtN, gtT, gtCons, gtNil, sAsg, sApp, appM, isOwnL, sFor, freeze1, wipeN, eListR, eTupR, eMeth, isSq_tup, isSq_lst, eRev, ok_bind, err_bind, List.map_cons, List.map_nil, List.length_cons, List.length_nil, List.cons_append, List.nil_append, List.replicate_succ, List.replicate_zero, List.getElem?_cons_zero, List.getElem?_cons_succ, List.set_cons_zero, List.set_cons_succ, List.foldl_cons, List.foldl_nil, if_true, if_false, ite_true, ite_false, reduceIte, reduceCtorEq, Int.reduceLT, Int.reduceLE, Int.reducePow, Int.reduceToNat, Nat.reducePow, Nat.reduceLT, Nat.reduceLeDiff, Int.reduceAdd, Int.reduceSub, Int.reduceMul, Int.reduceNeg, Nat.reduceAdd, Nat.reduceSub, Int.reduceEq, Nat.reduceEqDiff, decide_true, decide_false, and_self, Bool.and_self, Bool.and_true, Bool.true_and, and_true, true_and, Nat.zero_le, Bool.not_true, Bool.not_false, Bool.false_eq_true, decide_eq_true_eq, goOn, turn, h1]
  rcases h3 with rfl | ⟨xs, rfl, h4⟩
  · simp (implicitDefEqProofs := false) only [isInt_non, isInt_bl, isInt_int, isInt_str, isInt_tup, isInt_lst, isBool_non, isBool_bl, isBool_int, isBool_str, isBool_tup, isBool_lst, isTuple_non, isTuple_bl, isTuple_int, isTuple_str, isTuple_tup, isTuple_lst, isStr_non, isStr_bl, isStr_int, isStr_str, isStr_tup, isStr_lst, biLen_tup, biTuple_tup, biList_tup, itD_tup, truD_tup, biLen_lst, biTuple_lst, biList_lst, itD_lst, truD_lst, biLen_scr, biLen_dI, biLen_dT, truD_non, truD_bl, truD_int, asB_bl, isNon_non, isNon_bl, isNon_int, isNon_str, isNon_tup, isNon_lst, runF, endF, sSeq, thenS, sSet, sSetN, sRet, sIf, sExpr, sNil, sPass, sCont, sFrz, sKill, eCall, aCons, aNil, aStar, rd, ro, cst, frz, op2, cmp2, cmp3, ofB, eAnd, eOr, eNot, eNeg, eIf, tAnd', tOr', tNot', tru, eTup, eLst, eIx, eSl, oNone, oSome, b1, b2, eIsi, noExc_ok, noExc_err, biAbs, biInt, opAdd, opSub, opMul, smI_lit, opPow, smP1015, Bool.or_true, Bool.true_or, opDiv, opMod, cmLt, cmLe, cmGt, cmGe, cmInt, cmIs, cmIsNot, itR, itRC, rgM, rgMC, its, gtN, gtT, gtCons, gtNil, sAsg, sApp, appM, isOwnL, sFor, freeze1, wipeN, eListR, eTupR, eMeth, isSq_tup, isSq_lst, eRev, ok_bind, err_bind, List.map_cons, List.map_nil, List.length_cons, List.length_nil, List.cons_append, List.nil_append, List.replicate_succ, List.replicate_zero, List.getElem?_cons_zero, List.getElem?_cons_succ, List.set_cons_zero, List.set_cons_succ, List.foldl_cons, List.foldl_nil, if_true, if_false, ite_true, ite_false, reduceIte, reduceCtorEq, Int.reduceLT, Int.reduceLE, Int.reducePow, Int.reduceToNat, Nat.reducePow, Nat.reduceLT, Nat.reduceLeDiff, Int.reduceAdd, Int.reduceSub, Int.reduceMul, Int.reduceNeg, Nat.reduceAdd, Nat.reduceSub, Int.reduceEq, Nat.reduceEqDiff, decide_true, decide_false, and_self, Bool.and_self, Bool.and_true, Bool.true_and, and_true, true_and, Nat.zero_le, Bool.not_true, Bool.not_false, Bool.false_eq_true, decide_eq_true_eq, goOn, turn, h2, hb, hi, says_ev]
  · simp (implicitDefEqProofs := false) only [isInt_non, isInt_bl, isInt_int, isInt_str, isInt_tup, isInt_lst, isBool_non, isBool_bl, isBool_int, isBool_str, isBool_tup, isBool_lst, isTuple_non, isTuple_bl, isTuple_int, isTuple_str, isTuple_tup, isTuple_lst, isStr_non, isStr_bl, isStr_int, isStr_str, isStr_tup, isStr_lst, biLen_tup, biTuple_tup, biList_tup, itD_tup, truD_tup, biLen_lst, biTuple_lst, biList_lst, itD_lst, truD_lst, biLen_scr, biLen_dI, biLen_dT, truD_non, truD_bl, truD_int, asB_bl, isNon_non, isNon_bl, isNon_int, isNon_str, isNon_tup, isNon_lst, runF, endF, sSeq, thenS, sSet, sSetN, sRet, sIf, sExpr, sNil, sPass, sCont, sFrz, sKill, eCall, aCons, aNil, aStar, rd, ro, cst, frz, op2, cmp2, cmp3, ofB, eAnd, eOr, eNot, eNeg, eIf, tAnd', tOr', tNot', tru, eTup, eLst, eIx, eSl, oNone, oSome, b1, b2, eIsi, noExc_ok, noExc_err, biAbs, biInt, opAdd, opSub, opMul, smI_lit, opPow, smP1015, Bool.or_true, Bool.true_or, opDiv, opMod, cmLt, cmLe, cmGt, cmGe, cmInt, cmIs, cmIsNot, itR, itRC, rgM, rgMC, its, gtN, gtT, gtCons, gtNil, sAsg, sApp, appM, isOwnL, sFor, freeze1, wipeN, eListR, eTupR, eMeth, isSq_tup, isSq_lst, eRev, ok_bind, err_bind, List.map_cons, List.map_nil, List.length_cons, List.length_nil, List.cons_append, List.nil_append, List.replicate_succ, List.replicate_zero, List.getElem?_cons_zero, List.getElem?_cons_succ, List.set_cons_zero, List.set_cons_succ, List.foldl_cons, List.foldl_nil, if_true, if_false, ite_true, ite_false, reduceIte, reduceCtorEq, Int.reduceLT, Int.reduceLE, Int.reducePow, Int.reduceToNat, Nat.reducePow, Nat.reduceLT, Nat.reduceLeDiff, Int.reduceAdd, Int.reduceSub, Int.reduceMul, Int.reduceNeg, Nat.reduceAdd, Nat.reduceSub, Int.reduceEq, Nat.reduceEqDiff, decide_true, decide_false, and_self, Bool.and_self, Bool.and_true, Bool.true_and, and_true, true_and, Nat.zero_le, Bool.not_true, Bool.not_false, Bool.false_eq_true, decide_eq_true_eq, goOn, turn, h2, hb, hi, says_ev, cmNe_self h4]
theorem k64_true (ns : List Int) (hns : ns.length ≤ 63) : f_law_k64 [.scr ns] = .ok (.bl true) := by
  obtain ⟨l, hl, _, hl3⟩ := numbers_ev ns 0 30 (by decide) (by decide)
  have e30 : ((30 : Nat) : Int) = 30 := rfl
  have e0 : ((0 : Nat) : Int) = 0 := rfl
  rw [e30, e0] at hl3
  obtain ⟨n, s, u, h1, h2, _, _, hb⟩ := brace_ev l hl
  obtain ⟨T, hT, oT⟩ := bent_ev (s := s) (u := u) l hl h1 h2
  obtain ⟨ρ', k1, k2⟩ := forGo_inv0 (gt := gtN 2) (kill := [2, 3, 4]) (m := sSeq (sSet 3 (eCall f__law_fault (aCons (rd 2) aNil))) (sSeq (sSet 4 (eCall f_brace_break (aCons (rd 2) aNil))) (sSeq (sIf (cmp2 cmIs (ro 3) (cst .non)) (sIf (cmp2 cmIsNot (ro 4) (cst .non)) (sRet (cst (.bl false))) sNil) (sIf (tOr' (tNot' (tru (eIsi isTuple (ro 4)))) (cmp2 cmNe (ro 4) (ro 3))) (sRet (cst (.bl false))) sNil)) (sIf (tNot' (tru (eCall f__law_says (aCons (eCall f_is_brace (aCons (rd 2) aNil)) (aCons (ofB (cmp2 cmIs (ro 3) (cst .non))) aNil))))) (sRet (cst (.bl false))) sNil))))
    (fun _ ρ => ρ = [some (.val (.scr ns)), some (.val (.lst (nats l))), none, none, none]) T [some (.val (.scr ns)), some (.val (.lst (nats l))), none, none, none] rfl
    (fun j d ρ e k => ⟨_, by rw [k]; exact law_turn d (okDs_mem oT d (List.mem_of_getElem? e)) _ _, rfl⟩)
  subst k2
  unfold f_law_k64 m_law_k64
  simp (implicitDefEqProofs := false) only [isInt_non, isInt_bl, isInt_int, isInt_str, isInt_tup, isInt_lst, isBool_non, isBool_bl, isBool_int, isBool_str, isBool_tup, isBool_lst, isTuple_non, isTuple_bl, isTuple_int, isTuple_str, isTuple_tup, isTuple_lst, isStr_non, isStr_bl, isStr_int, isStr_str, isStr_tup, isStr_lst, biLen_tup, biTuple_tup, biList_tup, itD_tup, truD_tup, biLen_lst, biTuple_lst, biList_lst, itD_lst, truD_lst, biLen_scr, biLen_dI, biLen_dT, truD_non, truD_bl, truD_int, asB_bl, isNon_non, isNon_bl, isNon_int, isNon_str, isNon_tup, isNon_lst, runF, endF, sSeq, thenS, sSet, sSetN, sRet, sIf, sExpr, sNil, sPass, sCont, sFrz, sKill, eCall, aCons, aNil, aStar, rd, ro, cst, frz, op2, cmp2, cmp3, ofB, eAnd, eOr, eNot, eNeg, eIf, tAnd', tOr', tNot', tru, eTup, eLst, eIx, eSl, oNone, oSome, b1, b2, eIsi, noExc_ok, noExc_err, biAbs, biInt, opAdd, opSub, opMul, smI_lit, opPow, smP1015, Bool.or_true, Bool.true_or, opDiv, opMod, cmLt, cmLe, cmGt, cmGe, cmInt, cmIs, cmIsNot, itR, itRC, rgM, rgMC, its, gtN, gtT, gtCons, gtNil, sAsg, sApp, appM, isOwnL, sFor, freeze1, wipeN, eListR, eTupR, eMeth, isSq_tup, isSq_lst, eRev, ok_bind, err_bind, List.map_cons, List.map_nil, List.length_cons, List.length_nil, List.cons_append, List.nil_append, List.replicate_succ, List.replicate_zero, List.getElem?_cons_zero, List.getElem?_cons_succ, List.set_cons_zero, List.set_cons_succ, List.foldl_cons, List.foldl_nil, if_true, if_false, ite_true, ite_false, reduceIte, reduceCtorEq, Int.reduceLT, Int.reduceLE, Int.reducePow, Int.reduceToNat, Nat.reducePow, Nat.reduceLT, Nat.reduceLeDiff, Int.reduceAdd, Int.reduceSub, Int.reduceMul, Int.reduceNeg, Nat.reduceAdd, Nat.reduceSub, Int.reduceEq, Nat.reduceEqDiff, decide_true, decide_false, and_self, Bool.and_self, Bool.and_true, Bool.true_and, and_true, true_and, Nat.zero_le, Bool.not_true, Bool.not_false, Bool.false_eq_true, decide_eq_true_eq, goOn, turn, hl3, hb, hT, k1]
end Sim

namespace K64
open PySem L2 Sim
def top (i : Nat) : Stmt := PySem.Challenge.pw_hatspassed_k64_brace_break.main.body.getD i (.Pass ⟨0, 0, 0, 0⟩)
structure Txt (K : PySem.W.Frag) (mg : Mg) : Prop where
  c_MOST_NUMBERS : ∃ t, mg "MOST_NUMBERS" = some (.int 24 t)
  n_abs : mg "abs" = none
  n_all : mg "all" = none
  n_bool : mg "bool" = none
  n_int : mg "int" = none
  n_isinstance : mg "isinstance" = none
  n_len : mg "len" = none
  n_list : mg "list" = none
  n_range : mg "range" = none
  n_tuple : mg "tuple" = none
section
variable {P : Program} {w : World} {K : PySem.W.Frag} {mg : Mg} {base : Heap}
theorem sc__law_cell : FnScope ["script", "k"] ["script", "k"] (defScope (top 17)) := ⟨rfl, rfl, rfl, by decide +kernel, rfl, by decide +kernel, by decide +kernel⟩
theorem ok__law_cell {f : Addr} {fd : FuncData} (T : Txt K mg) (F : Fun K "_law_cell" "_law_cell" (top 17) f fd) (hg : mg "_law_cell" = some (.ref f)) (bf : Binds K fd ["script", "k"] [])  : Fn P w K mg base 1 "_law_cell" 2 f__law_cell :=
  fn_ok (k := 0) F sc__law_cell hg bf fun cdv A outer s H E hr tk hp => sb_cons (ss_if (st_cmp opr_lt (so_var 1) (SimE.o (SimN.e (sn_b1 cr_len T.n_len PySem.boot_len (so_var 0))))) (sb_one (ss_ret (se_ix (hu1 hr) (so_var 0) (se_var 1)))) sb_nil)
  (sb_one (ss_ret se_int))
theorem sc__law_numbers : FnScope ["script", "at", "many", "cell", "told", "k", "seed"] ["script", "at", "many"] (defScope (top 18)) := ⟨rfl, rfl, rfl, by decide +kernel, rfl, by decide +kernel, by decide +kernel⟩
theorem ok__law_numbers {f : Addr} {fd : FuncData} (T : Txt K mg) (F : Fun K "_law_numbers" "_law_numbers" (top 18) f fd) (hg : mg "_law_numbers" = some (.ref f)) (bf : Binds K fd ["script", "at", "many"] []) (G__law_cell : Fn P w K mg base 1 "_law_cell" 2 f__law_cell) : Fn P w K mg base 2 "_law_numbers" 3 f__law_numbers :=
  fn_ok (k := 1) F sc__law_numbers hg bf fun cdv A outer s H E hr tk hp => sb_cons (ss_setN 3 sc__law_numbers.nd (sn_b1 cr_abs T.n_abs PyProof.Rows.boot_abs (SimE.o (SimN.e (sn_t1 cr_int T.n_int PyProof.Rows.boot_int (SimE.o (se_call G__law_cell (hr.mono (by decide)) tk (sa_cons (se_var 0) (sa_cons (se_var 1) sa_nil)))))))))
  (sb_cons (ss_if (st_cmp opr_ge (so_var 3) (SimE.o (SimN.e (sn_op opr_pow (SimE.o se_int) (SimE.o se_int))))) (sb_cons (ss_setN 4 sc__law_numbers.nd (sn_lst sa_nil))
  (sb_cons (ss_for [5] hp rfl (si_rng1 T.n_range (se_var 2)) (sg_name 5 sc__law_numbers.nd) (sb_cons (ss_app 4 (SimN.e (sn_op opr_mod (so_var 3) (SimE.o se_int))))
  (sb_one (ss_setN 3 sc__law_numbers.nd (sn_op opr_div (so_var 3) (SimE.o se_int))))))
  (sb_one (ss_frz [4] (ss_ret (se_var 4)))))) sb_nil)
  (sb_cons (ss_setN 6 sc__law_numbers.nd (sn_op opr_mod (SimE.o (SimN.e (sn_op opr_add (SimE.o (SimN.e (sn_op opr_add (so_var 3) (SimE.o (SimN.e (sn_op opr_mul (SimE.o se_int) (so_var 1))))))) (SimE.o se_int)))) (SimE.o se_int)))
  (sb_cons (ss_setN 4 sc__law_numbers.nd (sn_lst sa_nil))
  (sb_cons (ss_for [5] hp rfl (si_rng1 T.n_range (se_var 2)) (sg_name 5 sc__law_numbers.nd) (sb_cons (ss_setN 6 sc__law_numbers.nd (sn_op opr_mod (SimE.o (SimN.e (sn_op opr_add (SimE.o (SimN.e (sn_op opr_mul (so_var 6) (SimE.o se_int)))) (SimE.o se_int)))) (SimE.o se_int)))
  (sb_one (ss_app 4 (SimN.e (sn_op opr_mod (SimE.o (SimN.e (sn_op opr_div (so_var 6) (SimE.o se_int)))) (SimE.o se_int)))))))
  (sb_one (ss_frz [4] (ss_ret (se_var 4))))))))
theorem sc__law_bent : FnScope ["grids", "numbers", "many", "a", "b", "side", "grid", "row", "other", "things"] ["grids", "numbers"] (defScope (top 29)) := ⟨rfl, rfl, rfl, by decide +kernel, rfl, by decide +kernel, by decide +kernel⟩
theorem ok__law_bent {f : Addr} {fd : FuncData} (T : Txt K mg) (F : Fun K "_law_bent" "_law_bent" (top 29) f fd) (hg : mg "_law_bent" = some (.ref f)) (bf : Binds K fd ["grids", "numbers"] [])  : Fn P w K mg base 1 "_law_bent" 2 f__law_bent :=
  fn_ok (k := 0) F sc__law_bent hg bf fun cdv A outer s H E hr tk hp => sb_cons (ss_setN 2 sc__law_bent.nd (sn_b1 cr_len T.n_len PySem.boot_len (SimE.o (se_ix (hu1 hr) (so_var 0) se_int))))
  (sb_cons (ss_setN 3 sc__law_bent.nd (sn_op opr_mod (SimE.o (se_ix (hu1 hr) (so_var 1) se_int)) (so_var 2)))
  (sb_cons (ss_setN 4 sc__law_bent.nd (sn_op opr_mod (SimE.o (se_ix (hu1 hr) (so_var 1) se_int)) (so_var 2)))
  (sb_cons (ss_setN 5 sc__law_bent.nd (sn_op opr_mod (SimE.o (se_ix (hu1 hr) (so_var 1) se_int)) (SimE.o se_int)))
  (sb_cons (ss_set 6 sc__law_bent.nd (se_ix (hu1 hr) (so_var 0) (se_var 5)))
  (sb_cons (ss_setN 7 sc__law_bent.nd (sn_op opr_add (SimE.o (SimN.e (sn_op opr_add (SimE.o (SimN.e (sn_sl (SimE.o (se_ix (hu1 hr) (so_var 6) (se_var 3))) sp_none (sp_some (se_var 4))))) (SimE.o (se_tup (sa_cons (SimN.e (sn_op opr_mod (SimE.o (SimN.e (sn_op opr_add (SimE.o (SimN.e (sn_op opr_add (SimE.o (se_ix (hu1 hr) (SimE.o (se_ix (hu1 hr) (so_var 6) (se_var 3))) (se_var 4))) (SimE.o se_int)))) (SimE.o (se_ix (hu1 hr) (so_var 1) se_int))))) (so_var 2))) sa_nil)))))) (SimE.o (SimN.e (sn_sl (SimE.o (se_ix (hu1 hr) (so_var 6) (se_var 3))) (sp_some (SimN.e (sn_op opr_add (so_var 4) (SimE.o se_int)))) sp_none)))))
  (sb_cons (ss_setN 8 sc__law_bent.nd (sn_op opr_add (SimE.o (SimN.e (sn_op opr_add (SimE.o (SimN.e (sn_sl (so_var 6) sp_none (sp_some (se_var 3))))) (SimE.o (se_tup (sa_cons (se_var 7) sa_nil)))))) (SimE.o (SimN.e (sn_sl (so_var 6) (sp_some (SimN.e (sn_op opr_add (so_var 3) (SimE.o se_int)))) sp_none)))))
  (sb_cons (ss_setN 9 sc__law_bent.nd (sn_lst (sa_cons (se_var 0) (sa_cons (SimN.e (sn_rev (so_var 0))) (sa_cons (SimN.e (sn_sl (so_var 0) sp_none (sp_some se_int))) (sa_cons (SimN.e (sn_t1 cr_list T.n_list PyProof.Rows.boot_list (so_var 0))) (sa_cons (se_tup (sa_cons (SimN.e (sn_t1 cr_list T.n_list PyProof.Rows.boot_list (SimE.o (se_ix (hu1 hr) (so_var 0) se_int)))) (sa_cons (se_ix (hu1 hr) (so_var 0) se_int) sa_nil))) (sa_cons (se_tup (sa_cons (se_ix (hu1 hr) (so_var 0) se_int) (sa_cons (SimN.e (sn_sl (SimE.o (se_ix (hu1 hr) (so_var 0) se_int)) (sp_some se_int) sp_none)) sa_nil))) sa_nil))))))))
  (sb_cons (ss_setN 9 sc__law_bent.nd (sn_op opr_add (so_var 9) (SimE.o (SimN.e (sn_lst (sa_cons (se_tup (sa_cons (se_ix (hu1 hr) (so_var 0) se_int) (sa_cons (se_ix (hu1 hr) (so_var 0) se_int) (sa_cons (se_tup sa_nil) sa_nil)))) (sa_cons se_non (sa_cons se_int (sa_cons (se_tup (sa_cons (se_tup sa_nil) (sa_cons (se_tup sa_nil) sa_nil))) (sa_cons (se_tup (sa_cons (SimN.e (sn_sl (SimE.o (se_ix (hu1 hr) (so_var 0) se_int)) sp_none (sp_some (se_neg se_int)))) (sa_cons (SimN.e (sn_sl (SimE.o (se_ix (hu1 hr) (so_var 0) se_int)) sp_none (sp_some (se_neg se_int)))) sa_nil))) sa_nil))))))))))
  (sb_cons (ss_app 9 (se_tup (sa_cons (se_var 8) (sa_cons (se_ix (hu1 hr) (so_var 0) se_int) sa_nil))))
  (sb_cons (ss_app 9 (se_tup (sa_cons (se_ix (hu1 hr) (so_var 0) se_int) (sa_cons (se_var 8) sa_nil))))
  (sb_cons (ss_app 9 (se_tup (sa_cons (se_ix (hu1 hr) (so_var 0) se_int) (sa_cons (SimN.e (sn_op opr_add (SimE.o (SimN.e (sn_op opr_add (SimE.o (SimN.e (sn_sl (so_var 6) sp_none (sp_some (se_var 3))))) (SimE.o (se_tup (sa_cons (SimN.e (sn_op opr_add (SimE.o (SimN.e (sn_op opr_add (SimE.o (SimN.e (sn_sl (SimE.o (se_ix (hu1 hr) (so_var 6) (se_var 3))) sp_none (sp_some (se_var 4))))) (SimE.o (se_tup (sa_cons (se_var 2) sa_nil)))))) (SimE.o (SimN.e (sn_sl (SimE.o (se_ix (hu1 hr) (so_var 6) (se_var 3))) (sp_some (SimN.e (sn_op opr_add (so_var 4) (SimE.o se_int)))) sp_none))))) sa_nil)))))) (SimE.o (SimN.e (sn_sl (so_var 6) (sp_some (SimN.e (sn_op opr_add (so_var 3) (SimE.o se_int)))) sp_none))))) sa_nil))))
  (sb_one (ss_frz [9] (ss_ret (se_var 9)))))))))))))))
theorem sc__law_braces : FnScope ["four", "ring", "odd", "mixed", "three", "six", "turned", "two", "nine", "bent", "eight", "flat", "a", "b"] [] (defScope (top 24)) := ⟨rfl, rfl, rfl, by decide +kernel, rfl, by decide +kernel, by decide +kernel⟩
theorem ok__law_braces {f : Addr} {fd : FuncData} (T : Txt K mg) (F : Fun K "_law_braces" "_law_braces" (top 24) f fd) (hg : mg "_law_braces" = some (.ref f)) (bf : Binds K fd [] [])  : Fn P w K mg base 1 "_law_braces" 0 f__law_braces :=
  fn_ok (k := 0) F sc__law_braces hg bf fun cdv A outer s H E hr tk hp => sb_cons (ss_set 0 sc__law_braces.nd (se_tup (sa_cons (se_tup (sa_cons se_int (sa_cons se_int (sa_cons se_int (sa_cons se_int sa_nil))))) (sa_cons (se_tup (sa_cons se_int (sa_cons se_int (sa_cons se_int (sa_cons se_int sa_nil))))) (sa_cons (se_tup (sa_cons se_int (sa_cons se_int (sa_cons se_int (sa_cons se_int sa_nil))))) (sa_cons (se_tup (sa_cons se_int (sa_cons se_int (sa_cons se_int (sa_cons se_int sa_nil))))) sa_nil))))))
  (sb_cons (ss_setN 1 sc__law_braces.nd (sn_t1 cr_tuple T.n_tuple PyProof.Rows.boot_tuple (SimE.o (SimN.e (sn_lc (own := [("a", 12)]) rfl sc__law_braces.nd (sc_rng1 T.n_range se_int) (blkOk_by (by kernel_rfl)) (by decide) (fun _ _ _ _ _ => sg_name 12 sc__law_braces.nd) (fun _ _ _ _ _ => sts_nil) (fun _ _ _ _ _ => SimN.e (sn_t1 cr_tuple T.n_tuple PyProof.Rows.boot_tuple (SimE.o (SimN.e (sn_lc (own := [("b", 13)]) rfl sc__law_braces.nd (sc_rng1 T.n_range se_int) (blkOk_by (by kernel_rfl)) (by decide) (fun _ _ _ _ _ => sg_name 13 sc__law_braces.nd) (fun _ _ _ _ _ => sts_nil) (fun _ _ _ _ _ => SimN.e (sn_op opr_mod (SimE.o (SimN.e (sn_op opr_add (so_var 12) (so_var 13)))) (SimE.o se_int)))))))))))))
  (sb_cons (ss_setN 2 sc__law_braces.nd (sn_t1 cr_tuple T.n_tuple PyProof.Rows.boot_tuple (SimE.o (SimN.e (sn_lc (own := [("a", 12)]) rfl sc__law_braces.nd (sc_rng1 T.n_range se_int) (blkOk_by (by kernel_rfl)) (by decide) (fun _ _ _ _ _ => sg_name 12 sc__law_braces.nd) (fun _ _ _ _ _ => sts_nil) (fun _ _ _ _ _ => SimN.e (sn_t1 cr_tuple T.n_tuple PyProof.Rows.boot_tuple (SimE.o (SimN.e (sn_lc (own := [("b", 13)]) rfl sc__law_braces.nd (sc_rng1 T.n_range se_int) (blkOk_by (by kernel_rfl)) (by decide) (fun _ _ _ _ _ => sg_name 13 sc__law_braces.nd) (fun _ _ _ _ _ => sts_nil) (fun _ _ _ _ _ => SimN.e (sn_op opr_mod (SimE.o (SimN.e (sn_op opr_add (SimE.o (SimN.e (sn_op opr_add (so_var 12) (so_var 13)))) (SimE.o (SimN.e (sn_op opr_mul (SimE.o (SimN.e (sn_op opr_mul (SimE.o se_int) (so_var 12)))) (so_var 13))))))) (SimE.o se_int)))))))))))))
  (sb_cons (ss_set 3 sc__law_braces.nd (se_tup (sa_cons (se_tup (sa_cons se_int (sa_cons se_int (sa_cons se_int (sa_cons se_int sa_nil))))) (sa_cons (se_tup (sa_cons se_int (sa_cons se_int (sa_cons se_int (sa_cons se_int sa_nil))))) (sa_cons (se_tup (sa_cons se_int (sa_cons se_int (sa_cons se_int (sa_cons se_int sa_nil))))) (sa_cons (se_tup (sa_cons se_int (sa_cons se_int (sa_cons se_int (sa_cons se_int sa_nil))))) sa_nil))))))
  (sb_cons (ss_setN 4 sc__law_braces.nd (sn_t1 cr_tuple T.n_tuple PyProof.Rows.boot_tuple (SimE.o (SimN.e (sn_lc (own := [("a", 12)]) rfl sc__law_braces.nd (sc_rng1 T.n_range se_int) (blkOk_by (by kernel_rfl)) (by decide) (fun _ _ _ _ _ => sg_name 12 sc__law_braces.nd) (fun _ _ _ _ _ => sts_nil) (fun _ _ _ _ _ => SimN.e (sn_t1 cr_tuple T.n_tuple PyProof.Rows.boot_tuple (SimE.o (SimN.e (sn_lc (own := [("b", 13)]) rfl sc__law_braces.nd (sc_rng1 T.n_range se_int) (blkOk_by (by kernel_rfl)) (by decide) (fun _ _ _ _ _ => sg_name 13 sc__law_braces.nd) (fun _ _ _ _ _ => sts_nil) (fun _ _ _ _ _ => SimN.e (sn_op opr_mod (SimE.o (SimN.e (sn_op opr_add (so_var 12) (so_var 13)))) (SimE.o se_int)))))))))))))
  (sb_cons (ss_setN 5 sc__law_braces.nd (sn_t1 cr_tuple T.n_tuple PyProof.Rows.boot_tuple (SimE.o (SimN.e (sn_lc (own := [("a", 12)]) rfl sc__law_braces.nd (sc_rng1 T.n_range se_int) (blkOk_by (by kernel_rfl)) (by decide) (fun _ _ _ _ _ => sg_name 12 sc__law_braces.nd) (fun _ _ _ _ _ => sts_nil) (fun _ _ _ _ _ => SimN.e (sn_t1 cr_tuple T.n_tuple PyProof.Rows.boot_tuple (SimE.o (SimN.e (sn_lc (own := [("b", 13)]) rfl sc__law_braces.nd (sc_rng1 T.n_range se_int) (blkOk_by (by kernel_rfl)) (by decide) (fun _ _ _ _ _ => sg_name 13 sc__law_braces.nd) (fun _ _ _ _ _ => sts_nil) (fun _ _ _ _ _ => SimN.e (sn_op opr_mod (SimE.o (SimN.e (sn_op opr_add (so_var 12) (so_var 13)))) (SimE.o se_int)))))))))))))
  (sb_cons (ss_setN 6 sc__law_braces.nd (sn_t1 cr_tuple T.n_tuple PyProof.Rows.boot_tuple (SimE.o (SimN.e (sn_lc (own := [("a", 12)]) rfl sc__law_braces.nd (sc_rng1 T.n_range se_int) (blkOk_by (by kernel_rfl)) (by decide) (fun _ _ _ _ _ => sg_name 12 sc__law_braces.nd) (fun _ _ _ _ _ => sts_nil) (fun _ _ _ _ _ => SimN.e (sn_t1 cr_tuple T.n_tuple PyProof.Rows.boot_tuple (SimE.o (SimN.e (sn_lc (own := [("b", 13)]) rfl sc__law_braces.nd (sc_rng1 T.n_range se_int) (blkOk_by (by kernel_rfl)) (by decide) (fun _ _ _ _ _ => sg_name 13 sc__law_braces.nd) (fun _ _ _ _ _ => sts_nil) (fun _ _ _ _ _ => SimN.e (sn_op opr_mod (SimE.o (SimN.e (sn_op opr_add (so_var 12) (SimE.o (SimN.e (sn_op opr_mul (so_var 13) (SimE.o (SimN.e (sn_op opr_add (SimE.o se_int) (SimE.o (SimN.e (sn_op opr_mul (SimE.o (SimN.e (sn_op opr_mod (so_var 12) (SimE.o se_int)))) (SimE.o se_int))))))))))))) (SimE.o se_int)))))))))))))
  (sb_cons (ss_set 7 sc__law_braces.nd (se_tup (sa_cons (se_tup (sa_cons se_int (sa_cons se_int sa_nil))) (sa_cons (se_tup (sa_cons se_int (sa_cons se_int sa_nil))) sa_nil))))
  (sb_cons (ss_setN 8 sc__law_braces.nd (sn_t1 cr_tuple T.n_tuple PyProof.Rows.boot_tuple (SimE.o (SimN.e (sn_lc (own := [("a", 12)]) rfl sc__law_braces.nd (sc_rng1 T.n_range se_int) (blkOk_by (by kernel_rfl)) (by decide) (fun _ _ _ _ _ => sg_name 12 sc__law_braces.nd) (fun _ _ _ _ _ => sts_nil) (fun _ _ _ _ _ => SimN.e (sn_t1 cr_tuple T.n_tuple PyProof.Rows.boot_tuple (SimE.o (SimN.e (sn_lc (own := [("b", 13)]) rfl sc__law_braces.nd (sc_rng1 T.n_range se_int) (blkOk_by (by kernel_rfl)) (by decide) (fun _ _ _ _ _ => sg_name 13 sc__law_braces.nd) (fun _ _ _ _ _ => sts_nil) (fun _ _ _ _ _ => SimN.e (sn_op opr_mod (SimE.o (SimN.e (sn_op opr_add (so_var 12) (so_var 13)))) (SimE.o se_int)))))))))))))
  (sb_cons (ss_setN 9 sc__law_braces.nd (sn_t1 cr_tuple T.n_tuple PyProof.Rows.boot_tuple (SimE.o (SimN.e (sn_lc (own := [("a", 12)]) rfl sc__law_braces.nd (sc_rng1 T.n_range se_int) (blkOk_by (by kernel_rfl)) (by decide) (fun _ _ _ _ _ => sg_name 12 sc__law_braces.nd) (fun _ _ _ _ _ => sts_nil) (fun _ _ _ _ _ => SimN.e (sn_t1 cr_tuple T.n_tuple PyProof.Rows.boot_tuple (SimE.o (SimN.e (sn_lc (own := [("b", 13)]) rfl sc__law_braces.nd (sc_rng1 T.n_range se_int) (blkOk_by (by kernel_rfl)) (by decide) (fun _ _ _ _ _ => sg_name 13 sc__law_braces.nd) (fun _ _ _ _ _ => sts_nil) (fun _ _ _ _ _ => SimN.e (sn_op opr_mod (SimE.o (SimN.e (sn_op opr_add (SimE.o (SimN.e (sn_op opr_add (so_var 12) (so_var 13)))) (SimE.o (SimN.e (sn_op opr_mul (SimE.o (SimN.e (sn_op opr_mul (SimE.o se_int) (so_var 12)))) (so_var 13))))))) (SimE.o se_int)))))))))))))
  (sb_cons (ss_setN 10 sc__law_braces.nd (sn_t1 cr_tuple T.n_tuple PyProof.Rows.boot_tuple (SimE.o (SimN.e (sn_lc (own := [("a", 12)]) rfl sc__law_braces.nd (sc_rng1 T.n_range se_int) (blkOk_by (by kernel_rfl)) (by decide) (fun _ _ _ _ _ => sg_name 12 sc__law_braces.nd) (fun _ _ _ _ _ => sts_nil) (fun _ _ _ _ _ => SimN.e (sn_t1 cr_tuple T.n_tuple PyProof.Rows.boot_tuple (SimE.o (SimN.e (sn_lc (own := [("b", 13)]) rfl sc__law_braces.nd (sc_rng1 T.n_range se_int) (blkOk_by (by kernel_rfl)) (by decide) (fun _ _ _ _ _ => sg_name 13 sc__law_braces.nd) (fun _ _ _ _ _ => sts_nil) (fun _ _ _ _ _ => SimN.e (sn_op opr_mod (SimE.o (SimN.e (sn_op opr_add (so_var 12) (so_var 13)))) (SimE.o se_int)))))))))))))
  (sb_cons (ss_setN 11 sc__law_braces.nd (sn_t1 cr_tuple T.n_tuple PyProof.Rows.boot_tuple (SimE.o (SimN.e (sn_lc (own := [("a", 12)]) rfl sc__law_braces.nd (sc_rng1 T.n_range se_int) (blkOk_by (by kernel_rfl)) (by decide) (fun _ _ _ _ _ => sg_name 12 sc__law_braces.nd) (fun _ _ _ _ _ => sts_nil) (fun _ _ _ _ _ => SimN.e (sn_t1 cr_tuple T.n_tuple PyProof.Rows.boot_tuple (SimE.o (SimN.e (sn_lc (own := [("b", 13)]) rfl sc__law_braces.nd (sc_rng1 T.n_range se_int) (blkOk_by (by kernel_rfl)) (by decide) (fun _ _ _ _ _ => sg_name 13 sc__law_braces.nd) (fun _ _ _ _ _ => sts_nil) (fun _ _ _ _ _ => SimN.e (sn_op opr_mod (SimE.o (SimN.e (sn_op opr_add (SimE.o (SimN.e (sn_op opr_add (so_var 12) (so_var 13)))) (SimE.o (SimN.e (sn_op opr_mul (SimE.o (SimN.e (sn_op opr_mul (SimE.o se_int) (so_var 12)))) (so_var 13))))))) (SimE.o se_int)))))))))))))
  (sb_one (ss_ret (SimN.e (sn_lst (sa_cons (se_tup (sa_cons (se_tup (sa_cons (se_tup (sa_cons se_int sa_nil)) sa_nil)) (sa_cons (se_tup (sa_cons (se_tup (sa_cons se_int sa_nil)) sa_nil)) sa_nil))) (sa_cons (se_tup (sa_cons (se_var 7) (sa_cons (se_var 7) sa_nil))) (sa_cons (se_tup (sa_cons (se_var 4) (sa_cons (se_var 4) sa_nil))) (sa_cons (se_tup (sa_cons (se_var 1) (sa_cons (se_var 1) sa_nil))) (sa_cons (se_tup (sa_cons (se_var 1) (sa_cons (se_var 2) sa_nil))) (sa_cons (se_tup (sa_cons (se_var 0) (sa_cons (se_var 0) sa_nil))) (sa_cons (se_tup (sa_cons (se_var 1) (sa_cons (se_var 3) sa_nil))) (sa_cons (se_tup (sa_cons (se_var 5) (sa_cons (se_var 5) sa_nil))) (sa_cons (se_tup (sa_cons (se_var 5) (sa_cons (se_var 6) sa_nil))) (sa_cons (se_tup (sa_cons (se_var 8) (sa_cons (se_var 9) sa_nil))) (sa_cons (se_tup (sa_cons (se_var 10) (sa_cons (se_var 11) sa_nil))) sa_nil))))))))))))))))))))))))))
theorem sc__law_order : FnScope ["numbers", "at", "many", "left", "told", "k"] ["numbers", "at", "many"] (defScope (top 22)) := ⟨rfl, rfl, rfl, by decide +kernel, rfl, by decide +kernel, by decide +kernel⟩
theorem ok__law_order {f : Addr} {fd : FuncData} (T : Txt K mg) (F : Fun K "_law_order" "_law_order" (top 22) f fd) (hg : mg "_law_order" = some (.ref f)) (bf : Binds K fd ["numbers", "at", "many"] [])  : Fn P w K mg base 1 "_law_order" 3 f__law_order :=
  fn_ok (k := 0) F sc__law_order hg bf fun cdv A outer s H E hr tk hp => sb_cons (ss_setN 3 sc__law_order.nd (sn_listR1 rfl T.n_list T.n_range (se_var 2)))
  (sb_cons (ss_setN 4 sc__law_order.nd (sn_lst sa_nil))
  (sb_cons (ss_for [5] hp rfl (si_rng1 T.n_range (se_var 2)) (sg_name 5 sc__law_order.nd) (sb_one (ss_appPop 4 3 (SimN.e (sn_op opr_mod (SimE.o (SimN.e (sn_op opr_div (SimE.o (se_ix (hu1 hr) (so_var 0) (SimN.e (sn_op opr_mod (SimE.o (SimN.e (sn_op opr_add (so_var 1) (so_var 5)))) (SimE.o (SimN.e (sn_b1 cr_len T.n_len PySem.boot_len (so_var 0)))))))) (SimE.o (SimN.e (sn_op opr_add (so_var 5) (SimE.o se_int))))))) (SimE.o (SimN.e (sn_b1 cr_len T.n_len PySem.boot_len (so_var 3)))))))))
  (sb_one (ss_ret (SimN.e (sn_t1 cr_tuple T.n_tuple PyProof.Rows.boot_tuple (so_var 4)))))))
theorem sc__law_grids_renamed : FnScope ["grids", "names", "elder", "told", "grid", "rows", "a", "number", "b"] ["grids", "names"] (defScope (top 25)) := ⟨rfl, rfl, rfl, by decide +kernel, rfl, by decide +kernel, by decide +kernel⟩
theorem ok__law_grids_renamed {f : Addr} {fd : FuncData} (T : Txt K mg) (F : Fun K "_law_grids_renamed" "_law_grids_renamed" (top 25) f fd) (hg : mg "_law_grids_renamed" = some (.ref f)) (bf : Binds K fd ["grids", "names"] [])  : Fn P w K mg base 1 "_law_grids_renamed" 2 f__law_grids_renamed :=
  fn_ok (k := 0) F sc__law_grids_renamed hg bf fun cdv A outer s H E hr tk hp => sb_cons (ss_setN 2 sc__law_grids_renamed.nd (sn_lc (own := [("number", 7)]) rfl sc__law_grids_renamed.nd (sc_rng1 T.n_range (SimN.e (sn_b1 cr_len T.n_len PySem.boot_len (so_var 1)))) (blkOk_by (by kernel_rfl)) (by decide) (fun _ _ _ _ _ => sg_name 7 sc__law_grids_renamed.nd) (fun _ _ _ _ _ => sts_nil) (fun _ _ _ _ _ => SimN.e (sn_meth (mt_index (hu65 hr)) (so_var 1) (sa_cons (se_var 7) sa_nil)))))
  (sb_cons (ss_setN 3 sc__law_grids_renamed.nd (sn_lst sa_nil))
  (sb_cons (ss_for [4, 5, 6] hp rfl (si_seq (se_var 0)) (sg_name 4 sc__law_grids_renamed.nd) (sb_cons (ss_setN 5 sc__law_grids_renamed.nd (sn_lst sa_nil))
  (sb_cons (ss_for [6] hp rfl (si_rng1 T.n_range (SimN.e (sn_b1 cr_len T.n_len PySem.boot_len (so_var 1)))) (sg_name 6 sc__law_grids_renamed.nd) (sb_one (ss_app 5 (SimN.e (sn_t1 cr_tuple T.n_tuple PyProof.Rows.boot_tuple (SimE.o (SimN.e (sn_lc (own := [("b", 8)]) rfl sc__law_grids_renamed.nd (sc_rng1 T.n_range (SimN.e (sn_b1 cr_len T.n_len PySem.boot_len (so_var 1)))) (blkOk_by (by kernel_rfl)) (by decide) (fun _ _ _ _ _ => sg_name 8 sc__law_grids_renamed.nd) (fun _ _ _ _ _ => sts_nil) (fun _ _ _ _ _ => se_ix (hu1 hr) (so_var 1) (se_ix (hu1 hr) (SimE.o (se_ix (hu1 hr) (so_var 4) (se_ix (hu1 hr) (so_var 2) (se_var 6)))) (se_ix (hu1 hr) (so_var 2) (se_var 8))))))))))))
  (sb_one (ss_app 3 (SimN.e (sn_t1 cr_tuple T.n_tuple PyProof.Rows.boot_tuple (so_var 5))))))))
  (sb_one (ss_ret (SimN.e (sn_t1 cr_tuple T.n_tuple PyProof.Rows.boot_tuple (so_var 3)))))))
theorem sc__law_brace : FnScope ["numbers", "menu", "grids", "names", "number"] ["numbers"] (defScope (top 26)) := ⟨rfl, rfl, rfl, by decide +kernel, rfl, by decide +kernel, by decide +kernel⟩
theorem ok__law_brace {f : Addr} {fd : FuncData} (T : Txt K mg) (F : Fun K "_law_brace" "_law_brace" (top 26) f fd) (hg : mg "_law_brace" = some (.ref f)) (bf : Binds K fd ["numbers"] []) (G__law_braces : Fn P w K mg base 1 "_law_braces" 0 f__law_braces) (G__law_order : Fn P w K mg base 1 "_law_order" 3 f__law_order) (G__law_grids_renamed : Fn P w K mg base 1 "_law_grids_renamed" 2 f__law_grids_renamed) : Fn P w K mg base 2 "_law_brace" 1 f__law_brace :=
  fn_ok (k := 1) F sc__law_brace hg bf fun cdv A outer s H E hr tk hp => sb_cons (ss_set 1 sc__law_brace.nd (se_call0 G__law_braces (hr.mono (by decide)) tk))
  (sb_cons (ss_set 2 sc__law_brace.nd (se_ix (hu1 hr) (so_var 1) (SimN.e (sn_op opr_mod (SimE.o (se_ix (hu1 hr) (so_var 0) se_int)) (SimE.o (SimN.e (sn_b1 cr_len T.n_len PySem.boot_len (so_var 1))))))))
  (sb_cons (ss_setN 3 sc__law_brace.nd (sn_op opr_add (SimE.o (se_tup (sa_cons se_int sa_nil))) (SimE.o (SimN.e (sn_t1 cr_tuple T.n_tuple PyProof.Rows.boot_tuple (SimE.o (SimN.e (sn_lc (own := [("number", 4)]) rfl sc__law_brace.nd (sc_seq (SimE.o (se_call G__law_order (hr.mono (by decide)) tk (sa_cons (se_var 0) (sa_cons se_int (sa_cons (SimN.e (sn_op opr_sub (SimE.o (SimN.e (sn_b1 cr_len T.n_len PySem.boot_len (SimE.o (se_ix (hu1 hr) (so_var 2) se_int))))) (SimE.o se_int))) sa_nil)))))) (blkOk_by (by kernel_rfl)) (by decide) (fun _ _ _ _ _ => sg_name 4 sc__law_brace.nd) (fun _ _ _ _ _ => sts_nil) (fun _ _ _ _ _ => SimN.e (sn_op opr_add (SimE.o se_int) (so_var 4)))))))))))
  (sb_one (ss_ret (se_call G__law_grids_renamed (hr.mono (by decide)) tk (sa_cons (se_var 2) (sa_cons (se_var 3) sa_nil)))))))
theorem sc__law_is_number : FnScope ["thing"] ["thing"] (defScope (top 19)) := ⟨rfl, rfl, rfl, by decide +kernel, rfl, by decide +kernel, by decide +kernel⟩
theorem ok__law_is_number {f : Addr} {fd : FuncData} (T : Txt K mg) (F : Fun K "_law_is_number" "_law_is_number" (top 19) f fd) (hg : mg "_law_is_number" = some (.ref f)) (bf : Binds K fd ["thing"] [])  : Fn P w K mg base 1 "_law_is_number" 1 f__law_is_number :=
  fn_ok (k := 0) F sc__law_is_number hg bf fun cdv A outer s H E hr tk hp => sb_one (ss_ret (se_and (se_isi (T := "int") kit_int T.n_isinstance T.n_int PyProof.Rows.boot_int (so_var 0)) (se_and (se_not (se_isi (T := "bool") kit_bool T.n_isinstance T.n_bool PyProof.Rows.boot_bool (so_var 0))) (se_one (se_cmp opr_ge (so_var 0) (SimE.o se_int))))))
theorem sc__law_is_row : FnScope ["thing", "many", "bound", "number"] ["thing", "many", "bound"] (defScope (top 21)) := ⟨rfl, rfl, rfl, by decide +kernel, rfl, by decide +kernel, by decide +kernel⟩
theorem ok__law_is_row {f : Addr} {fd : FuncData} (T : Txt K mg) (F : Fun K "_law_is_row" "_law_is_row" (top 21) f fd) (hg : mg "_law_is_row" = some (.ref f)) (bf : Binds K fd ["thing", "many", "bound"] []) (G__law_is_number : Fn P w K mg base 1 "_law_is_number" 1 f__law_is_number) : Fn P w K mg base 2 "_law_is_row" 3 f__law_is_row :=
  fn_ok (k := 1) F sc__law_is_row hg bf fun cdv A outer s H E hr tk hp => sb_cons (ss_if (SimW.test (sw_or (st_not (st_tru (SimE.o (se_isi (T := "tuple") kit_tuple T.n_isinstance T.n_tuple PyProof.Rows.boot_tuple (so_var 0))))) (sw_or1 (st_cmp (opr_ne (hu64 hr)) (SimE.o (SimN.e (sn_b1 cr_len T.n_len PySem.boot_len (so_var 0)))) (so_var 1))))) (sb_one (ss_ret se_bl)) sb_nil)
  (sb_one (ss_ret (SimN.e (sn_b1 (cr_all' rfl) T.n_all PyProof.Rows.boot_all (SimE.o (SimN.e (sn_lc (own := [("number", 3)]) rfl sc__law_is_row.nd (sc_seq (so_var 0)) (blkOk_by (by kernel_rfl)) (by decide) (fun _ _ _ _ _ => sg_name 3 sc__law_is_row.nd) (fun _ _ _ _ _ => sts_nil) (fun _ _ _ _ _ => se_and (se_call G__law_is_number (hr.mono (by decide)) takes0 (sa_cons (se_var 3) sa_nil)) (se_one (se_cmp opr_lt (so_var 3) (so_var 2)))))))))))
theorem sc__law_all_rows : FnScope ["many", "kinds", "told", "turn", "longer", "row", "hat"] ["many", "kinds"] (defScope (top 23)) := ⟨rfl, rfl, rfl, by decide +kernel, rfl, by decide +kernel, by decide +kernel⟩
theorem ok__law_all_rows {f : Addr} {fd : FuncData} (T : Txt K mg) (F : Fun K "_law_all_rows" "_law_all_rows" (top 23) f fd) (hg : mg "_law_all_rows" = some (.ref f)) (bf : Binds K fd ["many", "kinds"] [])  : Fn P w K mg base 1 "_law_all_rows" 2 f__law_all_rows :=
  fn_ok (k := 0) F sc__law_all_rows hg bf fun cdv A outer s H E hr tk hp => sb_cons (ss_setN 2 sc__law_all_rows.nd (sn_lst (sa_cons (se_tup sa_nil) sa_nil)))
  (sb_cons (ss_for [3, 4, 5] hp rfl (si_rng1 T.n_range (se_var 0)) (sg_name 3 sc__law_all_rows.nd) (sb_cons (ss_setN 4 sc__law_all_rows.nd (sn_lst sa_nil))
  (sb_cons (ss_frz [2] (ss_for [5] hp rfl (si_seq (se_var 2)) (sg_name 5 sc__law_all_rows.nd) (sb_one (ss_setN 4 sc__law_all_rows.nd (sn_op opr_add (so_var 4) (SimE.o (SimN.e (sn_lc (own := [("hat", 6)]) rfl sc__law_all_rows.nd (sc_rng1 T.n_range (se_var 1)) (blkOk_by (by kernel_rfl)) (by decide) (fun _ _ _ _ _ => sg_name 6 sc__law_all_rows.nd) (fun _ _ _ _ _ => sts_nil) (fun _ _ _ _ _ => SimN.e (sn_op opr_add (so_var 5) (SimE.o (se_tup (sa_cons (se_var 6) sa_nil)))))))))))))
  (sb_one (ss_frz [4] (ss_set 2 sc__law_all_rows.nd (se_var 4)))))))
  (sb_one (ss_frz [2] (ss_ret (se_var 2)))))
theorem sc__law_group_at : FnScope ["grid", "a", "b", "c"] ["grid", "a", "b", "c"] (defScope (top 27)) := ⟨rfl, rfl, rfl, by decide +kernel, rfl, by decide +kernel, by decide +kernel⟩
theorem ok__law_group_at {f : Addr} {fd : FuncData} (T : Txt K mg) (F : Fun K "_law_group_at" "_law_group_at" (top 27) f fd) (hg : mg "_law_group_at" = some (.ref f)) (bf : Binds K fd ["grid", "a", "b", "c"] [])  : Fn P w K mg base 1 "_law_group_at" 4 f__law_group_at :=
  fn_ok (k := 0) F sc__law_group_at hg bf fun cdv A outer s H E hr tk hp => sb_cons (ss_if (st_cmp (opr_ne (hu64 hr)) (SimE.o (se_ix (hu1 hr) (SimE.o (se_ix (hu1 hr) (so_var 0) (se_var 1))) (se_ix (hu1 hr) (SimE.o (se_ix (hu1 hr) (so_var 0) (se_var 2))) (se_var 3)))) (SimE.o (se_ix (hu1 hr) (SimE.o (se_ix (hu1 hr) (so_var 0) (se_ix (hu1 hr) (SimE.o (se_ix (hu1 hr) (so_var 0) (se_var 1))) (se_var 2)))) (se_var 3)))) (sb_one (ss_ret se_bl)) sb_nil)
  (sb_one (ss_ret (se_and (se_cmp (opr_eq (hu64 hr)) (SimE.o (se_ix (hu1 hr) (SimE.o (se_ix (hu1 hr) (so_var 0) se_int)) (se_var 1))) (so_var 1)) (se_one (se_cmp (opr_in (hu65 hr)) (SimE.o se_int) (SimE.o (se_ix (hu1 hr) (so_var 0) (se_var 1))))))))
theorem sc__law_fault : FnScope ["thing", "many", "grid", "sums", "times", "a", "b", "c", "less", "row"] ["thing"] (defScope (top 28)) := ⟨rfl, rfl, rfl, by decide +kernel, rfl, by decide +kernel, by decide +kernel⟩
theorem ok__law_fault {f : Addr} {fd : FuncData} (T : Txt K mg) (F : Fun K "_law_fault" "_law_fault" (top 28) f fd) (hg : mg "_law_fault" = some (.ref f)) (bf : Binds K fd ["thing"] []) (G__law_is_row : Fn P w K mg base 2 "_law_is_row" 3 f__law_is_row) (G__law_all_rows : Fn P w K mg base 1 "_law_all_rows" 2 f__law_all_rows) (G__law_group_at : Fn P w K mg base 1 "_law_group_at" 4 f__law_group_at) : Fn P w K mg base 3 "_law_fault" 1 f__law_fault :=
  fn_ok (k := 2) F sc__law_fault hg bf fun cdv A outer s H E hr tk hp => sb_cons (ss_if (SimW.test (sw_or (st_not (st_tru (SimE.o (se_isi (T := "tuple") kit_tuple T.n_isinstance T.n_tuple PyProof.Rows.boot_tuple (so_var 0))))) (sw_or (st_cmp (opr_ne (hu64 hr)) (SimE.o (SimN.e (sn_b1 cr_len T.n_len PySem.boot_len (so_var 0)))) (SimE.o se_int)) (sw_or1 (st_not (st_tru (SimE.o (se_isi (T := "tuple") kit_tuple T.n_isinstance T.n_tuple PyProof.Rows.boot_tuple (SimE.o (se_ix (hu1 hr) (so_var 0) se_int)))))))))) (sb_one (ss_ret (se_tup (sa_cons se_str sa_nil)))) sb_nil)
  (sb_cons (ss_setN 1 sc__law_fault.nd (sn_b1 cr_len T.n_len PySem.boot_len (SimE.o (se_ix (hu1 hr) (so_var 0) se_int))))
  (sb_cons (ss_if (SimW.test (sw_or (st_cmp opr_lt (so_var 1) (SimE.o se_int)) (sw_or1 (st_cmp opr_gt (so_var 1) (SimE.o se_int))))) (sb_one (ss_ret (se_tup (sa_cons se_str sa_nil)))) sb_nil)
  (sb_cons (ss_for [2] hp rfl (si_seq (se_var 0)) (sg_name 2 sc__law_fault.nd) (sb_cons (ss_if (SimW.test (sw_or (st_not (st_tru (SimE.o (se_isi (T := "tuple") kit_tuple T.n_isinstance T.n_tuple PyProof.Rows.boot_tuple (so_var 2))))) (sw_or1 (st_cmp (opr_ne (hu64 hr)) (SimE.o (SimN.e (sn_b1 cr_len T.n_len PySem.boot_len (so_var 2)))) (so_var 1))))) (sb_one (ss_ret (se_tup (sa_cons se_str sa_nil)))) sb_nil)
  (sb_one (ss_if (st_cmp (opr_ne (hu64 hr)) (SimE.o (SimN.e (sn_lc (own := [("row", 9)]) rfl sc__law_fault.nd (sc_seq (so_var 2)) (blkOk_by (by kernel_rfl)) (by decide) (fun _ _ _ _ _ => sg_name 9 sc__law_fault.nd) (fun _ _ _ _ _ => sts_one (st_not (st_tru (SimE.o (se_call G__law_is_row (hr.mono (by decide)) takes0 (sa_cons (se_var 9) (sa_cons (se_var 1) (sa_cons (se_var 1) sa_nil)))))))) (fun _ _ _ _ _ => se_var 9)))) (SimE.o (SimN.e (sn_lst sa_nil)))) (sb_one (ss_ret (se_tup (sa_cons se_str sa_nil)))) sb_nil))))
  (sb_cons (ss_asg (se_var 0) (sg_tup (n := 2) rfl (sgs_cons (sg_name 3 sc__law_fault.nd) (sgs_cons (sg_name 4 sc__law_fault.nd) sgs_nil)) gt2_len))
  (sb_cons (ss_for [5, 6, 7] hp rfl (si_seq (se_call G__law_all_rows (hr.mono (by decide)) tk (sa_cons se_int (sa_cons (se_var 1) sa_nil)))) (sg_tup (n := 3) rfl (sgs_cons (sg_name 5 sc__law_fault.nd) (sgs_cons (sg_name 6 sc__law_fault.nd) (sgs_cons (sg_name 7 sc__law_fault.nd) sgs_nil))) gt3_len) (sb_one (ss_if (SimW.test (sw_or (st_not (st_tru (SimE.o (se_call G__law_group_at (hr.mono (by decide)) tk (sa_cons (se_var 3) (sa_cons (se_var 5) (sa_cons (se_var 6) (sa_cons (se_var 7) sa_nil)))))))) (sw_or1 (st_cmp (opr_ne (hu64 hr)) (SimE.o (se_ix (hu1 hr) (SimE.o (se_ix (hu1 hr) (so_var 3) (se_var 5))) (se_var 6))) (SimE.o (se_ix (hu1 hr) (SimE.o (se_ix (hu1 hr) (so_var 3) (se_var 6))) (se_var 5))))))) (sb_one (ss_ret (se_tup (sa_cons se_str (sa_cons (se_var 5) (sa_cons (se_var 6) (sa_cons (se_var 7) sa_nil))))))) sb_nil)))
  (sb_cons (ss_for [5, 6, 7] hp rfl (si_seq (se_call G__law_all_rows (hr.mono (by decide)) tk (sa_cons se_int (sa_cons (se_var 1) sa_nil)))) (sg_tup (n := 3) rfl (sgs_cons (sg_name 5 sc__law_fault.nd) (sgs_cons (sg_name 6 sc__law_fault.nd) (sgs_cons (sg_name 7 sc__law_fault.nd) sgs_nil))) gt3_len) (sb_one (ss_if (st_not (st_tru (SimE.o (se_call G__law_group_at (hr.mono (by decide)) tk (sa_cons (se_var 4) (sa_cons (se_var 5) (sa_cons (se_var 6) (sa_cons (se_var 7) sa_nil)))))))) (sb_one (ss_ret (se_tup (sa_cons se_str (sa_cons (se_var 5) (sa_cons (se_var 6) (sa_cons (se_var 7) sa_nil))))))) sb_nil)))
  (sb_cons (ss_for [5, 6, 7, 8] hp rfl (si_seq (se_call G__law_all_rows (hr.mono (by decide)) tk (sa_cons se_int (sa_cons (se_var 1) sa_nil)))) (sg_tup (n := 3) rfl (sgs_cons (sg_name 5 sc__law_fault.nd) (sgs_cons (sg_name 6 sc__law_fault.nd) (sgs_cons (sg_name 7 sc__law_fault.nd) sgs_nil))) gt3_len) (sb_cons (ss_setN 8 sc__law_fault.nd (sn_meth (mt_index (hu65 hr)) (SimE.o (se_ix (hu1 hr) (so_var 3) (se_var 5))) (sa_cons se_int sa_nil)))
  (sb_one (ss_if (st_cmp (opr_ne (hu64 hr)) (SimE.o (se_ix (hu1 hr) (SimE.o (se_ix (hu1 hr) (so_var 4) (se_var 5))) (se_ix (hu1 hr) (SimE.o (se_ix (hu1 hr) (so_var 3) (se_var 6))) (se_var 7)))) (SimE.o (se_ix (hu1 hr) (SimE.o (se_ix (hu1 hr) (so_var 3) (se_ix (hu1 hr) (SimE.o (se_ix (hu1 hr) (so_var 4) (se_var 5))) (se_var 6)))) (se_ix (hu1 hr) (SimE.o (se_ix (hu1 hr) (so_var 3) (se_var 8))) (se_ix (hu1 hr) (SimE.o (se_ix (hu1 hr) (so_var 4) (se_var 5))) (se_var 7)))))) (sb_one (ss_ret (se_tup (sa_cons se_str (sa_cons (se_var 5) (sa_cons (se_var 6) (sa_cons (se_var 7) sa_nil))))))) sb_nil))))
  (sb_one (ss_ret se_non)))))))))
theorem sc_is_whole : FnScope ["thing"] ["thing"] (defScope (top 1)) := ⟨rfl, rfl, rfl, by decide +kernel, rfl, by decide +kernel, by decide +kernel⟩
theorem ok_is_whole {f : Addr} {fd : FuncData} (T : Txt K mg) (F : Fun K "is_whole" "is_whole" (top 1) f fd) (hg : mg "is_whole" = some (.ref f)) (bf : Binds K fd ["thing"] [])  : Fn P w K mg base 1 "is_whole" 1 f_is_whole :=
  fn_ok (k := 0) F sc_is_whole hg bf fun cdv A outer s H E hr tk hp => sb_one (ss_ret (se_and (se_isi (T := "int") kit_int T.n_isinstance T.n_int PyProof.Rows.boot_int (so_var 0)) (se_one (se_not (se_isi (T := "bool") kit_bool T.n_isinstance T.n_bool PyProof.Rows.boot_bool (so_var 0))))))
theorem sc_is_below : FnScope ["thing", "bound"] ["thing", "bound"] (defScope (top 2)) := ⟨rfl, rfl, rfl, by decide +kernel, rfl, by decide +kernel, by decide +kernel⟩
theorem ok_is_below {f : Addr} {fd : FuncData} (T : Txt K mg) (F : Fun K "is_below" "is_below" (top 2) f fd) (hg : mg "is_below" = some (.ref f)) (bf : Binds K fd ["thing", "bound"] []) (G_is_whole : Fn P w K mg base 1 "is_whole" 1 f_is_whole) : Fn P w K mg base 2 "is_below" 2 f_is_below :=
  fn_ok (k := 1) F sc_is_below hg bf fun cdv A outer s H E hr tk hp => sb_one (ss_ret (se_and (se_call G_is_whole (hr.mono (by decide)) tk (sa_cons (se_var 0) sa_nil)) (se_one (se_chain opr_le opr_lt (SimE.o se_int) (so_var 0) (so_var 1)))))
theorem sc_are_below : FnScope ["thing", "many", "bound", "number"] ["thing", "many", "bound"] (defScope (top 3)) := ⟨rfl, rfl, rfl, by decide +kernel, rfl, by decide +kernel, by decide +kernel⟩
theorem ok_are_below {f : Addr} {fd : FuncData} (T : Txt K mg) (F : Fun K "are_below" "are_below" (top 3) f fd) (hg : mg "are_below" = some (.ref f)) (bf : Binds K fd ["thing", "many", "bound"] []) (G_is_below : Fn P w K mg base 2 "is_below" 2 f_is_below) : Fn P w K mg base 3 "are_below" 3 f_are_below :=
  fn_ok (k := 2) F sc_are_below hg bf fun cdv A outer s H E hr tk hp => sb_cons (ss_if (SimW.test (sw_or (st_not (st_tru (SimE.o (se_isi (T := "tuple") kit_tuple T.n_isinstance T.n_tuple PyProof.Rows.boot_tuple (so_var 0))))) (sw_or1 (st_cmp (opr_ne (hu64 hr)) (SimE.o (SimN.e (sn_b1 cr_len T.n_len PySem.boot_len (so_var 0)))) (so_var 1))))) (sb_one (ss_ret se_bl)) sb_nil)
  (sb_one (ss_ret (SimN.e (sn_b1 (cr_all' rfl) T.n_all PyProof.Rows.boot_all (SimE.o (SimN.e (sn_lc (own := [("number", 3)]) rfl sc_are_below.nd (sc_seq (so_var 0)) (blkOk_by (by kernel_rfl)) (by decide) (fun _ _ _ _ _ => sg_name 3 sc_are_below.nd) (fun _ _ _ _ _ => sts_nil) (fun _ _ _ _ _ => se_call G_is_below (hr.mono (by decide)) takes0 (sa_cons (se_var 3) (sa_cons (se_var 2) sa_nil))))))))))
theorem sc_is_grid : FnScope ["thing", "many", "row"] ["thing", "many"] (defScope (top 7)) := ⟨rfl, rfl, rfl, by decide +kernel, rfl, by decide +kernel, by decide +kernel⟩
theorem ok_is_grid {f : Addr} {fd : FuncData} (T : Txt K mg) (F : Fun K "is_grid" "is_grid" (top 7) f fd) (hg : mg "is_grid" = some (.ref f)) (bf : Binds K fd ["thing", "many"] []) (G_are_below : Fn P w K mg base 3 "are_below" 3 f_are_below) : Fn P w K mg base 4 "is_grid" 2 f_is_grid :=
  fn_ok (k := 3) F sc_is_grid hg bf fun cdv A outer s H E hr tk hp => sb_one (ss_ret (se_and (se_isi (T := "tuple") kit_tuple T.n_isinstance T.n_tuple PyProof.Rows.boot_tuple (so_var 0)) (se_and (se_cmp (opr_eq (hu64 hr)) (SimE.o (SimN.e (sn_b1 cr_len T.n_len PySem.boot_len (so_var 0)))) (so_var 1)) (se_one (SimN.e (sn_b1 (cr_all' rfl) T.n_all PyProof.Rows.boot_all (SimE.o (SimN.e (sn_lc (own := [("row", 2)]) rfl sc_is_grid.nd (sc_seq (so_var 0)) (blkOk_by (by kernel_rfl)) (by decide) (fun _ _ _ _ _ => sg_name 2 sc_is_grid.nd) (fun _ _ _ _ _ => sts_nil) (fun _ _ _ _ _ => se_call G_are_below (hr.mono (by decide)) takes0 (sa_cons (se_var 2) (sa_cons (se_var 1) (sa_cons (se_var 1) sa_nil)))))))))))))
theorem sc_are_grids : FnScope ["thing", "many"] ["thing"] (defScope (top 8)) := ⟨rfl, rfl, rfl, by decide +kernel, rfl, by decide +kernel, by decide +kernel⟩
theorem ok_are_grids {f : Addr} {fd : FuncData} (T : Txt K mg) (F : Fun K "are_grids" "are_grids" (top 8) f fd) (hg : mg "are_grids" = some (.ref f)) (bf : Binds K fd ["thing"] []) (G_is_grid : Fn P w K mg base 4 "is_grid" 2 f_is_grid) : Fn P w K mg base 5 "are_grids" 1 f_are_grids :=
  fn_ok (k := 4) F sc_are_grids hg bf fun cdv A outer s H E hr tk hp => sb_cons (ss_if (SimW.test (sw_or (st_not (st_tru (SimE.o (se_isi (T := "tuple") kit_tuple T.n_isinstance T.n_tuple PyProof.Rows.boot_tuple (so_var 0))))) (sw_or (st_cmp (opr_ne (hu64 hr)) (SimE.o (SimN.e (sn_b1 cr_len T.n_len PySem.boot_len (so_var 0)))) (SimE.o se_int)) (sw_or1 (st_not (st_tru (SimE.o (se_isi (T := "tuple") kit_tuple T.n_isinstance T.n_tuple PyProof.Rows.boot_tuple (SimE.o (se_ix (hu1 hr) (so_var 0) se_int)))))))))) (sb_one (ss_ret se_bl)) sb_nil)
  (sb_cons (ss_setN 1 sc_are_grids.nd (sn_b1 cr_len T.n_len PySem.boot_len (SimE.o (se_ix (hu1 hr) (so_var 0) se_int))))
  (sb_one (ss_ret (se_and (se_chain opr_le opr_le (SimE.o se_int) (so_var 1) (SimE.o (let ⟨_, hc⟩ := T.c_MOST_NUMBERS; se_glob hc ⟨_, rfl⟩))) (se_and (se_call G_is_grid (hr.mono (by decide)) tk (sa_cons (se_ix (hu1 hr) (so_var 0) se_int) (sa_cons (se_var 1) sa_nil))) (se_one (se_call G_is_grid (hr.mono (by decide)) tk (sa_cons (se_ix (hu1 hr) (so_var 0) se_int) (sa_cons (se_var 1) sa_nil)))))))))
theorem sc_all_tuples : FnScope ["many", "bound", "found", "turn", "row", "number"] ["many", "bound"] (defScope (top 4)) := ⟨rfl, rfl, rfl, by decide +kernel, rfl, by decide +kernel, by decide +kernel⟩
theorem ok_all_tuples {f : Addr} {fd : FuncData} (T : Txt K mg) (F : Fun K "all_tuples" "all_tuples" (top 4) f fd) (hg : mg "all_tuples" = some (.ref f)) (bf : Binds K fd ["many", "bound"] [])  : Fn P w K mg base 1 "all_tuples" 2 f_all_tuples :=
  fn_ok (k := 0) F sc_all_tuples hg bf fun cdv A outer s H E hr tk hp => sb_cons (ss_setN 2 sc_all_tuples.nd (sn_lst (sa_cons (se_tup sa_nil) sa_nil)))
  (sb_cons (ss_for [3] hp rfl (si_rng1 T.n_range (se_var 0)) (sg_name 3 sc_all_tuples.nd) (sb_one (ss_setLc2 2 (own := [("row", 4), ("number", 5)]) (vs1 := [5]) rfl sc_all_tuples.nd rfl (sc_seq (so_var 2)) (blkOk_by (by kernel_rfl)) (by decide) (by decide) (by decide) (ownLe_N _) (fun _ _ _ _ _ => sg_name 4 sc_all_tuples.nd) (fun _ _ _ _ _ => si_rng1 T.n_range (se_var 1)) (fun _ _ _ _ _ => sg_name 5 sc_all_tuples.nd) (fun _ _ _ _ _ => sts_nil) (fun _ _ _ _ _ => SimN.e (sn_op opr_add (so_var 4) (SimE.o (se_tup (sa_cons (se_var 5) sa_nil))))))))
  (sb_one (ss_frz [2] (ss_ret (se_var 2)))))
theorem sc_is_group_at : FnScope ["grid", "a", "b", "c"] ["grid", "a", "b", "c"] (defScope (top 9)) := ⟨rfl, rfl, rfl, by decide +kernel, rfl, by decide +kernel, by decide +kernel⟩
theorem ok_is_group_at {f : Addr} {fd : FuncData} (T : Txt K mg) (F : Fun K "is_group_at" "is_group_at" (top 9) f fd) (hg : mg "is_group_at" = some (.ref f)) (bf : Binds K fd ["grid", "a", "b", "c"] [])  : Fn P w K mg base 1 "is_group_at" 4 f_is_group_at :=
  fn_ok (k := 0) F sc_is_group_at hg bf fun cdv A outer s H E hr tk hp => sb_one (ss_ret (se_and (se_cmp (opr_eq (hu64 hr)) (SimE.o (se_ix (hu1 hr) (SimE.o (se_ix (hu1 hr) (so_var 0) (se_var 1))) (se_ix (hu1 hr) (SimE.o (se_ix (hu1 hr) (so_var 0) (se_var 2))) (se_var 3)))) (SimE.o (se_ix (hu1 hr) (SimE.o (se_ix (hu1 hr) (so_var 0) (se_ix (hu1 hr) (SimE.o (se_ix (hu1 hr) (so_var 0) (se_var 1))) (se_var 2)))) (se_var 3)))) (se_and (se_cmp (opr_eq (hu64 hr)) (SimE.o (se_ix (hu1 hr) (SimE.o (se_ix (hu1 hr) (so_var 0) se_int)) (se_var 1))) (so_var 1)) (se_one (se_cmp (opr_in (hu65 hr)) (SimE.o se_int) (SimE.o (se_ix (hu1 hr) (so_var 0) (se_var 1))))))))
theorem sc_group_break : FnScope ["grid", "is_turned", "a", "b", "c"] ["grid", "is_turned"] (defScope (top 10)) := ⟨rfl, rfl, rfl, by decide +kernel, rfl, by decide +kernel, by decide +kernel⟩
theorem ok_group_break {f : Addr} {fd : FuncData} (T : Txt K mg) (F : Fun K "group_break" "group_break" (top 10) f fd) (hg : mg "group_break" = some (.ref f)) (bf : Binds K fd ["grid", "is_turned"] []) (G_all_tuples : Fn P w K mg base 1 "all_tuples" 2 f_all_tuples) (G_is_group_at : Fn P w K mg base 1 "is_group_at" 4 f_is_group_at) : Fn P w K mg base 2 "group_break" 2 f_group_break :=
  fn_ok (k := 1) F sc_group_break hg bf fun cdv A outer s H E hr tk hp => sb_cons (ss_for [2, 3, 4] hp rfl (si_seq (se_call G_all_tuples (hr.mono (by decide)) tk (sa_cons se_int (sa_cons (SimN.e (sn_b1 cr_len T.n_len PySem.boot_len (so_var 0))) sa_nil)))) (sg_tup (n := 3) rfl (sgs_cons (sg_name 2 sc_group_break.nd) (sgs_cons (sg_name 3 sc_group_break.nd) (sgs_cons (sg_name 4 sc_group_break.nd) sgs_nil))) gt3_len) (sb_one (ss_if (SimW.test (sw_or (st_not (st_tru (SimE.o (se_call G_is_group_at (hr.mono (by decide)) tk (sa_cons (se_var 0) (sa_cons (se_var 2) (sa_cons (se_var 3) (sa_cons (se_var 4) sa_nil)))))))) (sw_or1 (SimW.test (sw_and (st_tru (so_var 1)) (sw_and1 (st_cmp (opr_ne (hu64 hr)) (SimE.o (se_ix (hu1 hr) (SimE.o (se_ix (hu1 hr) (so_var 0) (se_var 2))) (se_var 3))) (SimE.o (se_ix (hu1 hr) (SimE.o (se_ix (hu1 hr) (so_var 0) (se_var 3))) (se_var 2)))))))))) (sb_one (ss_ret (se_tup (sa_cons (se_var 2) (sa_cons (se_var 3) (sa_cons (se_var 4) sa_nil)))))) sb_nil)))
  (sb_one (ss_ret se_non))
theorem sc_minus : FnScope ["sums", "a"] ["sums", "a"] (defScope (top 11)) := ⟨rfl, rfl, rfl, by decide +kernel, rfl, by decide +kernel, by decide +kernel⟩
theorem ok_minus {f : Addr} {fd : FuncData} (T : Txt K mg) (F : Fun K "minus" "minus" (top 11) f fd) (hg : mg "minus" = some (.ref f)) (bf : Binds K fd ["sums", "a"] [])  : Fn P w K mg base 1 "minus" 2 f_minus :=
  fn_ok (k := 0) F sc_minus hg bf fun cdv A outer s H E hr tk hp => sb_one (ss_ret (SimN.e (sn_meth (mt_index (hu65 hr)) (SimE.o (se_ix (hu1 hr) (so_var 0) (se_var 1))) (sa_cons se_int sa_nil))))
theorem sc_joint_break : FnScope ["brace", "sums", "times", "a", "b", "c"] ["brace"] (defScope (top 12)) := ⟨rfl, rfl, rfl, by decide +kernel, rfl, by decide +kernel, by decide +kernel⟩
theorem ok_joint_break {f : Addr} {fd : FuncData} (T : Txt K mg) (F : Fun K "joint_break" "joint_break" (top 12) f fd) (hg : mg "joint_break" = some (.ref f)) (bf : Binds K fd ["brace"] []) (G_all_tuples : Fn P w K mg base 1 "all_tuples" 2 f_all_tuples) (G_minus : Fn P w K mg base 1 "minus" 2 f_minus) : Fn P w K mg base 2 "joint_break" 1 f_joint_break :=
  fn_ok (k := 1) F sc_joint_break hg bf fun cdv A outer s H E hr tk hp => sb_cons (ss_asg (se_var 0) (sg_tup (n := 2) rfl (sgs_cons (sg_name 1 sc_joint_break.nd) (sgs_cons (sg_name 2 sc_joint_break.nd) sgs_nil)) gt2_len))
  (sb_cons (ss_for [3, 4, 5] hp rfl (si_seq (se_call G_all_tuples (hr.mono (by decide)) tk (sa_cons se_int (sa_cons (SimN.e (sn_b1 cr_len T.n_len PySem.boot_len (so_var 1))) sa_nil)))) (sg_tup (n := 3) rfl (sgs_cons (sg_name 3 sc_joint_break.nd) (sgs_cons (sg_name 4 sc_joint_break.nd) (sgs_cons (sg_name 5 sc_joint_break.nd) sgs_nil))) gt3_len) (sb_one (ss_if (st_cmp (opr_ne (hu64 hr)) (SimE.o (se_ix (hu1 hr) (SimE.o (se_ix (hu1 hr) (so_var 2) (se_var 3))) (se_ix (hu1 hr) (SimE.o (se_ix (hu1 hr) (so_var 1) (se_var 4))) (se_var 5)))) (SimE.o (se_ix (hu1 hr) (SimE.o (se_ix (hu1 hr) (so_var 1) (se_ix (hu1 hr) (SimE.o (se_ix (hu1 hr) (so_var 2) (se_var 3))) (se_var 4)))) (se_ix (hu1 hr) (SimE.o (se_ix (hu1 hr) (so_var 1) (se_call G_minus (hr.mono (by decide)) tk (sa_cons (se_var 1) (sa_cons (se_var 3) sa_nil))))) (se_ix (hu1 hr) (SimE.o (se_ix (hu1 hr) (so_var 2) (se_var 3))) (se_var 5)))))) (sb_one (ss_ret (se_tup (sa_cons (se_var 3) (sa_cons (se_var 4) (sa_cons (se_var 5) sa_nil)))))) sb_nil)))
  (sb_one (ss_ret se_non)))
theorem sc_first_fault : FnScope ["thing", "found"] ["thing"] (defScope (top 13)) := ⟨rfl, rfl, rfl, by decide +kernel, rfl, by decide +kernel, by decide +kernel⟩
theorem ok_first_fault {f : Addr} {fd : FuncData} (T : Txt K mg) (F : Fun K "first_fault" "first_fault" (top 13) f fd) (hg : mg "first_fault" = some (.ref f)) (bf : Binds K fd ["thing"] []) (G_are_grids : Fn P w K mg base 5 "are_grids" 1 f_are_grids) (G_group_break : Fn P w K mg base 2 "group_break" 2 f_group_break) (G_joint_break : Fn P w K mg base 2 "joint_break" 1 f_joint_break) : Fn P w K mg base 6 "first_fault" 1 f_first_fault :=
  fn_ok (k := 5) F sc_first_fault hg bf fun cdv A outer s H E hr tk hp => sb_cons (ss_if (st_not (st_tru (SimE.o (se_call G_are_grids (hr.mono (by decide)) tk (sa_cons (se_var 0) sa_nil))))) (sb_one (ss_ret (se_tup (sa_cons se_str sa_nil)))) sb_nil)
  (sb_cons (ss_set 1 sc_first_fault.nd (se_call G_group_break (hr.mono (by decide)) tk (sa_cons (se_ix (hu1 hr) (so_var 0) se_int) (sa_cons se_bl sa_nil))))
  (sb_cons (ss_if (st_cmp opr_isnot (so_var 1) (SimE.o se_non)) (sb_one (ss_ret (se_tup (sa_cons se_str (sa_star (se_var 1) sa_nil))))) sb_nil)
  (sb_cons (ss_set 1 sc_first_fault.nd (se_call G_group_break (hr.mono (by decide)) tk (sa_cons (se_ix (hu1 hr) (so_var 0) se_int) (sa_cons se_bl sa_nil))))
  (sb_cons (ss_if (st_cmp opr_isnot (so_var 1) (SimE.o se_non)) (sb_one (ss_ret (se_tup (sa_cons se_str (sa_star (se_var 1) sa_nil))))) sb_nil)
  (sb_cons (ss_set 1 sc_first_fault.nd (se_call G_joint_break (hr.mono (by decide)) tk (sa_cons (se_var 0) sa_nil)))
  (sb_one (ss_ret (se_if (st_cmp opr_is (so_var 1) (SimE.o se_non)) se_non (se_tup (sa_cons se_str (sa_star (se_var 1) sa_nil)))))))))))
theorem sc_brace_break : FnScope ["thing"] ["thing"] (defScope (top 14)) := ⟨rfl, rfl, rfl, by decide +kernel, rfl, by decide +kernel, by decide +kernel⟩
theorem ok_brace_break {f : Addr} {fd : FuncData} (T : Txt K mg) (F : Fun K "brace_break" "brace_break" (top 14) f fd) (hg : mg "brace_break" = some (.ref f)) (bf : Binds K fd ["thing"] []) (G_first_fault : Fn P w K mg base 6 "first_fault" 1 f_first_fault) : Fn P w K mg base 7 "brace_break" 1 f_brace_break :=
  fn_ok (k := 6) F sc_brace_break hg bf fun cdv A outer s H E hr tk hp => sb_one (ss_ret (se_call G_first_fault (hr.mono (by decide)) tk (sa_cons (se_var 0) sa_nil)))
theorem sc__law_says : FnScope ["told", "due"] ["told", "due"] (defScope (top 20)) := ⟨rfl, rfl, rfl, by decide +kernel, rfl, by decide +kernel, by decide +kernel⟩
theorem ok__law_says {f : Addr} {fd : FuncData} (T : Txt K mg) (F : Fun K "_law_says" "_law_says" (top 20) f fd) (hg : mg "_law_says" = some (.ref f)) (bf : Binds K fd ["told", "due"] [])  : Fn P w K mg base 1 "_law_says" 2 f__law_says :=
  fn_ok (k := 0) F sc__law_says hg bf fun cdv A outer s H E hr tk hp => sb_one (ss_ret (se_and (se_isi (T := "bool") kit_bool T.n_isinstance T.n_bool PyProof.Rows.boot_bool (so_var 0)) (se_one (se_cmp (opr_eq (hu64 hr)) (so_var 0) (so_var 1)))))
theorem sc_is_brace : FnScope ["thing"] ["thing"] (defScope (top 15)) := ⟨rfl, rfl, rfl, by decide +kernel, rfl, by decide +kernel, by decide +kernel⟩
theorem ok_is_brace {f : Addr} {fd : FuncData} (T : Txt K mg) (F : Fun K "is_brace" "is_brace" (top 15) f fd) (hg : mg "is_brace" = some (.ref f)) (bf : Binds K fd ["thing"] []) (G_first_fault : Fn P w K mg base 6 "first_fault" 1 f_first_fault) : Fn P w K mg base 7 "is_brace" 1 f_is_brace :=
  fn_ok (k := 6) F sc_is_brace hg bf fun cdv A outer s H E hr tk hp => sb_one (ss_ret (se_cmp opr_is (SimE.o (se_call G_first_fault (hr.mono (by decide)) tk (sa_cons (se_var 0) sa_nil))) (SimE.o se_non)))
theorem sc_law : FnScope ["script", "numbers", "thing", "due", "told"] ["script"] (defScope (top 30)) := ⟨rfl, rfl, rfl, by decide +kernel, rfl, by decide +kernel, by decide +kernel⟩
theorem ok_law {f : Addr} {fd : FuncData} (T : Txt K mg) (F : Fun K "law" "law" (top 30) f fd) (G__law_numbers : Fn P w K mg base 2 "_law_numbers" 3 f__law_numbers) (G__law_bent : Fn P w K mg base 1 "_law_bent" 2 f__law_bent) (G__law_brace : Fn P w K mg base 2 "_law_brace" 1 f__law_brace) (G__law_fault : Fn P w K mg base 3 "_law_fault" 1 f__law_fault) (G_brace_break : Fn P w K mg base 7 "brace_break" 1 f_brace_break) (G__law_says : Fn P w K mg base 1 "_law_says" 2 f__law_says) (G_is_brace : Fn P w K mg base 7 "is_brace" 1 f_is_brace) : FnOk P w K mg base (L2.CX P w) 8 f fd ["script"] (spF ⟨mg, P, w, K⟩ 1 f_law_k64) :=
  fnok_of (k := 7) F sc_law fun cdv A outer s H E hr tk hp => sb_cons (ss_set 1 sc_law.nd (se_call G__law_numbers (hr.mono (by decide)) tk (sa_cons (se_var 0) (sa_cons se_int (sa_cons se_int sa_nil)))))
  (sb_cons (ss_for [2, 3, 4] hp rfl (si_seq (se_call G__law_bent (hr.mono (by decide)) tk (sa_cons (se_call G__law_brace (hr.mono (by decide)) tk (sa_cons (se_var 1) sa_nil)) (sa_cons (se_var 1) sa_nil)))) (sg_name 2 sc_law.nd) (sb_cons (ss_set 3 sc_law.nd (se_call G__law_fault (hr.mono (by decide)) tk (sa_cons (se_var 2) sa_nil)))
  (sb_cons (ss_set 4 sc_law.nd (se_call G_brace_break (hr.mono (by decide)) tk (sa_cons (se_var 2) sa_nil)))
  (sb_cons (ss_if (st_cmp opr_is (so_var 3) (SimE.o se_non)) (sb_one (ss_if (st_cmp opr_isnot (so_var 4) (SimE.o se_non)) (sb_one (ss_ret se_bl)) sb_nil)) (sb_one (ss_if (SimW.test (sw_or (st_not (st_tru (SimE.o (se_isi (T := "tuple") kit_tuple T.n_isinstance T.n_tuple PyProof.Rows.boot_tuple (so_var 4))))) (sw_or1 (st_cmp (opr_ne (hu64 hr)) (so_var 4) (so_var 3))))) (sb_one (ss_ret se_bl)) sb_nil)))
  (sb_one (ss_if (st_not (st_tru (SimE.o (se_call G__law_says (hr.mono (by decide)) tk (sa_cons (se_call G_is_brace (hr.mono (by decide)) tk (sa_cons (se_var 2) sa_nil)) (sa_cons (se_cmp opr_is (so_var 3) (SimE.o se_non)) sa_nil)))))) (sb_one (ss_ret se_bl)) sb_nil))))))
  (sb_one (ss_ret se_bl)))
end
end K64

theorem K64.law_true : ∀ ns : List Int, ns.length ≤ 63 → Sim.f_law_k64 [.scr ns] = .ok (.bl true) := Sim.k64_true

namespace K64
open PySem L2 Sim
theorem all_mk {l : PySem.W.OpenLaw} {w : World} {K : PySem.W.Frag} {h : Heap} {mg : Mg} {fa : Addr} (hφ : ∀ ns : List Int, ns.length ≤ 63 → f_law_k64 [.scr ns] = .ok (.bl true)) (X : K.In h) (G : h.Ns mainGlobals mg) (hfa : mg "law" = some (.ref fa))
    {f0 f1 f2 f3 f4 f5 f6 f7 f8 f9 f10 f11 f12 f13 f14 f15 f16 f17 f18 f19 f20 f21 f22 f23 f24 f25 f26 : Addr} {od0 an0 od1 an1 od2 an2 od3 an3 od4 an4 od5 an5 od6 an6 od7 an7 od8 an8 od9 an9 od10 an10 od11 an11 od12 an12 od13 an13 od14 an14 od15 an15 od16 an16 od17 an17 od18 an18 od19 an19 od20 an20 od21 an21 od22 an22 od23 an23 od24 an24 od25 an25 od26 an26 : Option Addr} {sl0 sl1 sl2 sl3 sl4 sl5 sl6 sl7 sl8 sl9 sl10 sl11 sl12 sl13 sl14 sl15 sl16 sl17 sl18 sl19 sl20 sl21 sl22 sl23 sl24 sl25 sl26 : Array (Option Value)} {oc0 kV0 dc0 pm0 cd0 ct0 oc1 kV1 dc1 pm1 cd1 ct1 oc2 kV2 dc2 pm2 cd2 ct2 oc3 kV3 dc3 pm3 cd3 ct3 oc4 kV4 dc4 pm4 cd4 ct4 oc5 kV5 dc5 pm5 cd5 ct5 oc6 kV6 dc6 pm6 cd6 ct6 oc7 kV7 dc7 pm7 cd7 ct7 oc8 kV8 dc8 pm8 cd8 ct8 oc9 kV9 dc9 pm9 cd9 ct9 oc10 kV10 dc10 pm10 cd10 ct10 oc11 kV11 dc11 pm11 cd11 ct11 oc12 kV12 dc12 pm12 cd12 ct12 oc13 kV13 dc13 pm13 cd13 ct13 oc14 kV14 dc14 pm14 cd14 ct14 oc15 kV15 dc15 pm15 cd15 ct15 oc16 kV16 dc16 pm16 cd16 ct16 oc17 kV17 dc17 pm17 cd17 ct17 oc18 kV18 dc18 pm18 cd18 ct18 oc19 kV19 dc19 pm19 cd19 ct19 oc20 kV20 dc20 pm20 cd20 ct20 oc21 kV21 dc21 pm21 cd21 ct21 oc22 kV22 dc22 pm22 cd22 ct22 oc23 kV23 dc23 pm23 cd23 ct23 oc24 kV24 dc24 pm24 cd24 ct24 oc25 kV25 dc25 pm25 cd25 ct25 oc26 kV26 dc26 pm26 cd26 ct26 : Value}
    (a0 : PySem.W.nsIn K mainGlobals "_law_cell" = some (some (.ref f0))) (l0 : K.lookup f0 = some ⟨oc0, od0, .func (PySem.W.fnOf "_law_cell" "_law_cell" (defArgs (top 17)) (defBody (top 17)) (defScope (top 17)) .none kV0 dc0 pm0 an0 cd0 ct0), sl0⟩) (c0 : PySem.W.codeIn K cd0 "_law_cell" = true) (k0 : PySem.W.keepIn K (.ref f0) = true)
    (a1 : PySem.W.nsIn K mainGlobals "_law_numbers" = some (some (.ref f1))) (l1 : K.lookup f1 = some ⟨oc1, od1, .func (PySem.W.fnOf "_law_numbers" "_law_numbers" (defArgs (top 18)) (defBody (top 18)) (defScope (top 18)) .none kV1 dc1 pm1 an1 cd1 ct1), sl1⟩) (c1 : PySem.W.codeIn K cd1 "_law_numbers" = true) (k1 : PySem.W.keepIn K (.ref f1) = true)
    (a2 : PySem.W.nsIn K mainGlobals "_law_bent" = some (some (.ref f2))) (l2 : K.lookup f2 = some ⟨oc2, od2, .func (PySem.W.fnOf "_law_bent" "_law_bent" (defArgs (top 29)) (defBody (top 29)) (defScope (top 29)) .none kV2 dc2 pm2 an2 cd2 ct2), sl2⟩) (c2 : PySem.W.codeIn K cd2 "_law_bent" = true) (k2 : PySem.W.keepIn K (.ref f2) = true)
    (a3 : PySem.W.nsIn K mainGlobals "_law_braces" = some (some (.ref f3))) (l3 : K.lookup f3 = some ⟨oc3, od3, .func (PySem.W.fnOf "_law_braces" "_law_braces" (defArgs (top 24)) (defBody (top 24)) (defScope (top 24)) .none kV3 dc3 pm3 an3 cd3 ct3), sl3⟩) (c3 : PySem.W.codeIn K cd3 "_law_braces" = true) (k3 : PySem.W.keepIn K (.ref f3) = true)
    (a4 : PySem.W.nsIn K mainGlobals "_law_order" = some (some (.ref f4))) (l4 : K.lookup f4 = some ⟨oc4, od4, .func (PySem.W.fnOf "_law_order" "_law_order" (defArgs (top 22)) (defBody (top 22)) (defScope (top 22)) .none kV4 dc4 pm4 an4 cd4 ct4), sl4⟩) (c4 : PySem.W.codeIn K cd4 "_law_order" = true) (k4 : PySem.W.keepIn K (.ref f4) = true)
    (a5 : PySem.W.nsIn K mainGlobals "_law_grids_renamed" = some (some (.ref f5))) (l5 : K.lookup f5 = some ⟨oc5, od5, .func (PySem.W.fnOf "_law_grids_renamed" "_law_grids_renamed" (defArgs (top 25)) (defBody (top 25)) (defScope (top 25)) .none kV5 dc5 pm5 an5 cd5 ct5), sl5⟩) (c5 : PySem.W.codeIn K cd5 "_law_grids_renamed" = true) (k5 : PySem.W.keepIn K (.ref f5) = true)
    (a6 : PySem.W.nsIn K mainGlobals "_law_brace" = some (some (.ref f6))) (l6 : K.lookup f6 = some ⟨oc6, od6, .func (PySem.W.fnOf "_law_brace" "_law_brace" (defArgs (top 26)) (defBody (top 26)) (defScope (top 26)) .none kV6 dc6 pm6 an6 cd6 ct6), sl6⟩) (c6 : PySem.W.codeIn K cd6 "_law_brace" = true) (k6 : PySem.W.keepIn K (.ref f6) = true)
    (a7 : PySem.W.nsIn K mainGlobals "_law_is_number" = some (some (.ref f7))) (l7 : K.lookup f7 = some ⟨oc7, od7, .func (PySem.W.fnOf "_law_is_number" "_law_is_number" (defArgs (top 19)) (defBody (top 19)) (defScope (top 19)) .none kV7 dc7 pm7 an7 cd7 ct7), sl7⟩) (c7 : PySem.W.codeIn K cd7 "_law_is_number" = true) (k7 : PySem.W.keepIn K (.ref f7) = true)
    (a8 : PySem.W.nsIn K mainGlobals "_law_is_row" = some (some (.ref f8))) (l8 : K.lookup f8 = some ⟨oc8, od8, .func (PySem.W.fnOf "_law_is_row" "_law_is_row" (defArgs (top 21)) (defBody (top 21)) (defScope (top 21)) .none kV8 dc8 pm8 an8 cd8 ct8), sl8⟩) (c8 : PySem.W.codeIn K cd8 "_law_is_row" = true) (k8 : PySem.W.keepIn K (.ref f8) = true)
    (a9 : PySem.W.nsIn K mainGlobals "_law_all_rows" = some (some (.ref f9))) (l9 : K.lookup f9 = some ⟨oc9, od9, .func (PySem.W.fnOf "_law_all_rows" "_law_all_rows" (defArgs (top 23)) (defBody (top 23)) (defScope (top 23)) .none kV9 dc9 pm9 an9 cd9 ct9), sl9⟩) (c9 : PySem.W.codeIn K cd9 "_law_all_rows" = true) (k9 : PySem.W.keepIn K (.ref f9) = true)
    (a10 : PySem.W.nsIn K mainGlobals "_law_group_at" = some (some (.ref f10))) (l10 : K.lookup f10 = some ⟨oc10, od10, .func (PySem.W.fnOf "_law_group_at" "_law_group_at" (defArgs (top 27)) (defBody (top 27)) (defScope (top 27)) .none kV10 dc10 pm10 an10 cd10 ct10), sl10⟩) (c10 : PySem.W.codeIn K cd10 "_law_group_at" = true) (k10 : PySem.W.keepIn K (.ref f10) = true)
    (a11 : PySem.W.nsIn K mainGlobals "_law_fault" = some (some (.ref f11))) (l11 : K.lookup f11 = some ⟨oc11, od11, .func (PySem.W.fnOf "_law_fault" "_law_fault" (defArgs (top 28)) (defBody (top 28)) (defScope (top 28)) .none kV11 dc11 pm11 an11 cd11 ct11), sl11⟩) (c11 : PySem.W.codeIn K cd11 "_law_fault" = true) (k11 : PySem.W.keepIn K (.ref f11) = true)
    (a12 : PySem.W.nsIn K mainGlobals "is_whole" = some (some (.ref f12))) (l12 : K.lookup f12 = some ⟨oc12, od12, .func (PySem.W.fnOf "is_whole" "is_whole" (defArgs (top 1)) (defBody (top 1)) (defScope (top 1)) .none kV12 dc12 pm12 an12 cd12 ct12), sl12⟩) (c12 : PySem.W.codeIn K cd12 "is_whole" = true) (k12 : PySem.W.keepIn K (.ref f12) = true)
    (a13 : PySem.W.nsIn K mainGlobals "is_below" = some (some (.ref f13))) (l13 : K.lookup f13 = some ⟨oc13, od13, .func (PySem.W.fnOf "is_below" "is_below" (defArgs (top 2)) (defBody (top 2)) (defScope (top 2)) .none kV13 dc13 pm13 an13 cd13 ct13), sl13⟩) (c13 : PySem.W.codeIn K cd13 "is_below" = true) (k13 : PySem.W.keepIn K (.ref f13) = true)
    (a14 : PySem.W.nsIn K mainGlobals "are_below" = some (some (.ref f14))) (l14 : K.lookup f14 = some ⟨oc14, od14, .func (PySem.W.fnOf "are_below" "are_below" (defArgs (top 3)) (defBody (top 3)) (defScope (top 3)) .none kV14 dc14 pm14 an14 cd14 ct14), sl14⟩) (c14 : PySem.W.codeIn K cd14 "are_below" = true) (k14 : PySem.W.keepIn K (.ref f14) = true)
    (a15 : PySem.W.nsIn K mainGlobals "is_grid" = some (some (.ref f15))) (l15 : K.lookup f15 = some ⟨oc15, od15, .func (PySem.W.fnOf "is_grid" "is_grid" (defArgs (top 7)) (defBody (top 7)) (defScope (top 7)) .none kV15 dc15 pm15 an15 cd15 ct15), sl15⟩) (c15 : PySem.W.codeIn K cd15 "is_grid" = true) (k15 : PySem.W.keepIn K (.ref f15) = true)
    (a16 : PySem.W.nsIn K mainGlobals "are_grids" = some (some (.ref f16))) (l16 : K.lookup f16 = some ⟨oc16, od16, .func (PySem.W.fnOf "are_grids" "are_grids" (defArgs (top 8)) (defBody (top 8)) (defScope (top 8)) .none kV16 dc16 pm16 an16 cd16 ct16), sl16⟩) (c16 : PySem.W.codeIn K cd16 "are_grids" = true) (k16 : PySem.W.keepIn K (.ref f16) = true)
    (a17 : PySem.W.nsIn K mainGlobals "all_tuples" = some (some (.ref f17))) (l17 : K.lookup f17 = some ⟨oc17, od17, .func (PySem.W.fnOf "all_tuples" "all_tuples" (defArgs (top 4)) (defBody (top 4)) (defScope (top 4)) .none kV17 dc17 pm17 an17 cd17 ct17), sl17⟩) (c17 : PySem.W.codeIn K cd17 "all_tuples" = true) (k17 : PySem.W.keepIn K (.ref f17) = true)
    (a18 : PySem.W.nsIn K mainGlobals "is_group_at" = some (some (.ref f18))) (l18 : K.lookup f18 = some ⟨oc18, od18, .func (PySem.W.fnOf "is_group_at" "is_group_at" (defArgs (top 9)) (defBody (top 9)) (defScope (top 9)) .none kV18 dc18 pm18 an18 cd18 ct18), sl18⟩) (c18 : PySem.W.codeIn K cd18 "is_group_at" = true) (k18 : PySem.W.keepIn K (.ref f18) = true)
    (a19 : PySem.W.nsIn K mainGlobals "group_break" = some (some (.ref f19))) (l19 : K.lookup f19 = some ⟨oc19, od19, .func (PySem.W.fnOf "group_break" "group_break" (defArgs (top 10)) (defBody (top 10)) (defScope (top 10)) .none kV19 dc19 pm19 an19 cd19 ct19), sl19⟩) (c19 : PySem.W.codeIn K cd19 "group_break" = true) (k19 : PySem.W.keepIn K (.ref f19) = true)
    (a20 : PySem.W.nsIn K mainGlobals "minus" = some (some (.ref f20))) (l20 : K.lookup f20 = some ⟨oc20, od20, .func (PySem.W.fnOf "minus" "minus" (defArgs (top 11)) (defBody (top 11)) (defScope (top 11)) .none kV20 dc20 pm20 an20 cd20 ct20), sl20⟩) (c20 : PySem.W.codeIn K cd20 "minus" = true) (k20 : PySem.W.keepIn K (.ref f20) = true)
    (a21 : PySem.W.nsIn K mainGlobals "joint_break" = some (some (.ref f21))) (l21 : K.lookup f21 = some ⟨oc21, od21, .func (PySem.W.fnOf "joint_break" "joint_break" (defArgs (top 12)) (defBody (top 12)) (defScope (top 12)) .none kV21 dc21 pm21 an21 cd21 ct21), sl21⟩) (c21 : PySem.W.codeIn K cd21 "joint_break" = true) (k21 : PySem.W.keepIn K (.ref f21) = true)
    (a22 : PySem.W.nsIn K mainGlobals "first_fault" = some (some (.ref f22))) (l22 : K.lookup f22 = some ⟨oc22, od22, .func (PySem.W.fnOf "first_fault" "first_fault" (defArgs (top 13)) (defBody (top 13)) (defScope (top 13)) .none kV22 dc22 pm22 an22 cd22 ct22), sl22⟩) (c22 : PySem.W.codeIn K cd22 "first_fault" = true) (k22 : PySem.W.keepIn K (.ref f22) = true)
    (a23 : PySem.W.nsIn K mainGlobals "brace_break" = some (some (.ref f23))) (l23 : K.lookup f23 = some ⟨oc23, od23, .func (PySem.W.fnOf "brace_break" "brace_break" (defArgs (top 14)) (defBody (top 14)) (defScope (top 14)) .none kV23 dc23 pm23 an23 cd23 ct23), sl23⟩) (c23 : PySem.W.codeIn K cd23 "brace_break" = true) (k23 : PySem.W.keepIn K (.ref f23) = true)
    (a24 : PySem.W.nsIn K mainGlobals "_law_says" = some (some (.ref f24))) (l24 : K.lookup f24 = some ⟨oc24, od24, .func (PySem.W.fnOf "_law_says" "_law_says" (defArgs (top 20)) (defBody (top 20)) (defScope (top 20)) .none kV24 dc24 pm24 an24 cd24 ct24), sl24⟩) (c24 : PySem.W.codeIn K cd24 "_law_says" = true) (k24 : PySem.W.keepIn K (.ref f24) = true)
    (a25 : PySem.W.nsIn K mainGlobals "is_brace" = some (some (.ref f25))) (l25 : K.lookup f25 = some ⟨oc25, od25, .func (PySem.W.fnOf "is_brace" "is_brace" (defArgs (top 15)) (defBody (top 15)) (defScope (top 15)) .none kV25 dc25 pm25 an25 cd25 ct25), sl25⟩) (c25 : PySem.W.codeIn K cd25 "is_brace" = true) (k25 : PySem.W.keepIn K (.ref f25) = true)
    (a26 : PySem.W.nsIn K mainGlobals "law" = some (some (.ref f26))) (l26 : K.lookup f26 = some ⟨oc26, od26, .func (PySem.W.fnOf "law" "law" (defArgs (top 30)) (defBody (top 30)) (defScope (top 30)) .none kV26 dc26 pm26 an26 cd26 ct26), sl26⟩) (c26 : PySem.W.codeIn K cd26 "law" = true) (k26 : PySem.W.keepIn K (.ref f26) = true)
    {t_c_MOST_NUMBERS : Tok} (z_c_MOST_NUMBERS : PySem.W.nsIn K mainGlobals "MOST_NUMBERS" = some (some (.int 24 t_c_MOST_NUMBERS)))
    (z_n_abs : PySem.W.nsIn K mainGlobals "abs" = some none)
    (z_n_all : PySem.W.nsIn K mainGlobals "all" = some none)
    (z_n_bool : PySem.W.nsIn K mainGlobals "bool" = some none)
    (z_n_int : PySem.W.nsIn K mainGlobals "int" = some none)
    (z_n_isinstance : PySem.W.nsIn K mainGlobals "isinstance" = some none)
    (z_n_len : PySem.W.nsIn K mainGlobals "len" = some none)
    (z_n_list : PySem.W.nsIn K mainGlobals "list" = some none)
    (z_n_range : PySem.W.nsIn K mainGlobals "range" = some none)
    (z_n_tuple : PySem.W.nsIn K mainGlobals "tuple" = some none)
    : ∃ fd : FuncData, (∀ (s : Shared) (v : Value), BindsTo s fd ⟨[v], []⟩ [("script", v)]) ∧ ∀ base : Heap, K.In base → base.Ns mainGlobals mg → FnOk l.prog w K mg base (L2.CX l.prog w) 8 fa fd ["script"] (spLaw K) := by
  have e := hfa.symm.trans (PySem.W.mg_of X G a26)
  cases e
  have T : Txt K mg := ⟨⟨_, PySem.W.mg_of X G z_c_MOST_NUMBERS⟩, PySem.W.mg_none_of X G z_n_abs, PySem.W.mg_none_of X G z_n_all, PySem.W.mg_none_of X G z_n_bool, PySem.W.mg_none_of X G z_n_int, PySem.W.mg_none_of X G z_n_isinstance, PySem.W.mg_none_of X G z_n_len, PySem.W.mg_none_of X G z_n_list, PySem.W.mg_none_of X G z_n_range, PySem.W.mg_none_of X G z_n_tuple⟩
  have F0 := fun_mk (st := top 17) l0 c0 k0
  have b0 := F0.binds (ps := ["script", "k"]) fun _ _ _ _ _ _ us hl => match us, hl with | [_, _], _ => rfl
  have F1 := fun_mk (st := top 18) l1 c1 k1
  have b1 := F1.binds (ps := ["script", "at", "many"]) fun _ _ _ _ _ _ us hl => match us, hl with | [_, _, _], _ => rfl
  have F2 := fun_mk (st := top 29) l2 c2 k2
  have b2 := F2.binds (ps := ["grids", "numbers"]) fun _ _ _ _ _ _ us hl => match us, hl with | [_, _], _ => rfl
  have F3 := fun_mk (st := top 24) l3 c3 k3
  have b3 := F3.binds (ps := []) fun _ _ _ _ _ _ us hl => match us, hl with | [], _ => rfl
  have F4 := fun_mk (st := top 22) l4 c4 k4
  have b4 := F4.binds (ps := ["numbers", "at", "many"]) fun _ _ _ _ _ _ us hl => match us, hl with | [_, _, _], _ => rfl
  have F5 := fun_mk (st := top 25) l5 c5 k5
  have b5 := F5.binds (ps := ["grids", "names"]) fun _ _ _ _ _ _ us hl => match us, hl with | [_, _], _ => rfl
  have F6 := fun_mk (st := top 26) l6 c6 k6
  have b6 := F6.binds (ps := ["numbers"]) fun _ _ _ _ _ _ us hl => match us, hl with | [_], _ => rfl
  have F7 := fun_mk (st := top 19) l7 c7 k7
  have b7 := F7.binds (ps := ["thing"]) fun _ _ _ _ _ _ us hl => match us, hl with | [_], _ => rfl
  have F8 := fun_mk (st := top 21) l8 c8 k8
  have b8 := F8.binds (ps := ["thing", "many", "bound"]) fun _ _ _ _ _ _ us hl => match us, hl with | [_, _, _], _ => rfl
  have F9 := fun_mk (st := top 23) l9 c9 k9
  have b9 := F9.binds (ps := ["many", "kinds"]) fun _ _ _ _ _ _ us hl => match us, hl with | [_, _], _ => rfl
  have F10 := fun_mk (st := top 27) l10 c10 k10
  have b10 := F10.binds (ps := ["grid", "a", "b", "c"]) fun _ _ _ _ _ _ us hl => match us, hl with | [_, _, _, _], _ => rfl
  have F11 := fun_mk (st := top 28) l11 c11 k11
  have b11 := F11.binds (ps := ["thing"]) fun _ _ _ _ _ _ us hl => match us, hl with | [_], _ => rfl
  have F12 := fun_mk (st := top 1) l12 c12 k12
  have b12 := F12.binds (ps := ["thing"]) fun _ _ _ _ _ _ us hl => match us, hl with | [_], _ => rfl
  have F13 := fun_mk (st := top 2) l13 c13 k13
  have b13 := F13.binds (ps := ["thing", "bound"]) fun _ _ _ _ _ _ us hl => match us, hl with | [_, _], _ => rfl
  have F14 := fun_mk (st := top 3) l14 c14 k14
  have b14 := F14.binds (ps := ["thing", "many", "bound"]) fun _ _ _ _ _ _ us hl => match us, hl with | [_, _, _], _ => rfl
  have F15 := fun_mk (st := top 7) l15 c15 k15
  have b15 := F15.binds (ps := ["thing", "many"]) fun _ _ _ _ _ _ us hl => match us, hl with | [_, _], _ => rfl
  have F16 := fun_mk (st := top 8) l16 c16 k16
  have b16 := F16.binds (ps := ["thing"]) fun _ _ _ _ _ _ us hl => match us, hl with | [_], _ => rfl
  have F17 := fun_mk (st := top 4) l17 c17 k17
  have b17 := F17.binds (ps := ["many", "bound"]) fun _ _ _ _ _ _ us hl => match us, hl with | [_, _], _ => rfl
  have F18 := fun_mk (st := top 9) l18 c18 k18
  have b18 := F18.binds (ps := ["grid", "a", "b", "c"]) fun _ _ _ _ _ _ us hl => match us, hl with | [_, _, _, _], _ => rfl
  have F19 := fun_mk (st := top 10) l19 c19 k19
  have b19 := F19.binds (ps := ["grid", "is_turned"]) fun _ _ _ _ _ _ us hl => match us, hl with | [_, _], _ => rfl
  have F20 := fun_mk (st := top 11) l20 c20 k20
  have b20 := F20.binds (ps := ["sums", "a"]) fun _ _ _ _ _ _ us hl => match us, hl with | [_, _], _ => rfl
  have F21 := fun_mk (st := top 12) l21 c21 k21
  have b21 := F21.binds (ps := ["brace"]) fun _ _ _ _ _ _ us hl => match us, hl with | [_], _ => rfl
  have F22 := fun_mk (st := top 13) l22 c22 k22
  have b22 := F22.binds (ps := ["thing"]) fun _ _ _ _ _ _ us hl => match us, hl with | [_], _ => rfl
  have F23 := fun_mk (st := top 14) l23 c23 k23
  have b23 := F23.binds (ps := ["thing"]) fun _ _ _ _ _ _ us hl => match us, hl with | [_], _ => rfl
  have F24 := fun_mk (st := top 20) l24 c24 k24
  have b24 := F24.binds (ps := ["told", "due"]) fun _ _ _ _ _ _ us hl => match us, hl with | [_, _], _ => rfl
  have F25 := fun_mk (st := top 15) l25 c25 k25
  have b25 := F25.binds (ps := ["thing"]) fun _ _ _ _ _ _ us hl => match us, hl with | [_], _ => rfl
  have F26 := fun_mk (st := top 30) l26 c26 k26
  refine ⟨PySem.W.fnOf "law" "law" (defArgs (top 30)) (defBody (top 30)) (defScope (top 30)) .none kV26 dc26 pm26 an26 cd26 ct26, fun s v => .of_eq rfl, fun base _ _ => ?_⟩
  have G0 := ok__law_cell (P := l.prog) (w := w) (base := base) T F0 (PySem.W.mg_of X G a0) b0 
  have G1 := ok__law_numbers (P := l.prog) (w := w) (base := base) T F1 (PySem.W.mg_of X G a1) b1 G0
  have G2 := ok__law_bent (P := l.prog) (w := w) (base := base) T F2 (PySem.W.mg_of X G a2) b2 
  have G3 := ok__law_braces (P := l.prog) (w := w) (base := base) T F3 (PySem.W.mg_of X G a3) b3 
  have G4 := ok__law_order (P := l.prog) (w := w) (base := base) T F4 (PySem.W.mg_of X G a4) b4 
  have G5 := ok__law_grids_renamed (P := l.prog) (w := w) (base := base) T F5 (PySem.W.mg_of X G a5) b5 
  have G6 := ok__law_brace (P := l.prog) (w := w) (base := base) T F6 (PySem.W.mg_of X G a6) b6 G3 G4 G5
  have G7 := ok__law_is_number (P := l.prog) (w := w) (base := base) T F7 (PySem.W.mg_of X G a7) b7 
  have G8 := ok__law_is_row (P := l.prog) (w := w) (base := base) T F8 (PySem.W.mg_of X G a8) b8 G7
  have G9 := ok__law_all_rows (P := l.prog) (w := w) (base := base) T F9 (PySem.W.mg_of X G a9) b9 
  have G10 := ok__law_group_at (P := l.prog) (w := w) (base := base) T F10 (PySem.W.mg_of X G a10) b10 
  have G11 := ok__law_fault (P := l.prog) (w := w) (base := base) T F11 (PySem.W.mg_of X G a11) b11 G8 G9 G10
  have G12 := ok_is_whole (P := l.prog) (w := w) (base := base) T F12 (PySem.W.mg_of X G a12) b12 
  have G13 := ok_is_below (P := l.prog) (w := w) (base := base) T F13 (PySem.W.mg_of X G a13) b13 G12
  have G14 := ok_are_below (P := l.prog) (w := w) (base := base) T F14 (PySem.W.mg_of X G a14) b14 G13
  have G15 := ok_is_grid (P := l.prog) (w := w) (base := base) T F15 (PySem.W.mg_of X G a15) b15 G14
  have G16 := ok_are_grids (P := l.prog) (w := w) (base := base) T F16 (PySem.W.mg_of X G a16) b16 G15
  have G17 := ok_all_tuples (P := l.prog) (w := w) (base := base) T F17 (PySem.W.mg_of X G a17) b17 
  have G18 := ok_is_group_at (P := l.prog) (w := w) (base := base) T F18 (PySem.W.mg_of X G a18) b18 
  have G19 := ok_group_break (P := l.prog) (w := w) (base := base) T F19 (PySem.W.mg_of X G a19) b19 G17 G18
  have G20 := ok_minus (P := l.prog) (w := w) (base := base) T F20 (PySem.W.mg_of X G a20) b20 
  have G21 := ok_joint_break (P := l.prog) (w := w) (base := base) T F21 (PySem.W.mg_of X G a21) b21 G17 G20
  have G22 := ok_first_fault (P := l.prog) (w := w) (base := base) T F22 (PySem.W.mg_of X G a22) b22 G16 G19 G21
  have G23 := ok_brace_break (P := l.prog) (w := w) (base := base) T F23 (PySem.W.mg_of X G a23) b23 G22
  have G24 := ok__law_says (P := l.prog) (w := w) (base := base) T F24 (PySem.W.mg_of X G a24) b24 
  have G25 := ok_is_brace (P := l.prog) (w := w) (base := base) T F25 (PySem.W.mg_of X G a25) b25 G22
  exact (ok_law (P := l.prog) (w := w) (base := base) T F26 G1 G2 G6 G11 G23 G24 G25).imp (law_imp (g := ⟨mg, l.prog, w, K⟩) hφ)
end K64
open PySem PySem.W PyProof.Rows
set_option maxRecDepth 100000 in
set_option maxHeartbeats 0 in
theorem PySem.Challenge.cw_hatspassed_k64_brace_break_holds : PySem.Challenge.rw_hatspassed_k64_brace_break.Holds := by
  w_on; o_law; k_head; (case hw => w_witness2)
  k_fill
  refine Sim.walk_sim (k := 8) (l := PySem.Challenge.rw_hatspassed_k64_brace_break) rfl rfl ⟨rfl, by decide, by decide⟩ (fun w h Y => PySem.W.kIn_of Y) ?F
  case F =>
    intro w mg fa h KX G hmg
    refine' K64.all_mk K64.law_true KX G hmg ?a0 ?l0 ?c0 ?k0 ?a1 ?l1 ?c1 ?k1 ?a2 ?l2 ?c2 ?k2 ?a3 ?l3 ?c3 ?k3 ?a4 ?l4 ?c4 ?k4 ?a5 ?l5 ?c5 ?k5 ?a6 ?l6 ?c6 ?k6 ?a7 ?l7 ?c7 ?k7 ?a8 ?l8 ?c8 ?k8 ?a9 ?l9 ?c9 ?k9 ?a10 ?l10 ?c10 ?k10 ?a11 ?l11 ?c11 ?k11 ?a12 ?l12 ?c12 ?k12 ?a13 ?l13 ?c13 ?k13 ?a14 ?l14 ?c14 ?k14 ?a15 ?l15 ?c15 ?k15 ?a16 ?l16 ?c16 ?k16 ?a17 ?l17 ?c17 ?k17 ?a18 ?l18 ?c18 ?k18 ?a19 ?l19 ?c19 ?k19 ?a20 ?l20 ?c20 ?k20 ?a21 ?l21 ?c21 ?k21 ?a22 ?l22 ?c22 ?k22 ?a23 ?l23 ?c23 ?k23 ?a24 ?l24 ?c24 ?k24 ?a25 ?l25 ?c25 ?k25 ?a26 ?l26 ?c26 ?k26 ?z_c_MOST_NUMBERS ?z_n_abs ?z_n_all ?z_n_bool ?z_n_int ?z_n_isinstance ?z_n_len ?z_n_list ?z_n_range ?z_n_tuple
    (case a0 => k_is)
    (case l0 => k_is)
    (case c0 => k_is)
    (case k0 => k_is)
    (case a1 => k_is)
    (case l1 => k_is)
    (case c1 => k_is)
    (case k1 => k_is)
    (case a2 => k_is)
    (case l2 => k_is)
    (case c2 => k_is)
    (case k2 => k_is)
    (case a3 => k_is)
    (case l3 => k_is)
    (case c3 => k_is)
    (case k3 => k_is)
    (case a4 => k_is)
    (case l4 => k_is)
    (case c4 => k_is)
    (case k4 => k_is)
    (case a5 => k_is)
    (case l5 => k_is)
    (case c5 => k_is)
    (case k5 => k_is)
    (case a6 => k_is)
    (case l6 => k_is)
    (case c6 => k_is)
    (case k6 => k_is)
    (case a7 => k_is)
    (case l7 => k_is)
    (case c7 => k_is)
    (case k7 => k_is)
    (case a8 => k_is)
    (case l8 => k_is)
    (case c8 => k_is)
    (case k8 => k_is)
    (case a9 => k_is)
    (case l9 => k_is)
    (case c9 => k_is)
    (case k9 => k_is)
    (case a10 => k_is)
    (case l10 => k_is)
    (case c10 => k_is)
    (case k10 => k_is)
    (case a11 => k_is)
    (case l11 => k_is)
    (case c11 => k_is)
    (case k11 => k_is)
    (case a12 => k_is)
    (case l12 => k_is)
    (case c12 => k_is)
    (case k12 => k_is)
    (case a13 => k_is)
    (case l13 => k_is)
    (case c13 => k_is)
    (case k13 => k_is)
    (case a14 => k_is)
    (case l14 => k_is)
    (case c14 => k_is)
    (case k14 => k_is)
    (case a15 => k_is)
    (case l15 => k_is)
    (case c15 => k_is)
    (case k15 => k_is)
    (case a16 => k_is)
    (case l16 => k_is)
    (case c16 => k_is)
    (case k16 => k_is)
    (case a17 => k_is)
    (case l17 => k_is)
    (case c17 => k_is)
    (case k17 => k_is)
    (case a18 => k_is)
    (case l18 => k_is)
    (case c18 => k_is)
    (case k18 => k_is)
    (case a19 => k_is)
    (case l19 => k_is)
    (case c19 => k_is)
    (case k19 => k_is)
    (case a20 => k_is)
    (case l20 => k_is)
    (case c20 => k_is)
    (case k20 => k_is)
    (case a21 => k_is)
    (case l21 => k_is)
    (case c21 => k_is)
    (case k21 => k_is)
    (case a22 => k_is)
    (case l22 => k_is)
    (case c22 => k_is)
    (case k22 => k_is)
    (case a23 => k_is)
    (case l23 => k_is)
    (case c23 => k_is)
    (case k23 => k_is)
    (case a24 => k_is)
    (case l24 => k_is)
    (case c24 => k_is)
    (case k24 => k_is)
    (case a25 => k_is)
    (case l25 => k_is)
    (case c25 => k_is)
    (case k25 => k_is)
    (case a26 => k_is)
    (case l26 => k_is)
    (case c26 => k_is)
    (case k26 => k_is)
    (case z_c_MOST_NUMBERS => k_is)
    (case z_n_abs => k_is)
    (case z_n_all => k_is)
    (case z_n_bool => k_is)
    (case z_n_int => k_is)
    (case z_n_isinstance => k_is)
    (case z_n_len => k_is)
    (case z_n_list => k_is)
    (case z_n_range => k_is)
    (case z_n_tuple => k_is)
#print axioms PySem.Challenge.cw_hatspassed_k64_brace_break_holds

