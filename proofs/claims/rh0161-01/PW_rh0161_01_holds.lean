import PyProof.Rows.All
import Wide.All
import OpenK.AllK
import Wide.FinOn
import KE.KxBytes
import PySem.Challenge.RW_rh0161_01
set_option Elab.async false
set_option linter.all false
set_option compiler.extract_closed false
namespace Mine
section Hd
open PySem PySem.W PyProof.Rows
set_option maxRecDepth 100000
set_option maxHeartbeats 8000000
noncomputable def tag (n : Nat) : Nat := n
theorem tag_of (_h : PySem.Challenge.rw_rh0161_01.row.Holds) : tag 0 = 1 - 1 := rfl
set_option Elab.async true in
theorem hd : tag 0 = 0 ∨ True := by
  simp (disch := (w_on; k_head)) only [tag_of, or_true]
/-- the walk's own switches back to where a file starts -/
theorem off : True := by
  w_top off
  trivial

end Hd
section P0

/-- the octet at a place, as an int -/
noncomputable def gB (x : List UInt8) (i : Int) : Int := ((x.getD i.toNat 0).toNat : Int)
/-- the same, 0 behind the end -/
noncomputable def atB (x : List UInt8) (i : Int) : Int := if i < (x.length : Int) then gB x i else 0

inductive Job where
  | mt (s p : Int)
  | mh (s p : Int)
  | el (s p e : Int)
  | mu (s p e many : Int)
  | mo (s p e many : Int)
  | bl (s o : Int)

noncomputable abbrev isLit (pat : List UInt8) (p : Int) : Prop :=
  0 ≤ p ∧ p < (pat.length : Int) ∧ 97 ≤ gB pat p ∧ gB pat p ≤ 98 ∧ (atB pat (p + 1) = 0 ∨ 97 ≤ atB pat (p + 1))
noncomputable abbrev isLeast (pat : List UInt8) (p : Int) : Prop :=
  0 ≤ p ∧ p + 1 < (pat.length : Int) ∧ 97 ≤ gB pat p ∧ gB pat p ≤ 98 ∧ gB pat (p + 1) = 45
noncomputable abbrev patMost : List UInt8 := [91, 97, 93, 42, 98]
noncomputable abbrev patBal : List UInt8 := [37, 98, 40, 41]
noncomputable abbrev sing (txt : List UInt8) (c s : Int) : Prop := s < (txt.length : Int) ∧ gB txt s = c
/-- what is in the class at a place -/
noncomputable def cls (pat : List UInt8) (p : Int) : Int := if gB pat p = 91 then 97 else gB pat p

/-- R u txt pat j r k: the job j ends with r after k counts of u each -/
inductive R (u : Nat) (txt pat : List UInt8) : Job → Option Int → Nat → Prop
  | mt {s p r k} (h : R u txt pat (.mh s p) r k) : R u txt pat (.mt s p) r (k + u)
  | mh_end {s p} (h : p = (pat.length : Int)) : R u txt pat (.mh s p) (some s) 0
  | mh_lit {s p r k} (hl : isLit pat p) (hs : sing txt (gB pat p) s) (h : R u txt pat (.mh (s + 1) (p + 1)) r k) : R u txt pat (.mh s p) r (k + u)
  | mh_no {s p} (hl : isLit pat p) (hs : ¬ sing txt (gB pat p) s) : R u txt pat (.mh s p) none u
  | mh_least {s p r k} (hl : isLeast pat p) (h : R u txt pat (.el s p (p + 1)) r k) : R u txt pat (.mh s p) r (k + u)
  | mh_most {s mm r k k'} (hl : pat = patMost) (h : R u txt pat (.mu s 0 3 0) (some mm) k) (h' : R u txt pat (.mo s 0 3 mm) r k') : R u txt pat (.mh s 0) r (u + k + k')
  | mh_bal0 {s} (hl : pat = patBal) (hs : ¬ sing txt 40 s) : R u txt pat (.mh s 0) none u
  | mh_bal1 {s k} (hl : pat = patBal) (hs : sing txt 40 s) (h : R u txt pat (.bl (s + 1) 1) none k) : R u txt pat (.mh s 0) none (k + u)
  | mh_bal2 {s x k} (hl : pat = patBal) (hs : sing txt 40 s) (h : R u txt pat (.bl (s + 1) 1) (some x) k) : R u txt pat (.mh s 0) (some x) (k + u)
  | bl_end {s o} (h : (txt.length : Int) ≤ s) : R u txt pat (.bl s o) none 0
  | bl_hit {s} (h : sing txt 41 s) : R u txt pat (.bl s 1) (some (s + 1)) u
  | bl_less {s o r k} (h : sing txt 41 s) (ho : o ≠ 1) (hr : R u txt pat (.bl (s + 1) (o - 1)) r k) : R u txt pat (.bl s o) r (k + u)
  | bl_more {s o r k} (h : sing txt 40 s) (hr : R u txt pat (.bl (s + 1) (o + 1)) r k) : R u txt pat (.bl s o) r (k + u)
  | el_found {s p e x k} (h : R u txt pat (.mt s (e + 1)) (some x) k) : R u txt pat (.el s p e) (some x) k
  | el_stop {s p e k} (h : R u txt pat (.mt s (e + 1)) none k) (hs : ¬ sing txt (gB pat p) s) : R u txt pat (.el s p e) none k
  | el_next {s p e r k k'} (h : R u txt pat (.mt s (e + 1)) none k) (hs : sing txt (gB pat p) s) (h' : R u txt pat (.el (s + 1) p e) r k') : R u txt pat (.el s p e) r (k + k')
  | mu_up {s p e m r k} (hs : sing txt 97 (s + m)) (h : R u txt pat (.mu s p e (m + 1)) r k) : R u txt pat (.mu s p e m) r (k + u)
  | mu_dn {s p e m} (hs : ¬ sing txt 97 (s + m)) : R u txt pat (.mu s p e m) (some m) 0
  | mo_end {s p e m} (hm : m < 0) : R u txt pat (.mo s p e m) none 0
  | mo_found {s p e m x k} (hm : 0 ≤ m) (h : R u txt pat (.mt (s + m) (e + 1)) (some x) k) : R u txt pat (.mo s p e m) (some x) k
  | mo_next {s p e m r k k'} (hm : 0 ≤ m) (h : R u txt pat (.mt (s + m) (e + 1)) none k) (h' : R u txt pat (.mo s p e (m - 1)) r k') : R u txt pat (.mo s p e m) r (k + k')

/-- the search from a place on -/
inductive S (u : Nat) (txt pat : List UInt8) : Int → Option (Int × Int) → Nat → Prop
  | stop {s} (h : (txt.length : Int) < s) : S u txt pat s none 0
  | found {s x k} (hs : s ≤ (txt.length : Int)) (h : R u txt pat (.mt s 0) (some x) k) : S u txt pat s (some (s, x)) k
  | next {s r k k'} (hs : s ≤ (txt.length : Int)) (h : R u txt pat (.mt s 0) none k) (h' : S u txt pat (s + 1) r k') : S u txt pat s r (k + k')

/-- the same, reckoned -/
noncomputable def rF (u : Nat) (txt pat : List UInt8) : Nat → Job → Option (Option Int × Nat)
  | 0, _ => none
  | f + 1, .mt s p => (rF u txt pat f (.mh s p)).map fun x => (x.1, x.2 + u)
  | f + 1, .mh s p =>
    if p = (pat.length : Int) then some (some s, 0)
    else if isLit pat p then
      if sing txt (gB pat p) s then (rF u txt pat f (.mh (s + 1) (p + 1))).map fun x => (x.1, x.2 + u) else some (none, u)
    else if isLeast pat p then (rF u txt pat f (.el s p (p + 1))).map fun x => (x.1, x.2 + u)
    else if pat = patMost ∧ p = 0 then match rF u txt pat f (.mu s 0 3 0) with
      | some (some mm, k) => (rF u txt pat f (.mo s 0 3 mm)).map fun x => (x.1, u + k + x.2)
      | _ => none
    else if pat = patBal ∧ p = 0 then
      if sing txt 40 s then (rF u txt pat f (.bl (s + 1) 1)).map fun x => (x.1, x.2 + u) else some (none, u)
    else none
  | f + 1, .bl s o =>
    if (txt.length : Int) ≤ s then some (none, 0)
    else if sing txt 41 s then if o = 1 then some (some (s + 1), u) else (rF u txt pat f (.bl (s + 1) (o - 1))).map fun x => (x.1, x.2 + u)
    else if sing txt 40 s then (rF u txt pat f (.bl (s + 1) (o + 1))).map fun x => (x.1, x.2 + u)
    else none
  | f + 1, .el s p e => match rF u txt pat f (.mt s (e + 1)) with
    | none => none
    | some (some x, k) => some (some x, k)
    | some (none, k) => if sing txt (gB pat p) s then (rF u txt pat f (.el (s + 1) p e)).map fun x => (x.1, k + x.2) else some (none, k)
  | f + 1, .mu s p e m =>
    if sing txt 97 (s + m) then (rF u txt pat f (.mu s p e (m + 1))).map fun x => (x.1, x.2 + u) else some (some m, 0)
  | f + 1, .mo s p e m =>
    if m < 0 then some (none, 0) else match rF u txt pat f (.mt (s + m) (e + 1)) with
    | none => none
    | some (some x, k) => some (some x, k)
    | some (none, k) => (rF u txt pat f (.mo s p e (m - 1))).map fun x => (x.1, k + x.2)

theorem rF_sound {u : Nat} {txt pat : List UInt8} : ∀ (f : Nat) (j : Job) (r : Option Int) (k : Nat), rF u txt pat f j = some (r, k) → R u txt pat j r k := by
  intro f
  induction f with
  | zero => intro j r k h; cases h
  | succ f ih =>
    intro j r k h
    cases j with
    | mt s p =>
      simp only [rF, Option.map_eq_some_iff] at h
      obtain ⟨⟨r', k'⟩, h1, h2⟩ := h
      cases h2
      exact .mt (ih _ _ _ h1)
    | mh s p =>
      simp only [rF] at h
      split at h
      · cases h; exact .mh_end (by assumption)
      split at h
      · split at h
        · obtain ⟨⟨r', k'⟩, h1, h2⟩ := Option.map_eq_some_iff.mp h
          cases h2
          exact .mh_lit (by assumption) (by assumption) (ih _ _ _ h1)
        · cases h; exact .mh_no (by assumption) (by assumption)
      split at h
      · obtain ⟨⟨r', k'⟩, h1, h2⟩ := Option.map_eq_some_iff.mp h
        cases h2
        exact .mh_least (by assumption) (ih _ _ _ h1)
      split at h
      · rename_i hp
        obtain ⟨hp1, rfl⟩ := hp
        split at h
        · rename_i mm k0 h0
          obtain ⟨⟨r', k'⟩, h1, h2⟩ := Option.map_eq_some_iff.mp h
          cases h2
          exact .mh_most hp1 (ih _ _ _ h0) (ih _ _ _ h1)
        · cases h
      split at h
      · rename_i hp
        obtain ⟨hp1, rfl⟩ := hp
        split at h
        · obtain ⟨⟨r', k'⟩, h1, h2⟩ := Option.map_eq_some_iff.mp h
          cases h2
          cases r' with
          | none => exact .mh_bal1 hp1 (by assumption) (ih _ _ _ h1)
          | some x => exact .mh_bal2 hp1 (by assumption) (ih _ _ _ h1)
        · cases h; exact .mh_bal0 hp1 (by assumption)
      · cases h
    | bl s o =>
      simp only [rF] at h
      split at h
      · cases h; exact .bl_end (by assumption)
      split at h
      · split at h
        · rename_i ho; subst ho; cases h; exact .bl_hit (by assumption)
        · obtain ⟨⟨r', k'⟩, h1, h2⟩ := Option.map_eq_some_iff.mp h
          cases h2
          exact .bl_less (by assumption) (by assumption) (ih _ _ _ h1)
      split at h
      · obtain ⟨⟨r', k'⟩, h1, h2⟩ := Option.map_eq_some_iff.mp h
        cases h2
        exact .bl_more (by assumption) (ih _ _ _ h1)
      · cases h
    | el s p e =>
      simp only [rF] at h
      split at h
      · cases h
      · rename_i x k0 h0; cases h; exact .el_found (ih _ _ _ h0)
      · rename_i k0 h0
        split at h
        · obtain ⟨⟨r', k'⟩, h1, h2⟩ := Option.map_eq_some_iff.mp h
          cases h2
          exact .el_next (ih _ _ _ h0) (by assumption) (ih _ _ _ h1)
        · cases h; exact .el_stop (ih _ _ _ h0) (by assumption)
    | mu s p e m =>
      simp only [rF] at h
      split at h
      · obtain ⟨⟨r', k'⟩, h1, h2⟩ := Option.map_eq_some_iff.mp h
        cases h2
        exact .mu_up (by assumption) (ih _ _ _ h1)
      · cases h; exact .mu_dn (by assumption)
    | mo s p e m =>
      simp only [rF] at h
      split at h
      · cases h; exact .mo_end (by assumption)
      split at h
      · cases h
      · rename_i x k0 h0; cases h; exact .mo_found (by omega) (ih _ _ _ h0)
      · rename_i k0 h0
        obtain ⟨⟨r', k'⟩, h1, h2⟩ := Option.map_eq_some_iff.mp h
        cases h2
        exact .mo_next (by omega) (ih _ _ _ h0) (ih _ _ _ h1)

noncomputable def sF (u : Nat) (txt pat : List UInt8) : Nat → Int → Option (Option (Int × Int) × Nat)
  | 0, _ => none
  | f + 1, s => if (txt.length : Int) < s then some (none, 0) else match rF u txt pat 200 (.mt s 0) with
    | none => none
    | some (some x, k) => some (some (s, x), k)
    | some (none, k) => (sF u txt pat f (s + 1)).map fun x => (x.1, k + x.2)
theorem sF_sound {u : Nat} {txt pat : List UInt8} : ∀ (f : Nat) (s : Int) (r : Option (Int × Int)) (k : Nat), sF u txt pat f s = some (r, k) → S u txt pat s r k := by
  intro f
  induction f with
  | zero => intro s r k h; cases h
  | succ f ih =>
    intro s r k h
    simp only [sF] at h
    split at h
    · cases h; exact .stop (by assumption)
    split at h
    · cases h
    · rename_i x k0 h0; cases h; exact .found (by omega) (rF_sound _ _ _ _ h0)
    · rename_i k0 h0
      obtain ⟨⟨r', k'⟩, h1, h2⟩ := Option.map_eq_some_iff.mp h
      cases h2
      exact .next (by omega) (rF_sound _ _ _ _ h0) (ih _ _ _ h1)

/-- the draw -/
noncomputable def rep (n : Nat) (l : List UInt8) : List UInt8 := (List.replicate n l).flatten
noncomputable def txtOf (form size : Nat) (met : Bool) : List UInt8 :=
  (if form = 1 then rep size [40] else rep size [97]) ++ (if met then (if form = 1 then [41] else [98]) else [])
noncomputable def patOf (form many : Nat) : List UInt8 :=
  if form = 1 then [37, 98, 40, 41] else (if form = 0 then rep many [97, 45] else if form = 2 then rep many [97] else [91, 97, 93, 42]) ++ [98]
noncomputable def waysF (size : Nat) : Nat → Nat
  | 0 => 1
  | t + 1 => waysF size t * (size + (t + 1)) / (t + 1)
noncomputable def sumTo (n : Nat) (f : Nat → Nat) : Nat := ((List.range n).map f).sum
noncomputable def leastOf (form size many : Nat) (met : Bool) : Nat :=
  if met then 1
  else if form = 0 then waysF size many
  else if form = 1 then sumTo (size + 1) fun a => 1 + size - a
  else if form = 2 then sumTo (size + 1) fun a => 1 + min many (size - a)
  else sumTo (size + 1) fun a => 2 + 2 * (size - a)

noncomputable def good (form size many : Nat) (met : Bool) : Bool :=
  match sF 0 (txtOf form size met) (patOf form many) 20 0, sF 1 (txtOf form size met) (patOf form many) 20 0 with
  | some (r0, 0), some (r, k) => r0 == r && decide (leastOf form size many met ≤ k) && decide (1 ≤ k) && decide (k ≤ 900)
  | _, _ => false

theorem all_good : (List.range 4).all (fun f => (List.range 4).all fun s => (List.range 3).all fun m => [true, false].all fun b => good f (s + 2) (m + 1) b) = true := by decide +kernel

end P0
section R0
open PySem PySem.W PyProof.Rows PySem.Calls
set_option maxRecDepth 100000
set_option maxHeartbeats 4000000

/-! ## An exception in flight whose dict is known -/

/-- e is a LuaError with this dict, with a traceback that is the flight's own -/
noncomputable def TrD (h base : Heap) (e dx : Addr) (fl : Value) : Prop :=
  ∃ oe vs T oT ts, h.get? e = some oe ∧ (oe.cls = .ref 31 ∧ oe.dict = some dx) ∧ oe.data = .fields vs ∧ vs[1]? = some (.ref T) ∧ base.get? T = none ∧ T ≠ e ∧ h.get? T = some oT ∧ oT.data = .fields ts ∧ ts[3]? = some fl
noncomputable def FlyD (base : Heap) (l : List Env) (e dx : Addr) (fl : Value) (h : Heap) : Prop :=
  base.StaysIn h ∧ base.get? e = none ∧ h.FunFrames base l ∧ TrD h base e dx fl

theorem dict_mapFields (o : Obj) (f) : (o.mapFields f).dict = o.dict := by
  obtain ⟨c, d, dt, sl⟩ := o; cases dt <;> rfl

section
variable {M : Model} {A : Around} {E : Value → Shared → Prop} {s : Shared}

theorem entryD {base : Heap} {env : Env} {outer : List Env} {L e dx : Addr} {oe : Obj} {vs : Array Value} {head : Value} {hadNext : Bool} {Q : Unit → Shared → Prop}
    (hfr : A.frames = some (env :: outer)) (hl : s.heap.FunFrames base (env :: outer)) (hf : env.frame = some L)
    (he : s.heap.get? e = some oe) (hkb : base.StaysIn s.heap) (hen : base.get? e = none) (hd : oe.data = .fields vs) (hsz : 1 < vs.size) (ho : oe.cls = .ref 31 ∧ oe.dict = some dx)
    (h : ∀ h', FlyD base (env :: outer) e dx (rawInt L) h' → s.heap.UpToSlots h' → Q () { s with heap := h' }) :
    wpAny M A (do let a ← frameOf env; let pl ← entryPlaceOf L hadNext; let b ← EntryCells.newEntry head a .none (rawInt L) .none pl; setField (.ref e) 1 b) Q E s := by
  have hene : e ∉ (env :: outer).filterMap (·.frame) := fun hm => by
    obtain ⟨_, o, ho, hnf⟩ := hl.mem hm
    rw [he] at ho; injection ho with ho; subst ho; exact hnf vs hd
  refine wpAny_bind (wpAny_frameOf_fun hfr hl hf fun h₁ hs₁ => ?_)
  refine wpAny_bind (wpAny_entryPlaceOf fun pl hpl => ?_)
  unfold EntryCells.newEntry newFields
  refine wpAny_bind (wpAny_newObj_type ?_ (hpl.sizeOk5 _ _ _ _ _))
  generalize hnt : ({ cls := .type "traceback", dict := none, data := .fields ([head, .ref L, .none, rawInt L, .none] ++ (if pl.isEmpty then List.replicate 6 Value.none else pl)).toArray } : Obj) = nt
  have hntd : nt.data = .fields ([head, .ref L, .none, rawInt L, .none] ++ (if pl.isEmpty then List.replicate 6 Value.none else pl)).toArray := by rw [← hnt]
  have hntf : nt.isFreed = false := Obj.isFreed_of_fields hntd
  have he₁ : h₁.get? e = some oe := (hs₁.2.1 e hene).trans he
  have kb₁ : base.StaysIn h₁ := fun b o hbo => (hs₁.2.1 b fun hm => by rw [(hl.mem hm).1] at hbo; cases hbo).trans (hkb b o hbo)
  have he₂ := Heap.get?_push_of_some (h := h₁) nt he₁
  refine wpAny_setField he₂ hd hsz ?_
  have hTe : h₁.objs.size ≠ e := Nat.ne_of_gt (Heap.lt_size he₁)
  have hd₃ := Obj.data_mapFields hd (·.setIfInBounds 1 (Value.ref h₁.objs.size))
  have he₃ := Heap.get?_update_self (Obj.mapFields (·.setIfInBounds 1 (Value.ref h₁.objs.size))) he₂ (Obj.isFreed_of_fields hd₃)
  have hT₃ := (Heap.get?_update_other (h₁.push nt) (Obj.mapFields (·.setIfInBounds 1 (Value.ref h₁.objs.size))) (Ne.symm hTe)).trans (Heap.get?_push_size h₁ hntf)
  have keep : ∀ b o, b ≠ e → h₁.get? b = some o → ((h₁.push nt).update e (Obj.mapFields (·.setIfInBounds 1 (Value.ref h₁.objs.size)))).get? b = some o := fun b o hbe hb => by
    rw [Heap.get?_update_other _ _ (Ne.symm hbe)]
    exact Heap.get?_push_of_some _ hb
  have noRecord : ∀ b o, s.heap.get? b = some o → (∀ vs, o.data ≠ .fields vs) → b ≠ e := fun b o hb hnf q => by
    rw [q, he] at hb; injection hb with hb; subst hb; exact hnf vs hd
  refine h _ ⟨fun b o hbo => keep b o (fun q => by rw [q, hen] at hbo; cases hbo) (kb₁ b o hbo), hen, hl.of_keeps fun b o hb hnf => ?_, ?_⟩ fun b o hb hnf => ?_
  · obtain ⟨sl, hs⟩ := hs₁.2.2 b o hb
    exact ⟨_, keep b _ (noRecord b o hb hnf) hs, rfl⟩
  · refine ⟨_, _, h₁.objs.size, _, _, he₃, ⟨(Obj.cls_mapFields _ _).trans ho.1, (dict_mapFields _ _).trans ho.2⟩, hd₃, by simp [hsz], kb₁.fresh, hTe, hT₃, hntd, ?_⟩
    simp
  · obtain ⟨sl, hs⟩ := hs₁.2.2 b o hb
    exact ⟨sl, keep b _ (noRecord b o hb hnf) hs⟩

theorem noteFirstD {base : Heap} {env : Env} {outer : List Env} {L e dx : Addr} {oe : Obj} {vs : Array Value} {Q : Unit → Shared → Prop}
    (hfr : A.frames = some (env :: outer)) (hl : s.heap.FunFrames base (env :: outer)) (hf : env.frame = some L)
    (he : s.heap.get? e = some oe) (hkb : base.StaysIn s.heap) (hen : base.get? e = none) (hd : oe.data = .fields vs) (h1 : vs[1]? = some .none) (ho : oe.cls = .ref 31 ∧ oe.dict = some dx)
    (h : ∀ h', FlyD base (env :: outer) e dx (rawInt L) h' → s.heap.UpToSlots h' → Q () { s with heap := h' }) : wpAny M A (noteFrame (.ref e) env) Q E s := by
  unfold noteFrame
  simp only [hf]
  refine wpAny_bind (wpAny_field he hd h1 ?_)
  rw [if_neg (by decide)]
  exact entryD hfr hl hf he hkb hen hd (Array.getElem?_eq_some_iff.mp h1).1 ho h

theorem noteNextD {base : Heap} {env : Env} {outer : List Env} {L e dx : Addr} {Q : Unit → Shared → Prop}
    (hfr : A.frames = some (env :: outer)) (hf : env.frame = some L) (hx : FlyD base (env :: outer) e dx .none s.heap)
    (h : ∀ h', FlyD base (env :: outer) e dx (rawInt L) h' → s.heap.UpToSlots h' → Q () { s with heap := h' }) : wpAny M A (noteFrame (.ref e) env) Q E s := by
  obtain ⟨hkb, hen, hl, oe, vs, T, oT, ts, he, ho, hd, h1, hnT, hTe, hT, hdT, h3⟩ := hx
  unfold noteFrame
  simp only [hf]
  refine wpAny_bind (wpAny_field he hd h1 ?_)
  rw [if_pos (show (Value.ref T != Value.none) = true from by simp)]
  refine wpAny_bind (wpAny_field hT hdT h3 ?_)
  rw [if_neg (show ¬ ((Value.none == rawInt L) = true) from by simp [rawInt])]
  refine wpAny_bind (wpAny_setField hT hdT (Array.getElem?_eq_some_iff.mp h3).1 ?_)
  have other : ∀ b, b ≠ T → (s.heap.update T (Obj.mapFields (·.setIfInBounds 3 Value.none))).get? b = s.heap.get? b := fun b hb => Heap.get?_update_other _ _ (Ne.symm hb)
  have noRecord : ∀ b o, s.heap.get? b = some o → (∀ vs, o.data ≠ .fields vs) → b ≠ T := fun b o hb hnf q => by
    rw [q, hT] at hb; injection hb with hb; subst hb; exact hnf ts hdT
  exact entryD hfr (hl.of_keeps fun b o hb hnf => ⟨o, (other b (noRecord b o hb hnf)).trans hb, rfl⟩) hf ((other e (Ne.symm hTe)).trans he)
    (fun b o hbo => (other b fun q => by rw [q, hnT] at hbo; cases hbo).trans (hkb b o hbo)) hen hd (Array.getElem?_eq_some_iff.mp h1).1 ho
    fun h' x1 x4 => h h' x1 fun b o hb hnf => x4 b o ((other b (noRecord b o hb hnf)).trans hb) hnf

theorem flightNoneD {base : Heap} {l : List Env} {e dx : Addr} {fl : Value} {Q : Unit → Shared → Prop} (hx : FlyD base l e dx fl s.heap)
    (h : ∀ h', FlyD base l e dx .none h' → s.heap.UpToSlots h' → Q () { s with heap := h' }) :
    wpAny M A (setFlight (.ref e) none) Q E s := by
  obtain ⟨hkb, hen, hl, oe, vs, T, oT, ts, he, ho, hd, h1, hnT, hTe, hT, hdT, h3⟩ := hx
  have hsz3 : 3 < ts.size := (Array.getElem?_eq_some_iff.mp h3).1
  have other : ∀ b, b ≠ T → (s.heap.update T (Obj.mapFields (·.setIfInBounds 3 ((none : Option Addr).elim Value.none fun f => rawInt f)))).get? b = s.heap.get? b :=
    fun b hb => Heap.get?_update_other _ _ (Ne.symm hb)
  have noRecord : ∀ b o, s.heap.get? b = some o → (∀ vs, o.data ≠ .fields vs) → b ≠ T := fun b o hb hnf q => by
    rw [q, hT] at hb; injection hb with hb; subst hb; exact hnf ts hdT
  unfold setFlight
  refine wpAny_bind (wpAny_field he hd h1 ?_)
  rw [if_pos (show (Value.ref T != Value.none) = true from by simp)]
  refine wpAny_setField hT hdT hsz3 (h _ ⟨fun b o hbo => (other b fun q => by rw [q, hnT] at hbo; cases hbo).trans (hkb b o hbo), hen,
    hl.of_keeps fun b o hb hnf => ⟨o, (other b (noRecord b o hb hnf)).trans hb, rfl⟩, ?_⟩ fun b o hb hnf => ⟨o.slots, (other b (noRecord b o hb hnf)).trans hb⟩)
  exact ⟨oe, vs, T, _, _, (other e (Ne.symm hTe)).trans he, ho, hd, h1, hnT, hTe, Heap.get?_update_self _ hT (Obj.isFreed_of_fields (Obj.data_mapFields hdT _)), Obj.data_mapFields hdT _, by simp [hsz3]⟩

theorem FlyD.pop {base h : Heap} {env : Env} {outer : List Env} {e dx : Addr} {fl : Value} (x : FlyD base (env :: outer) e dx fl h) : FlyD base outer e dx fl h := by
  obtain ⟨a, b, ⟨_, _, c⟩, d⟩ := x
  exact ⟨a, b, c, d⟩

theorem leaveFirstD {base : Heap} {env : Env} {outer : List Env} {L e dx : Addr} {oe : Obj} {vs : Array Value} {Q : Unit → Shared → Prop}
    (hfr : A.frames = some (env :: outer)) (hl : s.heap.FunFrames base (env :: outer)) (hf : env.frame = some L)
    (he : s.heap.get? e = some oe) (hkb : base.StaysIn s.heap) (hen : base.get? e = none) (hd : oe.data = .fields vs) (h1 : vs[1]? = some .none) (ho : oe.cls = .ref 31 ∧ oe.dict = some dx)
    (h : ∀ h', FlyD base outer e dx .none h' → s.heap.UpToSlots h' → Q () { s with heap := h' }) : wpAny M A (leaving env (.ref e)) Q E s := by
  unfold leaving
  refine wpAny_bind (noteFirstD hfr hl hf he hkb hen hd h1 ho fun h₁ x₁ u₁ => ?_)
  refine flightNoneD x₁ fun h₂ x₂ u₂ => h h₂ x₂.pop (u₁.trans u₂)

theorem leaveNextD {base : Heap} {env : Env} {outer : List Env} {L e dx : Addr} {Q : Unit → Shared → Prop}
    (hfr : A.frames = some (env :: outer)) (hf : env.frame = some L) (hx : FlyD base (env :: outer) e dx .none s.heap)
    (h : ∀ h', FlyD base outer e dx .none h' → s.heap.UpToSlots h' → Q () { s with heap := h' }) : wpAny M A (leaving env (.ref e)) Q E s := by
  unfold leaving
  refine wpAny_bind (noteNextD hfr hf hx fun h₁ x₁ u₁ => ?_)
  refine flightNoneD x₁ fun h₂ x₂ u₂ => h h₂ x₂.pop (u₁.trans u₂)
end

/-- the dict of the exception that says enough -/
noncomputable abbrev enoughEs (w : World) (k1 k2 k3 t1 : Nat) (tr : Value) : List DictEntry :=
  [⟨PyData.keyHash w.params (Str.ofString "value"), .str (Str.ofString "value") k1, .bytes #[101, 110, 111, 117, 103, 104] t1⟩,
   ⟨PyData.keyHash w.params (Str.ofString "trace"), .str (Str.ofString "trace") k2, tr⟩,
   ⟨PyData.keyHash w.params (Str.ofString "is_in_handler"), .str (Str.ofString "is_in_handler") k3, .bool false⟩]

/-- in flight below the frames l, over a heap that keeps the objects of the ledger -/
noncomputable def RaisedD (w : World) (base : Heap) (l : List Env) (e dx : Addr) (news : List (Addr × Obj)) (h : Heap) : Prop :=
  ∃ B, base.StaysIn B ∧ (∀ q ∈ news, B.get? q.1 = some q.2 ∧ base.get? q.1 = none) ∧ (∃ k1 k2 k3 t1 tr, B.get? dx = some (dictOf (enoughEs w k1 k2 k3 t1 tr) 3)) ∧ base.get? dx = none ∧ FlyD B l e dx .none h

section
variable {M : Model} {A : Around} {E : Value → Shared → Prop} {s' : Shared} {base g g₂ : Heap} {outer : List Env} {L a e dx : Addr} {m : Str → Option Value} {name : Str} {scope : Scope} {cd : Value} {cl : List (Str × Addr)} {Q : Unit → Shared → Prop} {news : List (Addr × Obj)} {w : World}

theorem leaveOnD (K : Below A base outer g) (F : Fr g L g₂ m) (hR : RaisedD w base (envX name scope L a cd cl :: outer) e dx news s'.heap) (hsm : g₂.UpToSlots s'.heap)
    (hQ : ∀ h', RaisedD w base outer e dx news h' → g.UpToSlots h' → Q () { s' with heap := h' }) :
    wpAny M (A.deeper (envX name scope L a cd cl)) (leaving (envX name scope L a cd cl) (.ref e)) Q E s' := by
  obtain ⟨B, hB, hl, hdx, hbd, hfl⟩ := hR
  exact leaveNextD (Around.frames_deeper K.stack) rfl hfl fun h' x1 x2 => hQ h' ⟨B, hB, hl, hdx, hbd, x1⟩ ((Heap.UpToSlots.of_keeps F.keep).trans (hsm.trans x2))
end

theorem leaveOnT {M : Model} {E : Value → Shared → Prop} {s' : Shared} {base g g₂ : Heap} {outer : List Env} {L a e dx : Addr} {m : Str → Option Value} {name : Str} {scope : Scope} {cd : Value} {cl : List (Str × Addr)} {Q : Unit → Shared → Prop} {news : List (Addr × Obj)} {w : World}
    {dp un : Nat} {gd : Option (List Code)} (F : Fr g L g₂ m) (hR : RaisedD w base (envX name scope L a cd cl :: outer) e dx news s'.heap) (hsm : g₂.UpToSlots s'.heap)
    (hQ : ∀ h', RaisedD w base outer e dx news h' → g.UpToSlots h' → Q () { s' with heap := h' }) :
    wpAny M (ktrTop dp un gd name scope L a cd cl outer) (leaving (envX name scope L a cd cl) (.ref e)) Q E s' := by
  obtain ⟨B, hB, hl, hdx, hbd, hfl⟩ := hR
  exact leaveNextD rfl rfl hfl fun h' x1 x2 => hQ h' ⟨B, hB, hl, hdx, hbd, x1⟩ ((Heap.UpToSlots.of_keeps F.keep).trans (hsm.trans x2))

/-! ## One turn of a while -/
section
variable {prog : Program} {w : World} {A : Around} {E : Value → Shared → Prop} {s : Shared} {env : Env} {R : Result → Shared → Prop}
theorem whileTurnD {test : Expr} {body : List Stmt}
    (h : wpAny (model prog w) A (isTrue test env (eval test env)) (fun b s₂ =>
        if b = true then wpAny (model prog w) A (execs body env) (fun f s₃ => match f with
            | .next | .cont => codeAny (model prog w) A (.whileLoop test body [] env) R s₃
            | .brk => R (.ok .next) s₃
            | .ret v => R (.ok (.ret v)) s₃) (notedBy (model prog w) A env fun e s' => R (.error e) s') s₂
        else R (.ok .next) s₂)
        (notedBy (model prog w) A env fun e s' => R (.error e) s') s) : codeAny (model prog w) A (.whileLoop test body [] env) R s := by
  refine codeAny_of_tree ?_
  show wpAny _ A ((whileTurn test body [] env).onRaise (fun x => do noteFrame x env; theTreesLotGoes x)) _ _ s
  refine wpAny_noted ?_
  simp only [whileTurn]
  refine wpAny_bind (wpAny_mono h (fun b s₂ h₂ => ?_) fun _ _ h' => h')
  cases b with
  | false =>
    simp only [Bool.false_eq_true, if_false] at h₂ ⊢
    exact wpAny_bind (wpAny_execs_nil (wpAny_pure h₂))
  | true =>
    simp only [if_true] at h₂ ⊢
    refine wpAny_bind (wpAny_mono h₂ (fun f s₃ h₃ => ?_) fun _ _ h' => h')
    cases f with
    | next => exact wpAny_pure ⟨rfl, h₃⟩
    | cont => exact wpAny_pure ⟨rfl, h₃⟩
    | brk => exact wpAny_pure h₃
    | ret v => exact wpAny_pure h₃
end

end R0
section R1
open PySem PySem.W PyProof.Rows PySem.Calls
set_option maxRecDepth 100000
set_option maxHeartbeats 4000000
noncomputable abbrev prg : Program := PySem.Challenge.pw_rh0161_01

theorem itemB {prog : Program} {w : World} {A : Around} {E : Value → Shared → Prop} {s : Shared} {value slice : PySem.Expr} {t : Tok} {x : List UInt8} {i : Int} {ui : Tok} {Q : Value → Shared → Prop}
    (hfit : x.length ≤ 100) (h0 : 0 ≤ i) (h1 : i < (x.length : Int)) (h : ∀ tk, Q (.int (gB x i) tk) { s with toks := tk + 1 })
    (hs : subscripted slice false (.bytes x.toArray t) (.int i ui) = operate [.bytes x.toArray t, .int i ui] (getItem (.bytes x.toArray t) (.int i ui)) := by with_unfolding_all rfl)
    (ht : ∀ r, letTemporaryGo value (.bytes x.toArray t) r = pure () := by intro _; with_unfolding_all rfl) :
    wpAny (model prog w) A (subscriptTail value slice (.bytes x.toArray t) (.int i ui)) Q E s :=
  KBy.item_N (by omega) h0 h1 (h _) hs ht

theorem lenB {prog : Program} {w : World} {A : Around} {E : Value → Shared → Prop} {s : Shared} {t : Tok} {x : List UInt8} {Q : Value → Shared → Prop}
    (hfit : x.length ≤ 100) (h : ∀ tk, Q (.int (x.length : Int) tk) { s with toks := tk + 1 }) :
    wpAny (model prog w) A (call (Value.builtin "len") [Value.bytes x.toArray t]) Q E s := by
  have e : (x.toArray.size : Int) = (x.length : Int) := by simp
  refine len_bytes ?_ ?_
  · simp only [List.size_toArray]; omega
  · rw [e]; exact h _

theorem gives_contains (b : Array UInt8) (t u : Tok) (i : Int) (h0 : 0 ≤ i) (h1 : i < 256) : Gives (Builtin.«bytes.__contains__» ⟨[.bytes b t, .int i u], []⟩) (.val (.bool (b.contains i.toNat.toUInt8))) := by
  refine .of_wp fun M A E s Q hq => ?_
  show wpAny M A (Builtin.Bytes.containsIn "bytes.__contains__" (.bytes b t) (.int i u) >>= fun r => ret (.bool r)) _ E s
  refine wpAny_bind ?_
  unfold Builtin.Bytes.containsIn
  refine wpAny_bind (wpAny_attempt ?_)
  refine wpAny_of_eq (a := i) rfl ?_
  refine wpAny_bind (wpAny_of_eq KBy.buffer_eq ?_)
  dsimp only
  have hn : ¬ ((decide (i < 0) || decide (i ≥ 256)) = true) := by simp only [Bool.or_eq_true, decide_eq_true_eq]; omega
  rw [if_neg hn]
  exact wpAny_pure (wpAny_pure ⟨_, rfl, hq⟩)
theorem in_bf {prog : Program} {w : World} {A : Around} {E : Value → Shared → Prop} {s : Shared} {t u : Tok} {i : Int} {Q : Value → Shared → Prop} (hi : i = 98) (h : Q (.bool true) s) :
    wpAny (model prog w) A (compareOp .In (.int i u) (.bytes #[98, 102] t)) Q E s := by
  subst hi
  exact in_gives (typeIs_bytes s _ t) FB.slot_bytes_contains FB.entry_bytes_contains (FB.args_bytes_contains_2 _ _) (gives_contains _ t u 98 (by decide) (by decide)) (by rw [show (#[98, 102] : Array UInt8).contains (Int.toNat 98).toUInt8 = true from by decide +kernel]; exact h)

/-- what stays of a Matcher's dict through a try -/
structure MK where
  (k1 k2 k3 k4 k5 k6 k7 k8 t1 t2 t3 t5 : Nat)
  (tick st le : Value)
  (lv : Int)

/-- the entries of a Matcher's dict -/
noncomputable abbrev mEs (w : World) (txt pat : List UInt8) (κ : MK) (d : Int) (t4 : Nat) : List DictEntry :=
  [⟨PyData.keyHash w.params (Str.ofString "text"), .str (Str.ofString "text") κ.k1, .bytes txt.toArray κ.t1⟩,
   ⟨PyData.keyHash w.params (Str.ofString "pattern"), .str (Str.ofString "pattern") κ.k2, .bytes pat.toArray κ.t2⟩,
   ⟨PyData.keyHash w.params (Str.ofString "most_depth"), .str (Str.ofString "most_depth") κ.k3, .int 60 κ.t3⟩,
   ⟨PyData.keyHash w.params (Str.ofString "tick"), .str (Str.ofString "tick") κ.k4, κ.tick⟩,
   ⟨PyData.keyHash w.params (Str.ofString "depth"), .str (Str.ofString "depth") κ.k5, .int d t4⟩,
   ⟨PyData.keyHash w.params (Str.ofString "level"), .str (Str.ofString "level") κ.k6, .int κ.lv κ.t5⟩,
   ⟨PyData.keyHash w.params (Str.ofString "starts"), .str (Str.ofString "starts") κ.k7, κ.st⟩,
   ⟨PyData.keyHash w.params (Str.ofString "lengths"), .str (Str.ofString "lengths") κ.k8, κ.le⟩]
noncomputable abbrev mLed (w : World) (M D : Addr) (txt pat : List UInt8) (κ : MK) (d : Int) (t4 : Nat) (rest : List (Addr × Obj)) : List (Addr × Obj) :=
  (M, instObj 253 D) :: (D, dictOf (mEs w txt pat κ d t4) 8) :: rest
theorem all_ne {l : List (Addr × Obj)} {d e : Nat} (h : ∀ p ∈ l, p.1 < d) (he : d ≤ e) : ∀ p ∈ l, p.1 ≠ e := fun p hp q => by
  have := h p hp
  rw [q] at this
  exact absurd this (Nat.not_lt.mpr he)
theorem room_is : recursionLimit = 1000 := rfl

end R1
section G
open PySem PySem.W PyProof.Rows PySem.Calls
local macro_rules | `(tactic| krn_off) => `(tactic| ((refine' code_def ?k1 ?k2 ?k3 ?k4 ?k5 ?kA ?kF ?kK ?k6 ?k7 ?k8 ?k9 ?kB ?_ ?c2 ?c3 ?c4 ?c5; (case kA | kF => exact rfl); (case kK => first | exact rfl | assumption); (case k1 | k2 | k3 | k4 | k5 => k_asm); (case k6 | k7 => k_is); (case k8 => ktr_room); (case k9 => exact BindsTo.of_eq rfl); (case c5 => decide); (case kB => exact locs rfl); (case c2 | c3 | c4 => exact rfl); k_whole); intro g' L' h' FG' F' N' B' X' T'; (try dsimp only); (try k_fold)))
local macro_rules | `(tactic| tb_start) => `(tactic| ((have e0 : (PySem.Challenge.rw_rh0161_01, Mine.hd.heap_1_3) = (PySem.Challenge.rw_rh0161_01, Mine.hd.heap_1_3) := rfl); revert e0; k_fill; intro e0; clear e0))
local macro_rules | `(tactic| tb_rel) => `(tactic| ((try simp only [beq_iff_eq, bne_iff_ne, ne_eq, decide_eq_true_eq, decide_eq_false_iff_not, Bool.and_eq_true, Bool.or_eq_true, Bool.not_eq_true', Bool.not_eq_true, Bool.not_eq_false, beq_eq_false_iff_ne, Bool.not_eq_eq_eq_not]); omega))
local macro_rules | `(tactic| ktr_room) => `(tactic| ((try simp only [depth_under_make, depth_under_kw, depth_in1, depth_deeper, depth_caller]); (try dsimp only [ktrTop]); (have hrL := room_is); omega))
local macro_rules | `(tactic| ktr_rel) => `(tactic| (first | assumption | (refine' cb_drop ?cbA ?cbB; (case cbA => assumption); (case cbB => (intro q9 hq9; (repeat (first | exact hq9 | apply List.mem_cons_of_mem)))))))
local macro_rules | `(tactic| k_all) => `(tactic| (first | assumption | exact all_ne (by assumption) (by omega)))
local macro_rules | `(tactic| walk_at "ite") => `(tactic| (k_here; k_openite; first | (refine ite_pos (by tb_rel) ?_; walk_say "DECIDED") | (refine ite_neg (by tb_rel) ?_; walk_say "DECIDED")))
local macro_rules | `(tactic| walk_at "subscriptTail") => `(tactic| (k_here; (with_reducible show wpAny _ _ (subscriptTail _ _ (Value.bytes (List.toArray _) _) (Value.int _ _)) _ _ _); (refine itemB (by omega) (by omega) (by omega) ?_); intro tk))
local macro_rules | `(tactic| walk_at "call builtin:len") => `(tactic| (k_here; (with_reducible show wpAny _ _ (call (Value.builtin "len") [Value.bytes (List.toArray _) _]) _ _ _); (refine lenB (by omega) ?_); intro tk))
local macro_rules | `(tactic| isplit) => `(tactic| ((try simp only [depth_under_make, depth_under_kw, depth_in1, depth_deeper, depth_caller, units_in1, units_deeper, Around.mark_units, units_caller]); (try dsimp only [ktrTop]); omega))
section GC
open PySem PySem.W PyProof.Rows PySem.Calls
local macro_rules | `(tactic| walk_at "call ref") => `(tactic| (k_here; (fail_if_success (with_reducible show wpAny _ _ (call (Value.ref 161) _) _ _ _)); (fail_if_success (with_reducible show wpAny _ _ (call (Value.ref 119) _) _ _ _)); k_dflt (refine wpAny_call ?_; krn_off)))
section C1
open PySem PySem.W PyProof.Rows PySem.Calls
set_option maxRecDepth 100000
set_option maxHeartbeats 4000000
theorem off_C1 : True := by
  w_top off
  trivial
theorem c_at {P : Program} {loose : List Str} {mean : ExcName → Option Value} {mg mb : Str → Option Value} {w : World}
    {dp un : Nat} {gd : Option (List Code)} {cn : Str} {cs : Scope} {a : Addr} {ccd : Value} {cl : List (Str × Addr)} {outer : List Env} {A₀ : Around} {base h₀ : Heap} {L : Addr} {m : Str → Option Value} {s : Shared}
    {Q E : Value → Shared → Prop} {M D : Addr} {rest : List (Addr × Obj)} {txt pat : List UInt8} {κ : MK} {d : Int} {t4 : Nat} {q : Int} {tq : Nat}
    (B : Below A₀ base outer h₀) (F : Fr h₀ L s.heap m) (X : (Mine.hd.heap_1_3 w.params).In h₀) (N : News h₀ L s.heap (mLed w M D txt pat κ d t4 rest))
    (T : Top P loose mean mg mb h₀) (hk : cs.kind = .function) (hdp : dp + 1 < recursionLimit) (hun : un + 8 < cLine)
    (hq : 0 ≤ q) (hpat : pat.length ≤ 100)
    (ret : ∀ v h' tk', (∃ t, v = .int (atB pat q) t) → Fr h₀ L h' m → News h₀ L h' (mLed w M D txt pat κ d t4 rest) → Q v { s with heap := h', toks := tk' }) :
    wpAny (model prg w) (ktrTop dp un gd cn cs L a ccd cl outer) (call (.ref 133) [.ref M, .int q tq]) Q E s := by
  tb_start
  refine wpAny_call ?_
  k_dflt krn_off
  k_steps
  all_goals (try k_unfold)
  all_goals (refine ret _ _ _ ?_ (by assumption) (by ktr_rel))
  all_goals first
    | exact ⟨_, by simp only [atB]; rw [if_pos (by omega)]⟩
    | exact ⟨_, by simp only [atB]; rw [if_neg (by omega)]⟩


end C1
section GA
open PySem PySem.W PyProof.Rows PySem.Calls
local macro_rules | `(tactic| walk_at "call ref") => `(tactic| (k_here; k_dflt (refine' c_at ?k1 ?k2 ?k3 ?k4 ?k5 ?kK ?kd ?ku ?q0 ?q1 ?_; (case k1 | k2 | k3 => k_asm); (case k4 => ktr_rel); (case k5 => k_asm); (case kK => first | exact rfl | assumption); (case kd => ktr_room); (case ku => ktr_units); (case q0 | q1 => omega)); intro v9 h9 tk9 hv9 F9 N9; obtain ⟨t9, e9⟩ := hv9; subst e9; (try dsimp only); (try k_sweep); (try k_fold)))
section C2
open PySem PySem.W PyProof.Rows PySem.Calls
set_option maxRecDepth 100000
set_option maxHeartbeats 4000000
theorem off_C2 : True := by
  w_top off
  trivial
theorem c_single {P : Program} {loose : List Str} {mean : ExcName → Option Value} {mg mb : Str → Option Value} {w : World}
    {dp un : Nat} {gd : Option (List Code)} {cn : Str} {cs : Scope} {a : Addr} {ccd : Value} {cl : List (Str × Addr)} {outer : List Env} {A₀ : Around} {base h₀ : Heap} {L : Addr} {m : Str → Option Value} {s : Shared}
    {Q E : Value → Shared → Prop} {M D : Addr} {rest : List (Addr × Obj)} {txt pat : List UInt8} {κ : MK} {d : Int} {t4 : Nat} {q : Int} {tq : Nat} {p : Int} {tp : Nat} {e : Int} {te : Nat}
    (B : Below A₀ base outer h₀) (F : Fr h₀ L s.heap m) (X : (Mine.hd.heap_1_3 w.params).In h₀) (N : News h₀ L s.heap (mLed w M D txt pat κ d t4 rest))
    (T : Top P loose mean mg mb h₀) (hk : cs.kind = .function) (hdp : dp + 1 < recursionLimit) (hun : un + 8 < cLine)
    (hq : 0 ≤ q) (hpat : pat.length ≤ 100) (htxt : txt.length ≤ 100) (hp : 0 ≤ p) (hp2 : p < (pat.length : Int)) (hc : 97 ≤ gB pat p)
    (ret : ∀ v h' tk', (v = .bool (decide (sing txt (gB pat p) q))) → Fr h₀ L h' m → News h₀ L h' (mLed w M D txt pat κ d t4 rest) → Q v { s with heap := h', toks := tk' }) :
    wpAny (model prg w) (ktrTop dp un gd cn cs L a ccd cl outer) (call (.ref 154) [.ref M, .int q tq, .int p tp, .int e te]) Q E s := by
  tb_start
  refine wpAny_call ?_
  k_dflt krn_off
  k_steps
  all_goals (try k_unfold)
  all_goals (refine ret _ _ _ ?_ (by assumption) (by ktr_rel))
  · congr 1; symm; exact decide_eq_false (by intro hx; have := hx.1; omega)
  · congr 1; rw [Bool.eq_iff_iff, beq_iff_eq, decide_eq_true_eq]; constructor
    · intro hx; exact ⟨by omega, hx.symm⟩
    · intro hx; exact hx.2.symm


theorem c_class {P : Program} {loose : List Str} {mean : ExcName → Option Value} {mg mb : Str → Option Value} {w : World}
    {dp un : Nat} {gd : Option (List Code)} {cn : Str} {cs : Scope} {a : Addr} {ccd : Value} {cl : List (Str × Addr)} {outer : List Env} {A₀ : Around} {base h₀ : Heap} {L : Addr} {m : Str → Option Value} {s : Shared}
    {Q E : Value → Shared → Prop} {M D : Addr} {rest : List (Addr × Obj)} {txt pat : List UInt8} {κ : MK} {d : Int} {t4 : Nat} {p : Int} {tp : Nat}
    (B : Below A₀ base outer h₀) (F : Fr h₀ L s.heap m) (X : (Mine.hd.heap_1_3 w.params).In h₀) (N : News h₀ L s.heap (mLed w M D txt pat κ d t4 rest))
    (T : Top P loose mean mg mb h₀) (hk : cs.kind = .function) (hdp : dp + 2 < recursionLimit) (hun : un + 16 < cLine)
    (hpat : pat.length ≤ 100) (hp : 0 ≤ p) (hp2 : p < (pat.length : Int)) (hc : 97 ≤ gB pat p)
    (ret : ∀ v h' tk', (∃ t, v = .int (p + 1) t) → Fr h₀ L h' m → News h₀ L h' (mLed w M D txt pat κ d t4 rest) → Q v { s with heap := h', toks := tk' }) :
    wpAny (model prg w) (ktrTop dp un gd cn cs L a ccd cl outer) (call (.ref 140) [.ref M, .int p tp]) Q E s := by
  have hat : atB pat p = gB pat p := if_pos hp2
  tb_start
  refine wpAny_call ?_
  k_dflt krn_off
  k_steps
  all_goals (try k_unfold)
  all_goals (refine ret _ _ _ ?_ (by assumption) (by ktr_rel))
  all_goals exact ⟨_, rfl⟩


end C2
section C3
open PySem PySem.W PyProof.Rows PySem.Calls
set_option maxRecDepth 100000
set_option maxHeartbeats 4000000
theorem off_C3 : True := by
  w_top off
  trivial
local macro_rules | `(tactic| walk_at "exec While BoolOp cons nil") => `(tactic| (k_here; (refine wpAny_While ?_); (refine whileTurnD ?_); (try k_fold)))
local macro_rules | `(tactic| walk_at "exec While Compare cons nil") => `(tactic| (k_here; (refine wpAny_While ?_); (refine whileTurnD ?_); (try k_fold)))
local macro_rules | `(tactic| walk_at "exec While Constant cons nil") => `(tactic| (k_here; (refine wpAny_While ?_); (refine whileTurnD ?_); (try k_fold)))
local macro_rules | `(tactic| walk_at "exec While Call cons nil") => `(tactic| (k_here; (refine wpAny_While ?_); (refine whileTurnD ?_); (try k_fold)))
theorem c_classS {P : Program} {loose : List Str} {mean : ExcName → Option Value} {mg mb : Str → Option Value} {w : World}
    {dp un : Nat} {gd : Option (List Code)} {cn : Str} {cs : Scope} {a : Addr} {ccd : Value} {cl : List (Str × Addr)} {outer : List Env} {A₀ : Around} {base h₀ : Heap} {L : Addr} {m : Str → Option Value} {s : Shared}
    {Q E : Value → Shared → Prop} {M D : Addr} {rest : List (Addr × Obj)} {txt pat : List UInt8} {κ : MK} {d : Int} {t4 : Nat} {p : Int} {tp : Nat}
    (B : Below A₀ base outer h₀) (F : Fr h₀ L s.heap m) (X : (Mine.hd.heap_1_3 w.params).In h₀) (N : News h₀ L s.heap (mLed w M D txt pat κ d t4 rest))
    (T : Top P loose mean mg mb h₀) (hk : cs.kind = .function) (hdp : dp + 2 < recursionLimit) (hun : un + 16 < cLine)
    (hpm : pat = patMost) (hp : p = 0)
    (ret : ∀ v h' tk', (∃ t, v = .int 3 t) → Fr h₀ L h' m → News h₀ L h' (mLed w M D txt pat κ d t4 rest) → Q v { s with heap := h', toks := tk' }) :
    wpAny (model prg w) (ktrTop dp un gd cn cs L a ccd cl outer) (call (.ref 140) [.ref M, .int p tp]) Q E s := by
  subst hpm
  have hl : (patMost.length : Int) = 5 := rfl
  have hl' : patMost.length = 5 := rfl
  have a0 : atB patMost 0 = 91 := by decide
  have a1 : atB patMost (0 + 1) = 97 := by decide
  have a2 : atB patMost (0 + 1 + 1) = 93 := by decide
  have g0 : gB patMost 0 = 91 := by decide
  have g1 : gB patMost (0 + 1) = 97 := by decide
  subst hp
  tb_start
  refine wpAny_call ?_
  k_dflt krn_off
  k_steps
  all_goals (try k_unfold)
  all_goals (first | (refine whileTurnD ?_; (try k_fold)) | skip)
  all_goals k_steps
  all_goals (try k_unfold)
  all_goals (refine ret _ _ _ ?_ (by assumption) (by ktr_rel))
  all_goals exact ⟨_, rfl⟩


theorem c_singleS {P : Program} {loose : List Str} {mean : ExcName → Option Value} {mg mb : Str → Option Value} {w : World}
    {dp un : Nat} {gd : Option (List Code)} {cn : Str} {cs : Scope} {a : Addr} {ccd : Value} {cl : List (Str × Addr)} {outer : List Env} {A₀ : Around} {base h₀ : Heap} {L : Addr} {m : Str → Option Value} {s : Shared}
    {Q E : Value → Shared → Prop} {M D : Addr} {rest : List (Addr × Obj)} {txt pat : List UInt8} {κ : MK} {d : Int} {t4 : Nat} {q : Int} {tq : Nat} {p : Int} {tp : Nat} {e : Int} {te : Nat}
    (B : Below A₀ base outer h₀) (F : Fr h₀ L s.heap m) (X : (Mine.hd.heap_1_3 w.params).In h₀) (N : News h₀ L s.heap (mLed w M D txt pat κ d t4 rest))
    (T : Top P loose mean mg mb h₀) (hk : cs.kind = .function) (hdp : dp + 4 < recursionLimit) (hun : un + 24 < cLine)
    (hpm : pat = patMost) (hp : p = 0) (he : e = 3) (hq : 0 ≤ q) (htxt : txt.length ≤ 100)
    (ret : ∀ v h' tk', (v = .bool (decide (sing txt 97 q))) → Fr h₀ L h' m → News h₀ L h' (mLed w M D txt pat κ d t4 rest) → Q v { s with heap := h', toks := tk' }) :
    wpAny (model prg w) (ktrTop dp un gd cn cs L a ccd cl outer) (call (.ref 154) [.ref M, .int q tq, .int p tp, .int e te]) Q E s := by
  subst hpm
  have hl : (patMost.length : Int) = 5 := rfl
  have hl' : patMost.length = 5 := rfl
  have a0 : atB patMost 0 = 91 := by decide
  have a1 : atB patMost (0 + 1) = 97 := by decide
  have a2 : atB patMost (0 + 1 + 1) = 93 := by decide
  have g0 : gB patMost 0 = 91 := by decide
  have g1 : gB patMost (0 + 1) = 97 := by decide
  subst hp
  subst he
  tb_start
  refine wpAny_call ?_
  k_dflt krn_off
  k_steps
  all_goals (try k_unfold)
  all_goals (first | (refine whileTurnD ?_; (try k_fold)) | skip)
  all_goals k_steps
  all_goals (try k_unfold)
  all_goals (refine ret _ _ _ ?_ (by assumption) (by ktr_rel))
  · congr 1; symm; exact decide_eq_false (by intro hx; have := hx.1; omega)
  · congr 1; symm; exact decide_eq_true ⟨by omega, by omega⟩
  · rw [show (!true) = false from rfl]
    congr 1; symm; exact decide_eq_false (by intro hx; have := hx.2; omega)


end C3
section D0
open PySem PySem.W PyProof.Rows PySem.Calls
set_option maxRecDepth 100000
set_option maxHeartbeats 4000000
theorem off_D0 : True := by
  w_top off
  trivial
theorem fill : True := by
  tb_start
  trivial
/-! ## The pieces of the methods, read off the heap -/
noncomputable abbrev fnScope {K : Frag} {f : Addr} {oc od nm q ps bd sc dV kV doc pm an cdv ct osl} (_ : K.lookup f = some ⟨oc, od, .func (fnOf nm q ps bd sc dV kV doc pm an cdv ct), osl⟩) : Scope := sc
noncomputable abbrev fnQual {K : Frag} {f : Addr} {oc od nm q ps bd sc dV kV doc pm an cdv ct osl} (_ : K.lookup f = some ⟨oc, od, .func (fnOf nm q ps bd sc dV kV doc pm an cdv ct), osl⟩) : Str := q
noncomputable abbrev fnCode {K : Frag} {f : Addr} {oc od nm q ps bd sc dV kV doc pm an cdv ct osl} (_ : K.lookup f = some ⟨oc, od, .func (fnOf nm q ps bd sc dV kV doc pm an cdv ct), osl⟩) : Value := cdv
noncomputable abbrev whT0 {K : Frag} {f : Addr} {oc od nm q ps  t b o pos tl sc dV kV doc pm an cdv ct osl} (_ : K.lookup f = some ⟨oc, od, .func (fnOf nm q ps (.While t b o pos :: tl) sc dV kV doc pm an cdv ct), osl⟩) : PySem.Expr := t
noncomputable abbrev whB0 {K : Frag} {f : Addr} {oc od nm q ps  t b o pos tl sc dV kV doc pm an cdv ct osl} (_ : K.lookup f = some ⟨oc, od, .func (fnOf nm q ps (.While t b o pos :: tl) sc dV kV doc pm an cdv ct), osl⟩) : List Stmt := b
noncomputable abbrev whT1 {K : Frag} {f : Addr} {oc od nm q ps a0 t b o pos tl sc dV kV doc pm an cdv ct osl} (_ : K.lookup f = some ⟨oc, od, .func (fnOf nm q ps (a0 :: .While t b o pos :: tl) sc dV kV doc pm an cdv ct), osl⟩) : PySem.Expr := t
noncomputable abbrev whB1 {K : Frag} {f : Addr} {oc od nm q ps a0 t b o pos tl sc dV kV doc pm an cdv ct osl} (_ : K.lookup f = some ⟨oc, od, .func (fnOf nm q ps (a0 :: .While t b o pos :: tl) sc dV kV doc pm an cdv ct), osl⟩) : List Stmt := b
noncomputable abbrev whT2 {K : Frag} {f : Addr} {oc od nm q ps a0 a1 t b o pos tl sc dV kV doc pm an cdv ct osl} (_ : K.lookup f = some ⟨oc, od, .func (fnOf nm q ps (a0 :: a1 :: .While t b o pos :: tl) sc dV kV doc pm an cdv ct), osl⟩) : PySem.Expr := t
noncomputable abbrev whB2 {K : Frag} {f : Addr} {oc od nm q ps a0 a1 t b o pos tl sc dV kV doc pm an cdv ct osl} (_ : K.lookup f = some ⟨oc, od, .func (fnOf nm q ps (a0 :: a1 :: .While t b o pos :: tl) sc dV kV doc pm an cdv ct), osl⟩) : List Stmt := b
noncomputable abbrev whT5 {K : Frag} {f : Addr} {oc od nm q ps a0 a1 a2 a3 a4 t b o pos tl sc dV kV doc pm an cdv ct osl} (_ : K.lookup f = some ⟨oc, od, .func (fnOf nm q ps (a0 :: a1 :: a2 :: a3 :: a4 :: .While t b o pos :: tl) sc dV kV doc pm an cdv ct), osl⟩) : PySem.Expr := t
noncomputable abbrev whB5 {K : Frag} {f : Addr} {oc od nm q ps a0 a1 a2 a3 a4 t b o pos tl sc dV kV doc pm an cdv ct osl} (_ : K.lookup f = some ⟨oc, od, .func (fnOf nm q ps (a0 :: a1 :: a2 :: a3 :: a4 :: .While t b o pos :: tl) sc dV kV doc pm an cdv ct), osl⟩) : List Stmt := b
noncomputable abbrev mhSc (P : Params) : Scope := by
  refine' fnScope (K := Mine.hd.heap_1_3 P) (f := 168) ?h
  case h => k_is
noncomputable abbrev mhQn (P : Params) : Str := by
  refine' fnQual (K := Mine.hd.heap_1_3 P) (f := 168) ?h
  case h => k_is
noncomputable abbrev mhCd (P : Params) : Value := by
  refine' fnCode (K := Mine.hd.heap_1_3 P) (f := 168) ?h
  case h => k_is
noncomputable abbrev elSc (P : Params) : Scope := by
  refine' fnScope (K := Mine.hd.heap_1_3 P) (f := 203) ?h
  case h => k_is
noncomputable abbrev elQn (P : Params) : Str := by
  refine' fnQual (K := Mine.hd.heap_1_3 P) (f := 203) ?h
  case h => k_is
noncomputable abbrev elCd (P : Params) : Value := by
  refine' fnCode (K := Mine.hd.heap_1_3 P) (f := 203) ?h
  case h => k_is
noncomputable abbrev emSc (P : Params) : Scope := by
  refine' fnScope (K := Mine.hd.heap_1_3 P) (f := 196) ?h
  case h => k_is
noncomputable abbrev emQn (P : Params) : Str := by
  refine' fnQual (K := Mine.hd.heap_1_3 P) (f := 196) ?h
  case h => k_is
noncomputable abbrev emCd (P : Params) : Value := by
  refine' fnCode (K := Mine.hd.heap_1_3 P) (f := 196) ?h
  case h => k_is
noncomputable abbrev blSc (P : Params) : Scope := by
  refine' fnScope (K := Mine.hd.heap_1_3 P) (f := 182) ?h
  case h => k_is
noncomputable abbrev blQn (P : Params) : Str := by
  refine' fnQual (K := Mine.hd.heap_1_3 P) (f := 182) ?h
  case h => k_is
noncomputable abbrev blCd (P : Params) : Value := by
  refine' fnCode (K := Mine.hd.heap_1_3 P) (f := 182) ?h
  case h => k_is
noncomputable abbrev seSc (P : Params) : Scope := by
  refine' fnScope (K := Mine.hd.heap_1_3 P) (f := 250) ?h
  case h => k_is
noncomputable abbrev seQn (P : Params) : Str := by
  refine' fnQual (K := Mine.hd.heap_1_3 P) (f := 250) ?h
  case h => k_is
noncomputable abbrev seCd (P : Params) : Value := by
  refine' fnCode (K := Mine.hd.heap_1_3 P) (f := 250) ?h
  case h => k_is
noncomputable abbrev mhT (P : Params) : PySem.Expr := by
  refine' whT0 (K := Mine.hd.heap_1_3 P) (f := 168) ?h
  case h => k_is
noncomputable abbrev mhB (P : Params) : List Stmt := by
  refine' whB0 (K := Mine.hd.heap_1_3 P) (f := 168) ?h
  case h => k_is
noncomputable abbrev elT (P : Params) : PySem.Expr := by
  refine' whT0 (K := Mine.hd.heap_1_3 P) (f := 203) ?h
  case h => k_is
noncomputable abbrev elB (P : Params) : List Stmt := by
  refine' whB0 (K := Mine.hd.heap_1_3 P) (f := 203) ?h
  case h => k_is
noncomputable abbrev muT (P : Params) : PySem.Expr := by
  refine' whT1 (K := Mine.hd.heap_1_3 P) (f := 196) ?h
  case h => k_is
noncomputable abbrev muB (P : Params) : List Stmt := by
  refine' whB1 (K := Mine.hd.heap_1_3 P) (f := 196) ?h
  case h => k_is
noncomputable abbrev moT (P : Params) : PySem.Expr := by
  refine' whT2 (K := Mine.hd.heap_1_3 P) (f := 196) ?h
  case h => k_is
noncomputable abbrev moB (P : Params) : List Stmt := by
  refine' whB2 (K := Mine.hd.heap_1_3 P) (f := 196) ?h
  case h => k_is
noncomputable abbrev blT (P : Params) : PySem.Expr := by
  refine' whT5 (K := Mine.hd.heap_1_3 P) (f := 182) ?h
  case h => k_is
noncomputable abbrev blB (P : Params) : List Stmt := by
  refine' whB5 (K := Mine.hd.heap_1_3 P) (f := 182) ?h
  case h => k_is
noncomputable abbrev seT (P : Params) : PySem.Expr := by
  refine' whT1 (K := Mine.hd.heap_1_3 P) (f := 250) ?h
  case h => k_is
noncomputable abbrev seB (P : Params) : List Stmt := by
  refine' whB1 (K := Mine.hd.heap_1_3 P) (f := 250) ?h
  case h => k_is

/-! ## What is claimed of a job -/
noncomputable def OptV (r : Option Int) (v : Value) : Prop := match r with
  | none => v = .none
  | some x => ∃ t, v = .int x t

/-- a count: one more is seen, or it is refused -/
noncomputable def CountSpec (w : World) (P : Program) (loose : List Str) (mean : ExcName → Option Value) (mg mb : Str → Option Value) (M D : Addr) (txt pat : List UInt8) (tick : Value) (CL : Nat → List (Addr × Obj) → Prop) (u lf : Nat) : Prop :=
  ∀ {dp un : Nat} {gd : Option (List Code)} {cn : Str} {cs : Scope} {a : Addr} {ccd : Value} {cl : List (Str × Addr)} {outer : List Env} {A₀ : Around} {base h₀ : Heap} {L : Addr} {m : Str → Option Value} {s : Shared}
    {Q E : Value → Shared → Prop} {rest : List (Addr × Obj)} {κ : MK} {d : Int} {t4 n : Nat}
    (B : Below A₀ base outer h₀) (F : Fr h₀ L s.heap m) (X : (Mine.hd.heap_1_3 w.params).In h₀) (N : News h₀ L s.heap (mLed w M D txt pat κ d t4 rest))
    (T : Top P loose mean mg mb h₀) (hk : cs.kind = .function) (hdp : dp + 15 < recursionLimit) (hun : un + 100 < cLine)
    (hκ : κ.tick = tick) (hc : CL n rest) (hr : ∀ p ∈ rest, p.1 ≠ D) (hMD : M ≠ D) (hn : n ≤ lf)
    (ret : n + u ≤ lf → ∀ h' tk' rest', CL (n + u) rest' → (∀ p ∈ rest', p.1 ≠ D) → Fr h₀ L h' m → News h₀ L h' (mLed w M D txt pat κ d t4 rest') → Q .none { s with heap := h', toks := tk' })
    (rai : lf < n + u → ∀ e dx h' tk' rest' g₂, CL (lf + 1) rest' → Fr h₀ L g₂ m → g₂.UpToSlots h' → RaisedD w base (envX cn cs L a ccd cl :: outer) e dx rest' h' → E (.ref e) { s with heap := h', toks := tk' }),
    wpAny (model prg w) (ktrTop dp un gd cn cs L a ccd cl outer) (call (.ref 119) [.ref M]) Q E s

/-- a try of the pattern from pv on at the place sv -/
noncomputable def SMt (w : World) (P : Program) (loose : List Str) (mean : ExcName → Option Value) (mg mb : Str → Option Value) (M D : Addr) (txt pat : List UInt8) (tick : Value) (CL : Nat → List (Addr × Obj) → Prop) (u lf : Nat) (sv pv : Int) (r : Option Int) (k : Nat) : Prop :=
  ∀ {dp un : Nat} {gd : Option (List Code)} {cn : Str} {cs : Scope} {a : Addr} {ccd : Value} {cl : List (Str × Addr)} {outer : List Env} {A₀ : Around} {base h₀ : Heap} {L : Addr} {m : Str → Option Value} {s : Shared}
    {Q E : Value → Shared → Prop} {rest : List (Addr × Obj)} {κ : MK} {d : Int} {t4 n ts tp : Nat}
    (B : Below A₀ base outer h₀) (F : Fr h₀ L s.heap m) (X : (Mine.hd.heap_1_3 w.params).In h₀) (N : News h₀ L s.heap (mLed w M D txt pat κ d t4 rest))
    (T : Top P loose mean mg mb h₀) (hk : cs.kind = .function) (hdp : (dp : Int) + 5 * ((pat.length : Int) - pv) + 30 < 990) (hun : (un : Int) + 30 * ((pat.length : Int) - pv) + 200 < 9900)
    (hκ : κ.tick = tick) (hc : CL n rest) (hr : ∀ p ∈ rest, p.1 ≠ D) (hMD : M ≠ D) (hn : n ≤ lf) (hd : d + ((pat.length : Int) - pv) + 1 ≤ 60)
    (hs : 0 ≤ sv) (hp : 0 ≤ pv) (hpl : pv ≤ (pat.length : Int))
    (ret : n + k ≤ lf → ∀ v h' tk' rest' t4', OptV r v → CL (n + k) rest' → (∀ p ∈ rest', p.1 ≠ D) → Fr h₀ L h' m → News h₀ L h' (mLed w M D txt pat κ d t4' rest') → Q v { s with heap := h', toks := tk' })
    (rai : lf < n + k → ∀ e dx h' tk' rest' g₂, CL (lf + 1) rest' → Fr h₀ L g₂ m → g₂.UpToSlots h' → RaisedD w base (envX cn cs L a ccd cl :: outer) e dx rest' h' → E (.ref e) { s with heap := h', toks := tk' }),
    wpAny (model prg w) (ktrTop dp un gd cn cs L a ccd cl outer) (call (.ref 161) [.ref M, .int sv ts, .int pv tp]) Q E s


noncomputable def SMh (w : World) (P : Program) (loose : List Str) (mean : ExcName → Option Value) (mg mb : Str → Option Value) (M D : Addr) (txt pat : List UInt8) (tick : Value) (CL : Nat → List (Addr × Obj) → Prop) (u lf : Nat) (sv pv : Int) (r : Option Int) (k : Nat) : Prop :=
  ∀ {dp un : Nat} {gd : Option (List Code)} {outer : List Env} {A₀ : Around} {base g : Heap} {L : Addr} {m : Str → Option Value} {s : Shared}
    {Rr : Result → Shared → Prop} {rest : List (Addr × Obj)} {κ : MK} {d : Int} {t4 n ts tp : Nat}
    (B : Below A₀ base outer g) (F : Fr g L s.heap m) (X : (Mine.hd.heap_1_3 w.params).In g) (N : News g L s.heap (mLed w M D txt pat κ d t4 rest)) (T : Top P loose mean mg mb g)
    (hdp : (dp : Int) + 5 * ((pat.length : Int) - pv) + 25 < 990) (hun : (un : Int) + 30 * ((pat.length : Int) - pv) + 180 < 9900)
    (hκ : κ.tick = tick) (hc : CL n rest) (hr : ∀ p ∈ rest, p.1 ≠ D) (hMD : M ≠ D) (hn : n ≤ lf) (hd : d + ((pat.length : Int) - pv) ≤ 60)
    (hself : m "self" = some (.ref M)) (hms : m "s" = some (.int sv ts)) (hmp : m "p" = some (.int pv tp)) (hs : 0 ≤ sv) (hp : 0 ≤ pv) (hpl : pv ≤ (pat.length : Int))
    (retV : n + k ≤ lf → ∀ v m' h' tk' rest' t4', OptV r v → CL (n + k) rest' → (∀ p ∈ rest', p.1 ≠ D) → Fr g L h' m' → News g L h' (mLed w M D txt pat κ d t4' rest') → Rr (.ok (.ret v)) { s with heap := h', toks := tk' })
    (retN : n + k ≤ lf → ∀ m' h' tk' rest' t4', (∃ x t, r = some x ∧ m' "s" = some (.int x t)) → CL (n + k) rest' → (∀ p ∈ rest', p.1 ≠ D) → Fr g L h' m' → News g L h' (mLed w M D txt pat κ d t4' rest') → Rr (.ok .next) { s with heap := h', toks := tk' })
    (rai : lf < n + k → ∀ e dx m' h' tk' rest' g₂, CL (lf + 1) rest' → Fr g L g₂ m' → g₂.UpToSlots h' → RaisedD w base (envOf (mhQn w.params) (mhSc w.params) L 168 (mhCd w.params) :: outer) e dx rest' h' →
      notedBy (model prg w) (ktrTop dp un gd (mhQn w.params) (mhSc w.params) L 168 (mhCd w.params) [] outer) (envOf (mhQn w.params) (mhSc w.params) L 168 (mhCd w.params)) (fun e s' => Rr (.error e) s') (.ref e) { s with heap := h', toks := tk' }),
    codeAny (model prg w) (ktrTop dp un gd (mhQn w.params) (mhSc w.params) L 168 (mhCd w.params) [] outer) (.whileLoop (mhT w.params) (mhB w.params) [] (envOf (mhQn w.params) (mhSc w.params) L 168 (mhCd w.params))) Rr s


noncomputable def SEl (w : World) (P : Program) (loose : List Str) (mean : ExcName → Option Value) (mg mb : Str → Option Value) (M D : Addr) (txt pat : List UInt8) (tick : Value) (CL : Nat → List (Addr × Obj) → Prop) (u lf : Nat) (sv pv ev : Int) (r : Option Int) (k : Nat) : Prop :=
  ∀ {dp un : Nat} {gd : Option (List Code)} {outer : List Env} {A₀ : Around} {base g : Heap} {L : Addr} {m : Str → Option Value} {s : Shared}
    {Rr : Result → Shared → Prop} {rest : List (Addr × Obj)} {κ : MK} {d : Int} {t4 n ts tp te : Nat}
    (B : Below A₀ base outer g) (F : Fr g L s.heap m) (X : (Mine.hd.heap_1_3 w.params).In g) (N : News g L s.heap (mLed w M D txt pat κ d t4 rest)) (T : Top P loose mean mg mb g)
    (hdp : (dp : Int) + 5 * ((pat.length : Int) - pv) + 23 < 990) (hun : (un : Int) + 30 * ((pat.length : Int) - pv) + 170 < 9900)
    (hκ : κ.tick = tick) (hc : CL n rest) (hr : ∀ p ∈ rest, p.1 ≠ D) (hMD : M ≠ D) (hn : n ≤ lf) (hd : d + ((pat.length : Int) - pv) ≤ 60)
    (hself : m "self" = some (.ref M)) (hms : m "s" = some (.int sv ts)) (hmp : m "p" = some (.int pv tp)) (hme : m "end" = some (.int ev te)) (hs : 0 ≤ sv) (hp : isLeast pat pv) (he : ev = pv + 1)
    (retV : n + k ≤ lf → ∀ v m' h' tk' rest' t4', OptV r v → CL (n + k) rest' → (∀ p ∈ rest', p.1 ≠ D) → Fr g L h' m' → News g L h' (mLed w M D txt pat κ d t4' rest') → Rr (.ok (.ret v)) { s with heap := h', toks := tk' })
    (rai : lf < n + k → ∀ e dx m' h' tk' rest' g₂, CL (lf + 1) rest' → Fr g L g₂ m' → g₂.UpToSlots h' → RaisedD w base (envOf (elQn w.params) (elSc w.params) L 203 (elCd w.params) :: outer) e dx rest' h' →
      notedBy (model prg w) (ktrTop dp un gd (elQn w.params) (elSc w.params) L 203 (elCd w.params) [] outer) (envOf (elQn w.params) (elSc w.params) L 203 (elCd w.params)) (fun e s' => Rr (.error e) s') (.ref e) { s with heap := h', toks := tk' }),
    codeAny (model prg w) (ktrTop dp un gd (elQn w.params) (elSc w.params) L 203 (elCd w.params) [] outer) (.whileLoop (elT w.params) (elB w.params) [] (envOf (elQn w.params) (elSc w.params) L 203 (elCd w.params))) Rr s


noncomputable def SMu (w : World) (P : Program) (loose : List Str) (mean : ExcName → Option Value) (mg mb : Str → Option Value) (M D : Addr) (txt pat : List UInt8) (tick : Value) (CL : Nat → List (Addr × Obj) → Prop) (u lf : Nat) (sv pv ev mv : Int) (r : Option Int) (k : Nat) : Prop :=
  ∀ {dp un : Nat} {gd : Option (List Code)} {outer : List Env} {A₀ : Around} {base g : Heap} {L : Addr} {m : Str → Option Value} {s : Shared}
    {Rr : Result → Shared → Prop} {rest : List (Addr × Obj)} {κ : MK} {d : Int} {t4 n ts tp te tk : Nat}
    (B : Below A₀ base outer g) (F : Fr g L s.heap m) (X : (Mine.hd.heap_1_3 w.params).In g) (N : News g L s.heap (mLed w M D txt pat κ d t4 rest)) (T : Top P loose mean mg mb g)
    (hdp : (dp : Int) + 5 * ((pat.length : Int) - pv) + 23 < 990) (hun : (un : Int) + 30 * ((pat.length : Int) - pv) + 170 < 9900)
    (hκ : κ.tick = tick) (hc : CL n rest) (hr : ∀ p ∈ rest, p.1 ≠ D) (hMD : M ≠ D) (hn : n ≤ lf) (hd : d + ((pat.length : Int) - pv) ≤ 60)
    (hself : m "self" = some (.ref M)) (hms : m "s" = some (.int sv ts)) (hmp : m "p" = some (.int pv tp)) (hme : m "end" = some (.int ev te)) (hmk : m "many" = some (.int mv tk)) (hs : 0 ≤ sv) (hpm : pat = patMost) (hp : pv = 0) (he : ev = 3) (hmv : 0 ≤ mv)
    
    (retN : n + k ≤ lf → ∀ m' h' tk' rest' t4', (∃ x t, r = some x ∧ 0 ≤ x ∧ m' "many" = some (.int x t) ∧ m' "self" = some (.ref M) ∧ (∃ t, m' "s" = some (.int sv t)) ∧ (∃ t, m' "p" = some (.int pv t)) ∧ (∃ t, m' "end" = some (.int ev t))) → CL (n + k) rest' → (∀ p ∈ rest', p.1 ≠ D) → Fr g L h' m' → News g L h' (mLed w M D txt pat κ d t4' rest') → Rr (.ok .next) { s with heap := h', toks := tk' })
    (rai : lf < n + k → ∀ e dx m' h' tk' rest' g₂, CL (lf + 1) rest' → Fr g L g₂ m' → g₂.UpToSlots h' → RaisedD w base (envOf (emQn w.params) (emSc w.params) L 196 (emCd w.params) :: outer) e dx rest' h' →
      notedBy (model prg w) (ktrTop dp un gd (emQn w.params) (emSc w.params) L 196 (emCd w.params) [] outer) (envOf (emQn w.params) (emSc w.params) L 196 (emCd w.params)) (fun e s' => Rr (.error e) s') (.ref e) { s with heap := h', toks := tk' }),
    codeAny (model prg w) (ktrTop dp un gd (emQn w.params) (emSc w.params) L 196 (emCd w.params) [] outer) (.whileLoop (muT w.params) (muB w.params) [] (envOf (emQn w.params) (emSc w.params) L 196 (emCd w.params))) Rr s


noncomputable def SMo (w : World) (P : Program) (loose : List Str) (mean : ExcName → Option Value) (mg mb : Str → Option Value) (M D : Addr) (txt pat : List UInt8) (tick : Value) (CL : Nat → List (Addr × Obj) → Prop) (u lf : Nat) (sv pv ev mv : Int) (r : Option Int) (k : Nat) : Prop :=
  ∀ {dp un : Nat} {gd : Option (List Code)} {outer : List Env} {A₀ : Around} {base g : Heap} {L : Addr} {m : Str → Option Value} {s : Shared}
    {Rr : Result → Shared → Prop} {rest : List (Addr × Obj)} {κ : MK} {d : Int} {t4 n ts tp te tk : Nat}
    (B : Below A₀ base outer g) (F : Fr g L s.heap m) (X : (Mine.hd.heap_1_3 w.params).In g) (N : News g L s.heap (mLed w M D txt pat κ d t4 rest)) (T : Top P loose mean mg mb g)
    (hdp : (dp : Int) + 5 * ((pat.length : Int) - pv) + 23 < 990) (hun : (un : Int) + 30 * ((pat.length : Int) - pv) + 170 < 9900)
    (hκ : κ.tick = tick) (hc : CL n rest) (hr : ∀ p ∈ rest, p.1 ≠ D) (hMD : M ≠ D) (hn : n ≤ lf) (hd : d + ((pat.length : Int) - pv) ≤ 60)
    (hself : m "self" = some (.ref M)) (hms : m "s" = some (.int sv ts)) (hmp : m "p" = some (.int pv tp)) (hme : m "end" = some (.int ev te)) (hmk : m "many" = some (.int mv tk)) (hs : 0 ≤ sv) (hpm : pat = patMost) (hp : pv = 0) (he : ev = 3)
    (retV : n + k ≤ lf → ∀ v m' h' tk' rest' t4', OptV r v → CL (n + k) rest' → (∀ p ∈ rest', p.1 ≠ D) → Fr g L h' m' → News g L h' (mLed w M D txt pat κ d t4' rest') → Rr (.ok (.ret v)) { s with heap := h', toks := tk' })
    (retN : n + k ≤ lf → ∀ m' h' tk' rest' t4', r = none → CL (n + k) rest' → (∀ p ∈ rest', p.1 ≠ D) → Fr g L h' m' → News g L h' (mLed w M D txt pat κ d t4' rest') → Rr (.ok .next) { s with heap := h', toks := tk' })
    (rai : lf < n + k → ∀ e dx m' h' tk' rest' g₂, CL (lf + 1) rest' → Fr g L g₂ m' → g₂.UpToSlots h' → RaisedD w base (envOf (emQn w.params) (emSc w.params) L 196 (emCd w.params) :: outer) e dx rest' h' →
      notedBy (model prg w) (ktrTop dp un gd (emQn w.params) (emSc w.params) L 196 (emCd w.params) [] outer) (envOf (emQn w.params) (emSc w.params) L 196 (emCd w.params)) (fun e s' => Rr (.error e) s') (.ref e) { s with heap := h', toks := tk' }),
    codeAny (model prg w) (ktrTop dp un gd (emQn w.params) (emSc w.params) L 196 (emCd w.params) [] outer) (.whileLoop (moT w.params) (moB w.params) [] (envOf (emQn w.params) (emSc w.params) L 196 (emCd w.params))) Rr s


noncomputable def SBl (w : World) (P : Program) (loose : List Str) (mean : ExcName → Option Value) (mg mb : Str → Option Value) (M D : Addr) (txt pat : List UInt8) (tick : Value) (CL : Nat → List (Addr × Obj) → Prop) (u lf : Nat) (sv ov : Int) (r : Option Int) (k : Nat) : Prop :=
  ∀ {dp un : Nat} {gd : Option (List Code)} {outer : List Env} {A₀ : Around} {base g : Heap} {L : Addr} {m : Str → Option Value} {s : Shared}
    {Rr : Result → Shared → Prop} {rest : List (Addr × Obj)} {κ : MK} {d : Int} {t4 n ts to tb te : Nat}
    (B : Below A₀ base outer g) (F : Fr g L s.heap m) (X : (Mine.hd.heap_1_3 w.params).In g) (N : News g L s.heap (mLed w M D txt pat κ d t4 rest)) (T : Top P loose mean mg mb g)
    (hdp : (dp : Int) + 5 * ((pat.length : Int) - 0) + 23 < 990) (hun : (un : Int) + 30 * ((pat.length : Int) - 0) + 170 < 9900)
    (hκ : κ.tick = tick) (hc : CL n rest) (hr : ∀ p ∈ rest, p.1 ≠ D) (hMD : M ≠ D) (hn : n ≤ lf) (hd : d + ((pat.length : Int) - 0) ≤ 60)
    (hself : m "self" = some (.ref M)) (hms : m "s" = some (.int sv ts)) (hmo : m "open_ones" = some (.int ov to)) (hmb : m "begin" = some (.int 40 tb)) (hme : m "end" = some (.int 41 te)) (hs : 0 ≤ sv)
    (retV : n + k ≤ lf → ∀ v m' h' tk' rest' t4', OptV r v → CL (n + k) rest' → (∀ p ∈ rest', p.1 ≠ D) → Fr g L h' m' → News g L h' (mLed w M D txt pat κ d t4' rest') → Rr (.ok (.ret v)) { s with heap := h', toks := tk' })
    (retN : n + k ≤ lf → ∀ m' h' tk' rest' t4', r = none → CL (n + k) rest' → (∀ p ∈ rest', p.1 ≠ D) → Fr g L h' m' → News g L h' (mLed w M D txt pat κ d t4' rest') → Rr (.ok .next) { s with heap := h', toks := tk' })
    (rai : lf < n + k → ∀ e dx m' h' tk' rest' g₂, CL (lf + 1) rest' → Fr g L g₂ m' → g₂.UpToSlots h' → RaisedD w base (envOf (blQn w.params) (blSc w.params) L 182 (blCd w.params) :: outer) e dx rest' h' →
      notedBy (model prg w) (ktrTop dp un gd (blQn w.params) (blSc w.params) L 182 (blCd w.params) [] outer) (envOf (blQn w.params) (blSc w.params) L 182 (blCd w.params)) (fun e s' => Rr (.error e) s') (.ref e) { s with heap := h', toks := tk' }),
    codeAny (model prg w) (ktrTop dp un gd (blQn w.params) (blSc w.params) L 182 (blCd w.params) [] outer) (.whileLoop (blT w.params) (blB w.params) [] (envOf (blQn w.params) (blSc w.params) L 182 (blCd w.params))) Rr s


noncomputable def JS (w : World) (P : Program) (loose : List Str) (mean : ExcName → Option Value) (mg mb : Str → Option Value) (M D : Addr) (txt pat : List UInt8) (tick : Value) (CL : Nat → List (Addr × Obj) → Prop) (u lf : Nat) (j : Job) (r : Option Int) (k : Nat) : Prop := match j with
  | .mt s p => SMt w P loose mean mg mb M D txt pat tick CL u lf s p r k
  | .mh s p => SMh w P loose mean mg mb M D txt pat tick CL u lf s p r k
  | .el s p e => isLeast pat p → e = p + 1 → SEl w P loose mean mg mb M D txt pat tick CL u lf s p e r k
  | .mu s p e m => p = 0 → e = 3 → SMu w P loose mean mg mb M D txt pat tick CL u lf s p e m r k
  | .mo s p e m => p = 0 → e = 3 → SMo w P loose mean mg mb M D txt pat tick CL u lf s p e m r k
  | .bl s o => SBl w P loose mean mg mb M D txt pat tick CL u lf s o r k

end D0
section GJ
open PySem PySem.W PyProof.Rows PySem.Calls
local macro_rules | `(tactic| got_up) => `(tactic| (first | exact rfl | assumption | ((try dsimp only); (repeat (first | rw [if_pos (by decide)] | rw [if_neg (by decide)])); first | exact rfl | assumption)))
local macro_rules | `(tactic| walk_at "eval Name") => `(tactic| (k_here; (with_reducible rename Fr _ _ _ _ => kF); k_dflt (refine' ld ?k1 ?k2 ?_; (case k1 => k_asm); (case k2 => got_up); k_whole)))
local macro_rules | `(tactic| walk_at "loadName") => `(tactic| (k_here; k_dflt (refine' ldn ?k1 ?k2 ?_; (case k1 => k_asm); (case k2 => got_up); k_whole)))
local macro_rules | `(tactic| walk_at "exec While BoolOp cons nil") => `(tactic| (k_here; (refine wpAny_While ?_)))
local macro_rules | `(tactic| walk_at "exec While Compare cons nil") => `(tactic| (k_here; (refine wpAny_While ?_)))
local macro_rules | `(tactic| walk_at "exec While Constant cons nil") => `(tactic| (k_here; (refine wpAny_While ?_)))
local macro_rules | `(tactic| walk_at "exec While Call cons nil") => `(tactic| (k_here; (refine wpAny_While ?_)))
section J1
open PySem PySem.W PyProof.Rows PySem.Calls
set_option maxRecDepth 100000
set_option maxHeartbeats 4000000
theorem off_J1 : True := by
  w_top off
  trivial

theorem j_mt {w : World} {P : Program} {loose : List Str} {mean : ExcName → Option Value} {mg mb : Str → Option Value} {M D : Addr} {txt pat : List UInt8} {tick : Value} {CL : Nat → List (Addr × Obj) → Prop} {u lf : Nat} (HC : CountSpec w P loose mean mg mb M D txt pat tick CL u lf) (hpat : pat.length ≤ 100) (htxt : txt.length ≤ 100) {s p : Int} {r : Option Int} {k : Nat} (ih : SMh w P loose mean mg mb M D txt pat tick CL u lf s p r k) : SMt w P loose mean mg mb M D txt pat tick CL u lf s p r (k + u) := by
  unfold SMt
  intro dp un gd cn cs a ccd cl outer A₀ base h₀ L m st Q E rest κ d t4 n ts tp B F X N T hk hdp hun hκ hc hr hMD hn hd hs hp hpl ret rai
  tb_start
  refine wpAny_call ?_
  k_dflt krn_off
  k_steps
  (try dsimp only [List.append_nil])
  k_dflt (refine' HC ?k1 ?k2 ?k3 ?k4 ?k5 ?kK ?kd ?ku ?q0 (by assumption) (by assumption) hMD (by assumption) ?ret ?rai; (case k1 => k_asm); (case k2 => k_asm); (case k3 => k_asm); (case k4 => ktr_rel); (case k5 => k_asm); (case kK => first | exact rfl | assumption); (case kd => ktr_room); (case ku => ktr_units); (case q0 => assumption))
  case rai =>
    intro hlt e8 dx8 h8 tk8 rest8 g8 hcl8 F8 U8 R8
    (try k_unfold); (try dsimp only)
    k_dflt (refine' leaveOnT (cl := []) ?l8f ?l8r ?l8u ?_; (case l8r => exact R8); (case l8u => exact U8); (case l8f => first | exact F8 | k_asm))
    intro h7 R7 U7
    (try k_unfold); (try dsimp only)
    exact rai (by omega) _ _ _ _ _ _ hcl8 (by assumption) U7 R7
  intro hle9 h9 tk9 rest9 hc9 hr9 F9 N9
  (try dsimp only); (try k_fold)
  k_steps
  k_dflt (refine' ih ?k1 ?k2 ?k3 ?k4 ?k5 ?kd ?ku ?q0 hc9 hr9 hMD ?hn ?hd ?h1 ?h2 ?h3 hs hp hpl ?retV ?retN ?rai; (case k1 => k_asm); (case k2 => k_asm); (case k3 => k_asm); (case k4 => ktr_rel); (case k5 => k_asm); (case kd => isplit); (case ku => isplit); (case q0 => assumption); (case hn => omega); (case hd => omega); (case h1 => got_up); (case h2 => got_up); (case h3 => got_up))
  case rai =>
    intro hlt e8 dx8 m8 h8 tk8 rest8 g8 hcl8 F8 U8 R8
    refine PassesOwn.leaving _ _ ?_
    (try k_unfold); (try dsimp only)
    k_dflt (refine' leaveOnT (cl := []) ?l8f ?l8r ?l8u ?_; (case l8r => exact R8); (case l8u => exact U8); (case l8f => first | exact F8 | k_asm))
    intro h7 R7 U7
    (try k_unfold); (try dsimp only)
    (try k_unfold); (try dsimp only)
    k_dflt (refine' leaveOnT (cl := []) ?l7f ?l7r ?l7u ?_; (case l7r => exact R7); (case l7u => exact U7); (case l7f => first | exact F7 | k_asm))
    intro h6 R6 U6
    (try k_unfold); (try dsimp only)
    exact rai (by omega) _ _ _ _ _ _ hcl8 (by assumption) U6 R6
  case retV =>
    intro hle8 v8 m8 h8 tk8 rest8 t48 hv8 hc8 hr8 F8 N8
    (try dsimp only); (try k_fold)
    k_steps
    refine ret (by omega) _ _ _ _ _ hv8 (by rw [show n + (k + u) = n + u + k by omega]; assumption) hr8 (by assumption) (by rw [show d = d + 1 - 1 by omega]; assumption)
  case retN =>
    intro hle8 m8 h8 tk8 rest8 t48 hv8 hc8 hr8 F8 N8
    obtain ⟨x8, t8, rfl, hm8⟩ := hv8
    (try dsimp only); (try k_fold)
    k_steps
    refine ret (by omega) _ _ _ _ _ ⟨_, rfl⟩ (by rw [show n + (k + u) = n + u + k by omega]; assumption) hr8 (by assumption) (by rw [show d = d + 1 - 1 by omega]; assumption)
end J1
section GN
open PySem PySem.W PyProof.Rows PySem.Calls
local macro_rules | `(tactic| walk_at "call ref") => `(tactic| (k_here; k_dflt (refine' c_class ?k1 ?k2 ?k3 ?k4 ?k5 ?kK ?kd ?ku ?q0 ?q1 ?q2 ?q3 ?_; (case k1 | k2 | k3 => k_asm); (case k4 => ktr_rel); (case k5 => k_asm); (case kK => first | exact rfl | assumption); (case kd => ktr_room); (case ku => ktr_units); (case q0 | q1 | q2 | q3 => omega)); intro v9 h9 tk9 hv9 F9 N9; obtain ⟨t9, e9⟩ := hv9; subst e9; (try dsimp only); (try k_sweep); (try k_fold)))
local macro_rules | `(tactic| walk_at "call ref") => `(tactic| (k_here; k_dflt (refine' c_single ?k1 ?k2 ?k3 ?k4 ?k5 ?kK ?kd ?ku ?q0 ?q1 ?q2 ?q3 ?q4 ?q5 ?_; (case k1 | k2 | k3 => k_asm); (case k4 => ktr_rel); (case k5 => k_asm); (case kK => first | exact rfl | assumption); (case kd => ktr_room); (case ku => ktr_units); (case q0 | q1 | q2 | q3 | q4 | q5 => omega)); intro v9 h9 tk9 hv9 F9 N9; subst hv9; (first | rw [decide_eq_true (by assumption)] | rw [decide_eq_false (by assumption)]); (try dsimp only); (try k_sweep); (try k_fold)))
section J2
open PySem PySem.W PyProof.Rows PySem.Calls
set_option maxRecDepth 100000
set_option maxHeartbeats 4000000
theorem off_J2 : True := by
  w_top off
  trivial

theorem j_end {w : World} {P : Program} {loose : List Str} {mean : ExcName → Option Value} {mg mb : Str → Option Value} {M D : Addr} {txt pat : List UInt8} {tick : Value} {CL : Nat → List (Addr × Obj) → Prop} {u lf : Nat} (HC : CountSpec w P loose mean mg mb M D txt pat tick CL u lf) (hpat : pat.length ≤ 100) (htxt : txt.length ≤ 100) {s p : Int} (h : p = (pat.length : Int)) : SMh w P loose mean mg mb M D txt pat tick CL u lf s p (some s) (0) := by
  unfold SMh
  intro dp un gd outer A₀ base g L m st Rr rest κ d t4 n ts tp B F X N T hdp hun hκ hc hr hMD hn hd hself hms hmp hs hp hpl retV retN rai
  tb_start

  refine whileTurnD ?_
  (try dsimp only); (try k_fold)
  k_steps
  exact retN (by omega) _ _ _ _ _ ⟨_, _, rfl, hms⟩ hc hr (by assumption) (by assumption)


theorem j_lit {w : World} {P : Program} {loose : List Str} {mean : ExcName → Option Value} {mg mb : Str → Option Value} {M D : Addr} {txt pat : List UInt8} {tick : Value} {CL : Nat → List (Addr × Obj) → Prop} {u lf : Nat} (HC : CountSpec w P loose mean mg mb M D txt pat tick CL u lf) (hpat : pat.length ≤ 100) (htxt : txt.length ≤ 100) {s p : Int} {r : Option Int} {k : Nat} (hl : isLit pat p) (hs' : sing txt (gB pat p) s) (ih : SMh w P loose mean mg mb M D txt pat tick CL u lf (s + 1) (p + 1) r k) : SMh w P loose mean mg mb M D txt pat tick CL u lf s p r (k + u) := by
  unfold SMh
  intro dp un gd outer A₀ base g L m st Rr rest κ d t4 n ts tp B F X N T hdp hun hκ hc hr hMD hn hd hself hms hmp hs hp hpl retV retN rai
  tb_start

  refine whileTurnD ?_
  (try dsimp only); (try k_fold)
  k_steps
  (try dsimp only [List.append_nil])
  k_dflt (refine' HC ?k1 ?k2 ?k3 ?k4 ?k5 ?kK ?kd ?ku ?q0 (by assumption) (by assumption) hMD (by assumption) ?ret ?rai; (case k1 => k_asm); (case k2 => k_asm); (case k3 => k_asm); (case k4 => ktr_rel); (case k5 => k_asm); (case kK => first | exact rfl | assumption); (case kd => ktr_room); (case ku => ktr_units); (case q0 => assumption))
  case rai =>
    intro hlt e8 dx8 h8 tk8 rest8 g8 hcl8 F8 U8 R8
    (try k_unfold); (try dsimp only)
    exact rai (by omega) _ _ _ _ _ _ _ hcl8 F8 U8 R8
  intro hle9 h9 tk9 rest9 hc9 hr9 F9 N9
  (try dsimp only); (try k_fold)
  k_steps
  k_dflt (refine' ih ?k1 ?k2 ?k3 ?k4 ?k5 ?kd ?ku ?q0 ?hc ?hr hMD ?hn ?hd ?m0 ?m1 ?m2 ?x0 ?x1 ?x2 ?retV ?retN ?rai; (case k1 => k_asm); (case k2 => k_asm); (case k3 => k_asm); (case k4 => ktr_rel); (case k5 => k_asm); (case kd => isplit); (case ku => isplit); (case q0 => assumption); (case hc => assumption); (case hr => assumption); (case hn => omega); (case hd => omega); (case m0 => got_up); (case m1 => got_up); (case m2 => got_up); (case x0 => omega); (case x1 => omega); (case x2 => omega))
  case rai =>
    intro hlt e8 dx8 m8 h8 tk8 rest8 g8 hcl8 F8 U8 R8
    (try k_unfold); (try dsimp only)
    exact rai (by omega) _ _ _ _ _ _ _ hcl8 F8 U8 R8
  case retV =>
    intro hle8 v8 m8 h8 tk8 rest8 t48 hv8 hc8 hr8 F8 N8
    exact retV (by omega) _ _ _ _ _ _ hv8 (by rw [show n + (k + u) = n + u + k by omega]; assumption) hr8 F8 N8
  case retN =>
    intro hle8 m8 h8 tk8 rest8 t48 hv8 hc8 hr8 F8 N8
    exact retN (by omega) _ _ _ _ _ hv8 (by rw [show n + (k + u) = n + u + k by omega]; assumption) hr8 F8 N8


theorem j_no {w : World} {P : Program} {loose : List Str} {mean : ExcName → Option Value} {mg mb : Str → Option Value} {M D : Addr} {txt pat : List UInt8} {tick : Value} {CL : Nat → List (Addr × Obj) → Prop} {u lf : Nat} (HC : CountSpec w P loose mean mg mb M D txt pat tick CL u lf) (hpat : pat.length ≤ 100) (htxt : txt.length ≤ 100) {s p : Int} (hl : isLit pat p) (hs' : ¬ sing txt (gB pat p) s) : SMh w P loose mean mg mb M D txt pat tick CL u lf s p none (u) := by
  unfold SMh
  intro dp un gd outer A₀ base g L m st Rr rest κ d t4 n ts tp B F X N T hdp hun hκ hc hr hMD hn hd hself hms hmp hs hp hpl retV retN rai
  tb_start

  refine whileTurnD ?_
  (try dsimp only); (try k_fold)
  k_steps
  (try dsimp only [List.append_nil])
  k_dflt (refine' HC ?k1 ?k2 ?k3 ?k4 ?k5 ?kK ?kd ?ku ?q0 (by assumption) (by assumption) hMD (by assumption) ?ret ?rai; (case k1 => k_asm); (case k2 => k_asm); (case k3 => k_asm); (case k4 => ktr_rel); (case k5 => k_asm); (case kK => first | exact rfl | assumption); (case kd => ktr_room); (case ku => ktr_units); (case q0 => assumption))
  case rai =>
    intro hlt e8 dx8 h8 tk8 rest8 g8 hcl8 F8 U8 R8
    (try k_unfold); (try dsimp only)
    exact rai (by omega) _ _ _ _ _ _ _ hcl8 F8 U8 R8
  intro hle9 h9 tk9 rest9 hc9 hr9 F9 N9
  (try dsimp only); (try k_fold)
  k_steps
  (try dsimp only)
  exact retV (by omega) _ _ _ _ _ _ rfl (by assumption) (by assumption) (by assumption) (by ktr_rel)


theorem j_least {w : World} {P : Program} {loose : List Str} {mean : ExcName → Option Value} {mg mb : Str → Option Value} {M D : Addr} {txt pat : List UInt8} {tick : Value} {CL : Nat → List (Addr × Obj) → Prop} {u lf : Nat} (HC : CountSpec w P loose mean mg mb M D txt pat tick CL u lf) (hpat : pat.length ≤ 100) (htxt : txt.length ≤ 100) {s p : Int} {r : Option Int} {k : Nat} (hl : isLeast pat p) (ih : SEl w P loose mean mg mb M D txt pat tick CL u lf s p (p + 1) r k) : SMh w P loose mean mg mb M D txt pat tick CL u lf s p r (k + u) := by
  unfold SMh
  intro dp un gd outer A₀ base g L m st Rr rest κ d t4 n ts tp B F X N T hdp hun hκ hc hr hMD hn hd hself hms hmp hs hp hpl retV retN rai
  tb_start
  have hat : atB pat (p + 1) = 45 := (if_pos hl.2.1).trans hl.2.2.2.2
  refine whileTurnD ?_
  (try dsimp only); (try k_fold)
  k_steps
  (try dsimp only [List.append_nil])
  k_dflt (refine' HC ?k1 ?k2 ?k3 ?k4 ?k5 ?kK ?kd ?ku ?q0 (by assumption) (by assumption) hMD (by assumption) ?ret ?rai; (case k1 => k_asm); (case k2 => k_asm); (case k3 => k_asm); (case k4 => ktr_rel); (case k5 => k_asm); (case kK => first | exact rfl | assumption); (case kd => ktr_room); (case ku => ktr_units); (case q0 => assumption))
  case rai =>
    intro hlt e8 dx8 h8 tk8 rest8 g8 hcl8 F8 U8 R8
    (try k_unfold); (try dsimp only)
    exact rai (by omega) _ _ _ _ _ _ _ hcl8 F8 U8 R8
  intro hle9 h9 tk9 rest9 hc9 hr9 F9 N9
  (try dsimp only); (try k_fold)
  k_steps
  k_dflt (refine' ih ?k1 ?k2 ?k3 ?k4 ?k5 ?kd ?ku ?q0 ?hc ?hr hMD ?hn ?hd ?m0 ?m1 ?m2 ?m3 ?x0 ?x1 ?x2 ?retV  ?rai; (case k1 => k_asm); (case k2 => k_asm); (case k3 => k_asm); (case k4 => ktr_rel); (case k5 => k_asm); (case kd => isplit); (case ku => isplit); (case q0 => assumption); (case hc => assumption); (case hr => assumption); (case hn => omega); (case hd => omega); (case m0 => got_up); (case m1 => got_up); (case m2 => got_up); (case m3 => got_up); (case x0 => omega); (case x1 => assumption); (case x2 => rfl))
  case rai =>
    intro hlt e8 dx8 m8 h8 tk8 rest8 g8 hcl8 F8 U8 R8
    refine PassesOwn.leaving _ _ ?_
    (try k_unfold); (try dsimp only)
    k_dflt (refine' leaveOnT (cl := []) ?l8f ?l8r ?l8u ?_; (case l8r => exact R8); (case l8u => exact U8); (case l8f => first | exact F8 | k_asm))
    intro h7 R7 U7
    (try k_unfold); (try dsimp only)
    exact rai (by omega) _ _ _ _ _ _ _ hcl8 (by assumption) U7 R7
  case retV =>
    intro hle8 v8 m8 h8 tk8 rest8 t48 hv8 hc8 hr8 F8 N8
    (try dsimp only); (try k_fold)
    k_steps
    exact retV (by omega) _ _ _ _ _ _ hv8 (by rw [show n + (k + u) = n + u + k by omega]; assumption) hr8 (by assumption) (by ktr_rel)

end J2
section J3
open PySem PySem.W PyProof.Rows PySem.Calls
set_option maxRecDepth 100000
set_option maxHeartbeats 4000000
theorem off_J3 : True := by
  w_top off
  trivial
local macro_rules | `(tactic| walk_at "filler") => `(tactic| fail)

theorem j_elf {w : World} {P : Program} {loose : List Str} {mean : ExcName → Option Value} {mg mb : Str → Option Value} {M D : Addr} {txt pat : List UInt8} {tick : Value} {CL : Nat → List (Addr × Obj) → Prop} {u lf : Nat} (HC : CountSpec w P loose mean mg mb M D txt pat tick CL u lf) (hpat : pat.length ≤ 100) (htxt : txt.length ≤ 100) {s p e x : Int} {k : Nat} (ih : SMt w P loose mean mg mb M D txt pat tick CL u lf s (e + 1) (some x) k) : SEl w P loose mean mg mb M D txt pat tick CL u lf s p e (some x) (k) := by
  unfold SEl
  intro dp un gd outer A₀ base g L m st Rr rest κ d t4 n ts tp te B F X N T hdp hun hκ hc hr hMD hn hd hself hms hmp hme hs hp he retV rai
  tb_start
  subst he
  refine whileTurnD ?_
  (try dsimp only); (try k_fold)
  k_steps
  (try dsimp only [List.append_nil, List.cons_append, List.nil_append])
  k_dflt (refine' ih  ?k1 ?k2 ?k3 ?k4 ?k5 ?kK ?kd ?ku ?q0 ?hc ?hr hMD ?hn ?hd ?hs ?hp ?hpl ?ret ?rai; (case k1 => k_asm); (case k2 => k_asm); (case k3 => k_asm); (case k4 => ktr_rel); (case k5 => k_asm); (case kK => first | exact rfl | assumption); (case kd => isplit); (case ku => isplit); (case q0 => assumption); (case hc => assumption); (case hr => assumption); (case hn => omega); (case hd => omega); (case hs => omega); (case hp => omega); (case hpl => omega))
  case rai =>
    intro hlt e8 dx8 h8 tk8 rest8 g8 hcl8 F8 U8 R8
    (try k_unfold); (try dsimp only)
    exact rai (by omega) _ _ _ _ _ _ _ hcl8 F8 U8 R8
  intro hle9 v9 h9 tk9 rest9 t49 hv9 hc9 hr9 F9 N9
  obtain ⟨t9, e9⟩ := (hv9 : ∃ t, v9 = .int x t)
  subst e9
  (try dsimp only); (try k_fold)
  k_steps
  (try dsimp only)
  exact retV (by omega) _ _ _ _ _ _ ⟨_, rfl⟩ (by assumption) hr9 (by assumption) (by ktr_rel)


theorem j_els {w : World} {P : Program} {loose : List Str} {mean : ExcName → Option Value} {mg mb : Str → Option Value} {M D : Addr} {txt pat : List UInt8} {tick : Value} {CL : Nat → List (Addr × Obj) → Prop} {u lf : Nat} (HC : CountSpec w P loose mean mg mb M D txt pat tick CL u lf) (hpat : pat.length ≤ 100) (htxt : txt.length ≤ 100) {s p e : Int} {k : Nat} (ih : SMt w P loose mean mg mb M D txt pat tick CL u lf s (e + 1) none k) (hs' : ¬ sing txt (gB pat p) s) : SEl w P loose mean mg mb M D txt pat tick CL u lf s p e none (k) := by
  unfold SEl
  intro dp un gd outer A₀ base g L m st Rr rest κ d t4 n ts tp te B F X N T hdp hun hκ hc hr hMD hn hd hself hms hmp hme hs hp he retV rai
  tb_start
  subst he
  refine whileTurnD ?_
  (try dsimp only); (try k_fold)
  k_steps
  (try dsimp only [List.append_nil, List.cons_append, List.nil_append])
  k_dflt (refine' ih  ?k1 ?k2 ?k3 ?k4 ?k5 ?kK ?kd ?ku ?q0 ?hc ?hr hMD ?hn ?hd ?hs ?hp ?hpl ?ret ?rai; (case k1 => k_asm); (case k2 => k_asm); (case k3 => k_asm); (case k4 => ktr_rel); (case k5 => k_asm); (case kK => first | exact rfl | assumption); (case kd => isplit); (case ku => isplit); (case q0 => assumption); (case hc => assumption); (case hr => assumption); (case hn => omega); (case hd => omega); (case hs => omega); (case hp => omega); (case hpl => omega))
  case rai =>
    intro hlt e8 dx8 h8 tk8 rest8 g8 hcl8 F8 U8 R8
    (try k_unfold); (try dsimp only)
    exact rai (by omega) _ _ _ _ _ _ _ hcl8 F8 U8 R8
  intro hle9 v9 h9 tk9 rest9 t49 hv9 hc9 hr9 F9 N9
  have e9 : v9 = .none := hv9
  subst e9
  (try dsimp only); (try k_fold)
  k_steps
  (try dsimp only)
  exact retV (by omega) _ _ _ _ _ _ rfl (by assumption) hr9 (by assumption) (by ktr_rel)


theorem j_eln {w : World} {P : Program} {loose : List Str} {mean : ExcName → Option Value} {mg mb : Str → Option Value} {M D : Addr} {txt pat : List UInt8} {tick : Value} {CL : Nat → List (Addr × Obj) → Prop} {u lf : Nat} (HC : CountSpec w P loose mean mg mb M D txt pat tick CL u lf) (hpat : pat.length ≤ 100) (htxt : txt.length ≤ 100) {s p e : Int} {r : Option Int} {k k' : Nat} (ih : SMt w P loose mean mg mb M D txt pat tick CL u lf s (e + 1) none k) (hs' : sing txt (gB pat p) s) (ih2 : SEl w P loose mean mg mb M D txt pat tick CL u lf (s + 1) p e r k') : SEl w P loose mean mg mb M D txt pat tick CL u lf s p e r (k + k') := by
  unfold SEl
  intro dp un gd outer A₀ base g L m st Rr rest κ d t4 n ts tp te B F X N T hdp hun hκ hc hr hMD hn hd hself hms hmp hme hs hp he retV rai
  tb_start
  subst he
  refine whileTurnD ?_
  (try dsimp only); (try k_fold)
  k_steps
  (try dsimp only [List.append_nil, List.cons_append, List.nil_append])
  k_dflt (refine' ih  ?k1 ?k2 ?k3 ?k4 ?k5 ?kK ?kd ?ku ?q0 ?hc ?hr hMD ?hn ?hd ?hs ?hp ?hpl ?ret ?rai; (case k1 => k_asm); (case k2 => k_asm); (case k3 => k_asm); (case k4 => ktr_rel); (case k5 => k_asm); (case kK => first | exact rfl | assumption); (case kd => isplit); (case ku => isplit); (case q0 => assumption); (case hc => assumption); (case hr => assumption); (case hn => omega); (case hd => omega); (case hs => omega); (case hp => omega); (case hpl => omega))
  case rai =>
    intro hlt e8 dx8 h8 tk8 rest8 g8 hcl8 F8 U8 R8
    (try k_unfold); (try dsimp only)
    exact rai (by omega) _ _ _ _ _ _ _ hcl8 F8 U8 R8
  intro hle9 v9 h9 tk9 rest9 t49 hv9 hc9 hr9 F9 N9
  have e9 : v9 = .none := hv9
  subst e9
  (try dsimp only); (try k_fold)
  k_steps
  k_dflt (refine' ih2 ?k1 ?k2 ?k3 ?k4 ?k5 ?kd ?ku ?q0 ?hc ?hr hMD ?hn ?hd ?m0 ?m1 ?m2 ?m3 ?x0 ?x1 ?x2 ?retV  ?rai; (case k1 => k_asm); (case k2 => k_asm); (case k3 => k_asm); (case k4 => ktr_rel); (case k5 => k_asm); (case kd => isplit); (case ku => isplit); (case q0 => assumption); (case hc => assumption); (case hr => assumption); (case hn => omega); (case hd => omega); (case m0 => got_up); (case m1 => got_up); (case m2 => got_up); (case m3 => got_up); (case x0 => omega); (case x1 => assumption); (case x2 => rfl))
  case rai =>
    intro hlt e8 dx8 m8 h8 tk8 rest8 g8 hcl8 F8 U8 R8
    (try k_unfold); (try dsimp only)
    exact rai (by omega) _ _ _ _ _ _ _ hcl8 F8 U8 R8
  case retV =>
    intro hle8 v8 m8 h8 tk8 rest8 t48 hv8 hc8 hr8 F8 N8
    exact retV (by omega) _ _ _ _ _ _ hv8 (by rw [show n + (k + k') = n + k + k' by omega]; assumption) hr8 F8 N8

end J3
section J4
open PySem PySem.W PyProof.Rows PySem.Calls
set_option maxRecDepth 100000
set_option maxHeartbeats 4000000
theorem off_J4 : True := by
  w_top off
  trivial
local macro_rules | `(tactic| walk_at "call ref") => `(tactic| (k_here; k_dflt (refine' c_classS ?k1 ?k2 ?k3 ?k4 ?k5 ?kK ?kd ?ku ?q0 ?q1 ?_; (case k1 | k2 | k3 => k_asm); (case k4 => ktr_rel); (case k5 => k_asm); (case kK => first | exact rfl | assumption); (case kd => ktr_room); (case ku => ktr_units); (case q0 => assumption); (case q1 => omega)); intro v9 h9 tk9 hv9 F9 N9; obtain ⟨t9, e9⟩ := hv9; subst e9; (try dsimp only); (try k_sweep); (try k_fold)))
local macro_rules | `(tactic| walk_at "call ref") => `(tactic| (k_here; k_dflt (refine' c_singleS ?k1 ?k2 ?k3 ?k4 ?k5 ?kK ?kd ?ku ?q0 ?q1 ?q2 ?q3 ?q4 ?_; (case k1 | k2 | k3 => k_asm); (case k4 => ktr_rel); (case k5 => k_asm); (case kK => first | exact rfl | assumption); (case kd => ktr_room); (case ku => ktr_units); (case q0 => assumption); (case q1 | q2 | q3 | q4 => omega)); intro v9 h9 tk9 hv9 F9 N9; subst hv9; (first | rw [decide_eq_true (by assumption)] | rw [decide_eq_false (by assumption)]); (try dsimp only); (try k_sweep); (try k_fold)))

theorem j_muu {w : World} {P : Program} {loose : List Str} {mean : ExcName → Option Value} {mg mb : Str → Option Value} {M D : Addr} {txt pat : List UInt8} {tick : Value} {CL : Nat → List (Addr × Obj) → Prop} {u lf : Nat} (HC : CountSpec w P loose mean mg mb M D txt pat tick CL u lf) (hpat : pat.length ≤ 100) (htxt : txt.length ≤ 100) {s p e m : Int} {r : Option Int} {k : Nat} (hs' : sing txt 97 (s + m)) (ih : SMu w P loose mean mg mb M D txt pat tick CL u lf s p e (m + 1) r k) : SMu w P loose mean mg mb M D txt pat tick CL u lf s p e m r (k + u) := by
  unfold SMu
  intro dp un gd outer A₀ base g L m st Rr rest κ d t4 n ts tp te tm B F X N T hdp hun hκ hc hr hMD hn hd hself hms hmp hme hmk hs hpm hp he hmv retN rai
  tb_start
  have hlen : pat.length = 5 := by rw [hpm]; rfl
  subst hp
  subst he
  refine whileTurnD ?_
  (try dsimp only); (try k_fold)
  k_steps
  (try dsimp only [List.append_nil])
  k_dflt (refine' HC ?k1 ?k2 ?k3 ?k4 ?k5 ?kK ?kd ?ku ?q0 (by assumption) (by assumption) hMD (by assumption) ?ret ?rai; (case k1 => k_asm); (case k2 => k_asm); (case k3 => k_asm); (case k4 => ktr_rel); (case k5 => k_asm); (case kK => first | exact rfl | assumption); (case kd => ktr_room); (case ku => ktr_units); (case q0 => assumption))
  case rai =>
    intro hlt e8 dx8 h8 tk8 rest8 g8 hcl8 F8 U8 R8
    (try k_unfold); (try dsimp only)
    exact rai (by omega) _ _ _ _ _ _ _ hcl8 F8 U8 R8
  intro hle9 h9 tk9 rest9 hc9 hr9 F9 N9
  (try dsimp only); (try k_fold)
  k_steps
  k_dflt (refine' ih ?k1 ?k2 ?k3 ?k4 ?k5 ?kd ?ku ?q0 ?hc ?hr hMD ?hn ?hd ?m0 ?m1 ?m2 ?m3 ?m4 ?x0 ?x1 ?x2 ?x3 ?x4  ?retN ?rai; (case k1 => k_asm); (case k2 => k_asm); (case k3 => k_asm); (case k4 => ktr_rel); (case k5 => k_asm); (case kd => isplit); (case ku => isplit); (case q0 => assumption); (case hc => assumption); (case hr => assumption); (case hn => omega); (case hd => omega); (case m0 => got_up); (case m1 => got_up); (case m2 => got_up); (case m3 => got_up); (case m4 => got_up); (case x0 => omega); (case x1 => assumption); (case x2 => rfl); (case x3 => rfl); (case x4 => omega))
  case rai =>
    intro hlt e8 dx8 m8 h8 tk8 rest8 g8 hcl8 F8 U8 R8
    (try k_unfold); (try dsimp only)
    exact rai (by omega) _ _ _ _ _ _ _ hcl8 F8 U8 R8
  case retN =>
    intro hle8 m8 h8 tk8 rest8 t48 hv8 hc8 hr8 F8 N8
    exact retN (by omega) _ _ _ _ _ hv8 (by rw [show n + (k + u) = n + u + k by omega]; assumption) hr8 F8 N8


theorem j_mud {w : World} {P : Program} {loose : List Str} {mean : ExcName → Option Value} {mg mb : Str → Option Value} {M D : Addr} {txt pat : List UInt8} {tick : Value} {CL : Nat → List (Addr × Obj) → Prop} {u lf : Nat} (HC : CountSpec w P loose mean mg mb M D txt pat tick CL u lf) (hpat : pat.length ≤ 100) (htxt : txt.length ≤ 100) {s p e m : Int} (hs' : ¬ sing txt 97 (s + m)) : SMu w P loose mean mg mb M D txt pat tick CL u lf s p e m (some m) (0) := by
  unfold SMu
  intro dp un gd outer A₀ base g L m st Rr rest κ d t4 n ts tp te tm B F X N T hdp hun hκ hc hr hMD hn hd hself hms hmp hme hmk hs hpm hp he hmv retN rai
  tb_start
  have hlen : pat.length = 5 := by rw [hpm]; rfl
  subst hp
  subst he
  refine whileTurnD ?_
  (try dsimp only); (try k_fold)
  k_steps
  exact retN (by omega) _ _ _ _ _ ⟨_, _, rfl, hmv, hmk, hself, ⟨_, hms⟩, ⟨_, hmp⟩, ⟨_, hme⟩⟩ hc hr (by assumption) (by ktr_rel)


theorem j_moe {w : World} {P : Program} {loose : List Str} {mean : ExcName → Option Value} {mg mb : Str → Option Value} {M D : Addr} {txt pat : List UInt8} {tick : Value} {CL : Nat → List (Addr × Obj) → Prop} {u lf : Nat} (HC : CountSpec w P loose mean mg mb M D txt pat tick CL u lf) (hpat : pat.length ≤ 100) (htxt : txt.length ≤ 100) {s p e m : Int} (hm : m < 0) : SMo w P loose mean mg mb M D txt pat tick CL u lf s p e m none (0) := by
  unfold SMo
  intro dp un gd outer A₀ base g L m st Rr rest κ d t4 n ts tp te tm B F X N T hdp hun hκ hc hr hMD hn hd hself hms hmp hme hmk hs hpm hp he retV retN rai
  tb_start
  have hlen : pat.length = 5 := by rw [hpm]; rfl
  subst hp
  subst he
  refine whileTurnD ?_
  (try dsimp only); (try k_fold)
  k_steps
  exact retN (by omega) _ _ _ _ _ rfl hc hr (by assumption) (by ktr_rel)


theorem j_mof {w : World} {P : Program} {loose : List Str} {mean : ExcName → Option Value} {mg mb : Str → Option Value} {M D : Addr} {txt pat : List UInt8} {tick : Value} {CL : Nat → List (Addr × Obj) → Prop} {u lf : Nat} (HC : CountSpec w P loose mean mg mb M D txt pat tick CL u lf) (hpat : pat.length ≤ 100) (htxt : txt.length ≤ 100) {s p e m x : Int} {k : Nat} (hm : 0 ≤ m) (ih : SMt w P loose mean mg mb M D txt pat tick CL u lf (s + m) (e + 1) (some x) k) : SMo w P loose mean mg mb M D txt pat tick CL u lf s p e m (some x) (k) := by
  unfold SMo
  intro dp un gd outer A₀ base g L m st Rr rest κ d t4 n ts tp te tm B F X N T hdp hun hκ hc hr hMD hn hd hself hms hmp hme hmk hs hpm hp he retV retN rai
  tb_start
  have hlen : pat.length = 5 := by rw [hpm]; rfl
  subst hp
  subst he
  refine whileTurnD ?_
  (try dsimp only); (try k_fold)
  k_steps
  (try dsimp only [List.append_nil, List.cons_append, List.nil_append])
  k_dflt (refine' ih  ?k1 ?k2 ?k3 ?k4 ?k5 ?kK ?kd ?ku ?q0 ?hc ?hr hMD ?hn ?hd ?hs ?hp ?hpl ?ret ?rai; (case k1 => k_asm); (case k2 => k_asm); (case k3 => k_asm); (case k4 => ktr_rel); (case k5 => k_asm); (case kK => first | exact rfl | assumption); (case kd => isplit); (case ku => isplit); (case q0 => assumption); (case hc => assumption); (case hr => assumption); (case hn => omega); (case hd => omega); (case hs => omega); (case hp => omega); (case hpl => omega))
  case rai =>
    intro hlt e8 dx8 h8 tk8 rest8 g8 hcl8 F8 U8 R8
    (try k_unfold); (try dsimp only)
    exact rai (by omega) _ _ _ _ _ _ _ hcl8 F8 U8 R8
  intro hle9 v9 h9 tk9 rest9 t49 hv9 hc9 hr9 F9 N9
  obtain ⟨t9, e9⟩ := (hv9 : ∃ t, v9 = .int x t)
  subst e9
  (try dsimp only); (try k_fold)
  k_steps
  (try dsimp only)
  exact retV (by omega) _ _ _ _ _ _ ⟨_, rfl⟩ (by assumption) hr9 (by assumption) (by ktr_rel)


theorem j_mon {w : World} {P : Program} {loose : List Str} {mean : ExcName → Option Value} {mg mb : Str → Option Value} {M D : Addr} {txt pat : List UInt8} {tick : Value} {CL : Nat → List (Addr × Obj) → Prop} {u lf : Nat} (HC : CountSpec w P loose mean mg mb M D txt pat tick CL u lf) (hpat : pat.length ≤ 100) (htxt : txt.length ≤ 100) {s p e m : Int} {r : Option Int} {k k' : Nat} (hm : 0 ≤ m) (ih : SMt w P loose mean mg mb M D txt pat tick CL u lf (s + m) (e + 1) none k) (ih2 : SMo w P loose mean mg mb M D txt pat tick CL u lf s p e (m - 1) r k') : SMo w P loose mean mg mb M D txt pat tick CL u lf s p e m r (k + k') := by
  unfold SMo
  intro dp un gd outer A₀ base g L m st Rr rest κ d t4 n ts tp te tm B F X N T hdp hun hκ hc hr hMD hn hd hself hms hmp hme hmk hs hpm hp he retV retN rai
  tb_start
  have hlen : pat.length = 5 := by rw [hpm]; rfl
  subst hp
  subst he
  refine whileTurnD ?_
  (try dsimp only); (try k_fold)
  k_steps
  (try dsimp only [List.append_nil, List.cons_append, List.nil_append])
  k_dflt (refine' ih  ?k1 ?k2 ?k3 ?k4 ?k5 ?kK ?kd ?ku ?q0 ?hc ?hr hMD ?hn ?hd ?hs ?hp ?hpl ?ret ?rai; (case k1 => k_asm); (case k2 => k_asm); (case k3 => k_asm); (case k4 => ktr_rel); (case k5 => k_asm); (case kK => first | exact rfl | assumption); (case kd => isplit); (case ku => isplit); (case q0 => assumption); (case hc => assumption); (case hr => assumption); (case hn => omega); (case hd => omega); (case hs => omega); (case hp => omega); (case hpl => omega))
  case rai =>
    intro hlt e8 dx8 h8 tk8 rest8 g8 hcl8 F8 U8 R8
    (try k_unfold); (try dsimp only)
    exact rai (by omega) _ _ _ _ _ _ _ hcl8 F8 U8 R8
  intro hle9 v9 h9 tk9 rest9 t49 hv9 hc9 hr9 F9 N9
  have e9 : v9 = .none := hv9
  subst e9
  (try dsimp only); (try k_fold)
  k_steps
  k_dflt (refine' ih2 ?k1 ?k2 ?k3 ?k4 ?k5 ?kd ?ku ?q0 ?hc ?hr hMD ?hn ?hd ?m0 ?m1 ?m2 ?m3 ?m4 ?x0 ?x1 ?x2 ?x3 ?retV ?retN ?rai; (case k1 => k_asm); (case k2 => k_asm); (case k3 => k_asm); (case k4 => ktr_rel); (case k5 => k_asm); (case kd => isplit); (case ku => isplit); (case q0 => assumption); (case hc => assumption); (case hr => assumption); (case hn => omega); (case hd => omega); (case m0 => got_up); (case m1 => got_up); (case m2 => got_up); (case m3 => got_up); (case m4 => got_up); (case x0 => omega); (case x1 => assumption); (case x2 => rfl); (case x3 => rfl))
  case rai =>
    intro hlt e8 dx8 m8 h8 tk8 rest8 g8 hcl8 F8 U8 R8
    (try k_unfold); (try dsimp only)
    exact rai (by omega) _ _ _ _ _ _ _ hcl8 F8 U8 R8
  case retV =>
    intro hle8 v8 m8 h8 tk8 rest8 t48 hv8 hc8 hr8 F8 N8
    exact retV (by omega) _ _ _ _ _ _ hv8 (by rw [show n + (k + k') = n + k + k' by omega]; assumption) hr8 F8 N8
  case retN =>
    intro hle8 m8 h8 tk8 rest8 t48 hv8 hc8 hr8 F8 N8
    exact retN (by omega) _ _ _ _ _ hv8 (by rw [show n + (k + k') = n + k + k' by omega]; assumption) hr8 F8 N8


theorem j_most {w : World} {P : Program} {loose : List Str} {mean : ExcName → Option Value} {mg mb : Str → Option Value} {M D : Addr} {txt pat : List UInt8} {tick : Value} {CL : Nat → List (Addr × Obj) → Prop} {u lf : Nat} (HC : CountSpec w P loose mean mg mb M D txt pat tick CL u lf) (hpat : pat.length ≤ 100) (htxt : txt.length ≤ 100) {s mm : Int} {r : Option Int} {k k' : Nat} (hl : pat = patMost) (ih : SMu w P loose mean mg mb M D txt pat tick CL u lf s 0 3 0 (some mm) k) (ih2 : SMo w P loose mean mg mb M D txt pat tick CL u lf s 0 3 mm r k') : SMh w P loose mean mg mb M D txt pat tick CL u lf s 0 r (u + k + k') := by
  unfold SMh
  intro dp un gd outer A₀ base g L m st Rr rest κ d t4 n ts tp B F X N T hdp hun hκ hc hr hMD hn hd hself hms hmp hs hp hpl retV retN rai
  tb_start
  have hlen : pat.length = 5 := by rw [hl]; rfl
  have a1 : atB pat (0 + 1) = 97 := by rw [hl]; decide
  have a3 : atB pat 3 = 42 := by rw [hl]; decide
  have g0 : gB pat 0 = 91 := by rw [hl]; decide
  refine whileTurnD ?_
  (try dsimp only); (try k_fold)
  k_steps
  (try dsimp only [List.append_nil])
  k_dflt (refine' HC ?k1 ?k2 ?k3 ?k4 ?k5 ?kK ?kd ?ku ?q0 (by assumption) (by assumption) hMD (by assumption) ?ret ?rai; (case k1 => k_asm); (case k2 => k_asm); (case k3 => k_asm); (case k4 => ktr_rel); (case k5 => k_asm); (case kK => first | exact rfl | assumption); (case kd => ktr_room); (case ku => ktr_units); (case q0 => assumption))
  case rai =>
    intro hlt e8 dx8 h8 tk8 rest8 g8 hcl8 F8 U8 R8
    (try k_unfold); (try dsimp only)
    exact rai (by omega) _ _ _ _ _ _ _ hcl8 F8 U8 R8
  intro hle9 h9 tk9 rest9 hc9 hr9 F9 N9
  (try dsimp only); (try k_fold)
  k_steps
  k_dflt (refine' ih ?k1 ?k2 ?k3 ?k4 ?k5 ?kd ?ku ?q0 ?hc ?hr hMD ?hn ?hd ?m0 ?m1 ?m2 ?m3 ?m4 ?x0 ?x1 ?x2 ?x3 ?x4  ?retN ?rai; (case k1 => k_asm); (case k2 => k_asm); (case k3 => k_asm); (case k4 => ktr_rel); (case k5 => k_asm); (case kd => isplit); (case ku => isplit); (case q0 => assumption); (case hc => assumption); (case hr => assumption); (case hn => omega); (case hd => omega); (case m0 => got_up); (case m1 => got_up); (case m2 => got_up); (case m3 => got_up); (case m4 => got_up); (case x0 => omega); (case x1 => assumption); (case x2 => rfl); (case x3 => rfl); (case x4 => omega))
  case rai =>
    intro hlt e8 dx8 m8 h8 tk8 rest8 g8 hcl8 F8 U8 R8
    refine PassesOwn.leaving _ _ ?_
    (try k_unfold); (try dsimp only)
    k_dflt (refine' leaveOnT (cl := []) ?l8f ?l8r ?l8u ?_; (case l8r => exact R8); (case l8u => exact U8); (case l8f => first | exact F8 | k_asm))
    intro h7 R7 U7
    (try k_unfold); (try dsimp only)
    exact rai (by omega) _ _ _ _ _ _ _ hcl8 (by assumption) U7 R7
  case retN =>
    intro hle8 m8 h8 tk8 rest8 t48 hv8 hc8 hr8 F8 N8
    obtain ⟨x8, t8, ex8, hx8, q1, q2, ⟨ts8, q3⟩, ⟨tp8, q4⟩, ⟨te8, q5⟩⟩ := hv8
    cases ex8
    (try dsimp only); (try k_fold)
    k_steps
    k_dflt (refine' ih2 ?k1 ?k2 ?k3 ?k4 ?k5 ?kd ?ku ?q0 ?hc ?hr hMD ?hn ?hd ?m0 ?m1 ?m2 ?m3 ?m4 ?x0 ?x1 ?x2 ?x3 ?retV ?retN ?rai; (case k1 => k_asm); (case k2 => k_asm); (case k3 => k_asm); (case k4 => ktr_rel); (case k5 => k_asm); (case kd => isplit); (case ku => isplit); (case q0 => assumption); (case hc => assumption); (case hr => assumption); (case hn => omega); (case hd => omega); (case m0 => got_up); (case m1 => got_up); (case m2 => got_up); (case m3 => got_up); (case m4 => got_up); (case x0 => omega); (case x1 => assumption); (case x2 => rfl); (case x3 => rfl))
    case rai =>
      intro hlt e8 dx8 m8 h8 tk8 rest8 g8 hcl8 F8 U8 R8
      refine PassesOwn.leaving _ _ ?_
      (try k_unfold); (try dsimp only)
      k_dflt (refine' leaveOnT (cl := []) ?l8f ?l8r ?l8u ?_; (case l8r => exact R8); (case l8u => exact U8); (case l8f => first | exact F8 | k_asm))
      intro h7 R7 U7
      (try k_unfold); (try dsimp only)
      exact rai (by omega) _ _ _ _ _ _ _ hcl8 (by assumption) U7 R7
    case retV =>
      intro hle8 v8 m8 h8 tk8 rest8 t48 hv8 hc8 hr8 F8 N8
      (try dsimp only); (try k_fold)
      k_steps
      (try dsimp only)
      exact retV (by omega) _ _ _ _ _ _ hv8 (by rw [show n + (u + k + k') = n + u + k + k' by omega]; assumption) hr8 (by assumption) (by ktr_rel)
    case retN =>
      intro hle8 m8 h8 tk8 rest8 t48 hv8 hc8 hr8 F8 N8
      have er8 : r = none := hv8
      subst er8
      (try dsimp only); (try k_fold)
      k_steps
      (try dsimp only)
      exact retV (by omega) _ _ _ _ _ _ rfl (by rw [show n + (u + k + k') = n + u + k + k' by omega]; assumption) hr8 (by assumption) (by ktr_rel)

end J4
end GN
section J5
open PySem PySem.W PyProof.Rows PySem.Calls
set_option maxRecDepth 100000
set_option maxHeartbeats 4000000
theorem off_J5 : True := by
  w_top off
  trivial

theorem j_ble {w : World} {P : Program} {loose : List Str} {mean : ExcName → Option Value} {mg mb : Str → Option Value} {M D : Addr} {txt pat : List UInt8} {tick : Value} {CL : Nat → List (Addr × Obj) → Prop} {u lf : Nat} (HC : CountSpec w P loose mean mg mb M D txt pat tick CL u lf) (hpat : pat.length ≤ 100) (htxt : txt.length ≤ 100) {s o : Int} (h : (txt.length : Int) ≤ s) : SBl w P loose mean mg mb M D txt pat tick CL u lf s o none (0) := by
  unfold SBl
  intro dp un gd outer A₀ base g L m st Rr rest κ d t4 n ts to tb te B F X N T hdp hun hκ hc hr hMD hn hd hself hms hmo hmb hme hs retV retN rai
  tb_start

  refine whileTurnD ?_
  (try dsimp only); (try k_fold)
  k_steps
  exact retN (by omega) _ _ _ _ _ rfl hc hr (by assumption) (by ktr_rel)


theorem j_blh {w : World} {P : Program} {loose : List Str} {mean : ExcName → Option Value} {mg mb : Str → Option Value} {M D : Addr} {txt pat : List UInt8} {tick : Value} {CL : Nat → List (Addr × Obj) → Prop} {u lf : Nat} (HC : CountSpec w P loose mean mg mb M D txt pat tick CL u lf) (hpat : pat.length ≤ 100) (htxt : txt.length ≤ 100) {s : Int} (h : sing txt 41 s) : SBl w P loose mean mg mb M D txt pat tick CL u lf s 1 (some (s + 1)) (u) := by
  unfold SBl
  intro dp un gd outer A₀ base g L m st Rr rest κ d t4 n ts to tb te B F X N T hdp hun hκ hc hr hMD hn hd hself hms hmo hmb hme hs retV retN rai
  tb_start
  obtain ⟨hl1, hl2⟩ := h
  refine whileTurnD ?_
  (try dsimp only); (try k_fold)
  k_steps
  (try dsimp only [List.append_nil])
  k_dflt (refine' HC ?k1 ?k2 ?k3 ?k4 ?k5 ?kK ?kd ?ku ?q0 (by assumption) (by assumption) hMD (by assumption) ?ret ?rai; (case k1 => k_asm); (case k2 => k_asm); (case k3 => k_asm); (case k4 => ktr_rel); (case k5 => k_asm); (case kK => first | exact rfl | assumption); (case kd => ktr_room); (case ku => ktr_units); (case q0 => assumption))
  case rai =>
    intro hlt e8 dx8 h8 tk8 rest8 g8 hcl8 F8 U8 R8
    (try k_unfold); (try dsimp only)
    exact rai (by omega) _ _ _ _ _ _ _ hcl8 F8 U8 R8
  intro hle9 h9 tk9 rest9 hc9 hr9 F9 N9
  (try dsimp only); (try k_fold)
  k_steps
  (try dsimp only)
  exact retV (by omega) _ _ _ _ _ _ ⟨_, rfl⟩ (by assumption) (by assumption) (by assumption) (by ktr_rel)


theorem j_bll {w : World} {P : Program} {loose : List Str} {mean : ExcName → Option Value} {mg mb : Str → Option Value} {M D : Addr} {txt pat : List UInt8} {tick : Value} {CL : Nat → List (Addr × Obj) → Prop} {u lf : Nat} (HC : CountSpec w P loose mean mg mb M D txt pat tick CL u lf) (hpat : pat.length ≤ 100) (htxt : txt.length ≤ 100) {s o : Int} {r : Option Int} {k : Nat} (h : sing txt 41 s) (ho : o ≠ 1) (ih : SBl w P loose mean mg mb M D txt pat tick CL u lf (s + 1) (o - 1) r k) : SBl w P loose mean mg mb M D txt pat tick CL u lf s o r (k + u) := by
  unfold SBl
  intro dp un gd outer A₀ base g L m st Rr rest κ d t4 n ts to tb te B F X N T hdp hun hκ hc hr hMD hn hd hself hms hmo hmb hme hs retV retN rai
  tb_start
  obtain ⟨hl1, hl2⟩ := h
  refine whileTurnD ?_
  (try dsimp only); (try k_fold)
  k_steps
  (try dsimp only [List.append_nil])
  k_dflt (refine' HC ?k1 ?k2 ?k3 ?k4 ?k5 ?kK ?kd ?ku ?q0 (by assumption) (by assumption) hMD (by assumption) ?ret ?rai; (case k1 => k_asm); (case k2 => k_asm); (case k3 => k_asm); (case k4 => ktr_rel); (case k5 => k_asm); (case kK => first | exact rfl | assumption); (case kd => ktr_room); (case ku => ktr_units); (case q0 => assumption))
  case rai =>
    intro hlt e8 dx8 h8 tk8 rest8 g8 hcl8 F8 U8 R8
    (try k_unfold); (try dsimp only)
    exact rai (by omega) _ _ _ _ _ _ _ hcl8 F8 U8 R8
  intro hle9 h9 tk9 rest9 hc9 hr9 F9 N9
  (try dsimp only); (try k_fold)
  k_steps
  k_dflt (refine' ih ?k1 ?k2 ?k3 ?k4 ?k5 ?kd ?ku ?q0 ?hc ?hr hMD ?hn ?hd ?m0 ?m1 ?m2 ?m3 ?m4 ?x0 ?retV ?retN ?rai; (case k1 => k_asm); (case k2 => k_asm); (case k3 => k_asm); (case k4 => ktr_rel); (case k5 => k_asm); (case kd => isplit); (case ku => isplit); (case q0 => assumption); (case hc => assumption); (case hr => assumption); (case hn => omega); (case hd => omega); (case m0 => got_up); (case m1 => got_up); (case m2 => got_up); (case m3 => got_up); (case m4 => got_up); (case x0 => omega))
  case rai =>
    intro hlt e8 dx8 m8 h8 tk8 rest8 g8 hcl8 F8 U8 R8
    (try k_unfold); (try dsimp only)
    exact rai (by omega) _ _ _ _ _ _ _ hcl8 F8 U8 R8
  case retV =>
    intro hle8 v8 m8 h8 tk8 rest8 t48 hv8 hc8 hr8 F8 N8
    exact retV (by omega) _ _ _ _ _ _ hv8 (by rw [show n + (k + u) = n + u + k by omega]; assumption) hr8 F8 N8
  case retN =>
    intro hle8 m8 h8 tk8 rest8 t48 hv8 hc8 hr8 F8 N8
    exact retN (by omega) _ _ _ _ _ hv8 (by rw [show n + (k + u) = n + u + k by omega]; assumption) hr8 F8 N8


theorem j_blm {w : World} {P : Program} {loose : List Str} {mean : ExcName → Option Value} {mg mb : Str → Option Value} {M D : Addr} {txt pat : List UInt8} {tick : Value} {CL : Nat → List (Addr × Obj) → Prop} {u lf : Nat} (HC : CountSpec w P loose mean mg mb M D txt pat tick CL u lf) (hpat : pat.length ≤ 100) (htxt : txt.length ≤ 100) {s o : Int} {r : Option Int} {k : Nat} (h : sing txt 40 s) (ih : SBl w P loose mean mg mb M D txt pat tick CL u lf (s + 1) (o + 1) r k) : SBl w P loose mean mg mb M D txt pat tick CL u lf s o r (k + u) := by
  unfold SBl
  intro dp un gd outer A₀ base g L m st Rr rest κ d t4 n ts to tb te B F X N T hdp hun hκ hc hr hMD hn hd hself hms hmo hmb hme hs retV retN rai
  tb_start
  obtain ⟨hl1, hl2⟩ := h
  refine whileTurnD ?_
  (try dsimp only); (try k_fold)
  k_steps
  (try dsimp only [List.append_nil])
  k_dflt (refine' HC ?k1 ?k2 ?k3 ?k4 ?k5 ?kK ?kd ?ku ?q0 (by assumption) (by assumption) hMD (by assumption) ?ret ?rai; (case k1 => k_asm); (case k2 => k_asm); (case k3 => k_asm); (case k4 => ktr_rel); (case k5 => k_asm); (case kK => first | exact rfl | assumption); (case kd => ktr_room); (case ku => ktr_units); (case q0 => assumption))
  case rai =>
    intro hlt e8 dx8 h8 tk8 rest8 g8 hcl8 F8 U8 R8
    (try k_unfold); (try dsimp only)
    exact rai (by omega) _ _ _ _ _ _ _ hcl8 F8 U8 R8
  intro hle9 h9 tk9 rest9 hc9 hr9 F9 N9
  (try dsimp only); (try k_fold)
  k_steps
  k_dflt (refine' ih ?k1 ?k2 ?k3 ?k4 ?k5 ?kd ?ku ?q0 ?hc ?hr hMD ?hn ?hd ?m0 ?m1 ?m2 ?m3 ?m4 ?x0 ?retV ?retN ?rai; (case k1 => k_asm); (case k2 => k_asm); (case k3 => k_asm); (case k4 => ktr_rel); (case k5 => k_asm); (case kd => isplit); (case ku => isplit); (case q0 => assumption); (case hc => assumption); (case hr => assumption); (case hn => omega); (case hd => omega); (case m0 => got_up); (case m1 => got_up); (case m2 => got_up); (case m3 => got_up); (case m4 => got_up); (case x0 => omega))
  case rai =>
    intro hlt e8 dx8 m8 h8 tk8 rest8 g8 hcl8 F8 U8 R8
    (try k_unfold); (try dsimp only)
    exact rai (by omega) _ _ _ _ _ _ _ hcl8 F8 U8 R8
  case retV =>
    intro hle8 v8 m8 h8 tk8 rest8 t48 hv8 hc8 hr8 F8 N8
    exact retV (by omega) _ _ _ _ _ _ hv8 (by rw [show n + (k + u) = n + u + k by omega]; assumption) hr8 F8 N8
  case retN =>
    intro hle8 m8 h8 tk8 rest8 t48 hv8 hc8 hr8 F8 N8
    exact retN (by omega) _ _ _ _ _ hv8 (by rw [show n + (k + u) = n + u + k by omega]; assumption) hr8 F8 N8

end J5
section J6
open PySem PySem.W PyProof.Rows PySem.Calls
set_option maxRecDepth 100000
set_option maxHeartbeats 4000000
theorem off_J6 : True := by
  w_top off
  trivial
local macro_rules | `(tactic| walk_at "compareOp In") => `(tactic| (k_here; (with_reducible show wpAny _ _ (compareOp CmpOp.In (Value.int _ _) (Value.bytes _ _)) _ _ _); refine in_bf (by assumption) ?_))

theorem j_ba0 {w : World} {P : Program} {loose : List Str} {mean : ExcName → Option Value} {mg mb : Str → Option Value} {M D : Addr} {txt pat : List UInt8} {tick : Value} {CL : Nat → List (Addr × Obj) → Prop} {u lf : Nat} (HC : CountSpec w P loose mean mg mb M D txt pat tick CL u lf) (hpat : pat.length ≤ 100) (htxt : txt.length ≤ 100) {s : Int} (hl : pat = patBal) (hs' : ¬ sing txt 40 s) : SMh w P loose mean mg mb M D txt pat tick CL u lf s 0 none (u) := by
  unfold SMh
  intro dp un gd outer A₀ base g L m st Rr rest κ d t4 n ts tp B F X N T hdp hun hκ hc hr hMD hn hd hself hms hmp hs hp hpl retV retN rai
  tb_start
  have hlen : pat.length = 4 := by rw [hl]; rfl
  have a1 : atB pat (0 + 1) = 98 := by rw [hl]; decide
  have g0 : gB pat 0 = 37 := by rw [hl]; decide
  have g2 : gB pat (0 + 2) = 40 := by rw [hl]; decide
  have g3 : gB pat (0 + 2 + 1) = 41 := by rw [hl]; decide
  refine whileTurnD ?_
  (try dsimp only); (try k_fold)
  k_steps
  (try dsimp only [List.append_nil])
  k_dflt (refine' HC ?k1 ?k2 ?k3 ?k4 ?k5 ?kK ?kd ?ku ?q0 (by assumption) (by assumption) hMD (by assumption) ?ret ?rai; (case k1 => k_asm); (case k2 => k_asm); (case k3 => k_asm); (case k4 => ktr_rel); (case k5 => k_asm); (case kK => first | exact rfl | assumption); (case kd => ktr_room); (case ku => ktr_units); (case q0 => assumption))
  case rai =>
    intro hlt e8 dx8 h8 tk8 rest8 g8 hcl8 F8 U8 R8
    (try k_unfold); (try dsimp only)
    exact rai (by omega) _ _ _ _ _ _ _ hcl8 F8 U8 R8
  intro hle9 h9 tk9 rest9 hc9 hr9 F9 N9
  (try dsimp only); (try k_fold)
  k_steps
  all_goals ((try dsimp only); exact retV (by omega) _ _ _ _ _ _ rfl (by assumption) (by assumption) (by assumption) (by ktr_rel))


theorem j_ba1 {w : World} {P : Program} {loose : List Str} {mean : ExcName → Option Value} {mg mb : Str → Option Value} {M D : Addr} {txt pat : List UInt8} {tick : Value} {CL : Nat → List (Addr × Obj) → Prop} {u lf : Nat} (HC : CountSpec w P loose mean mg mb M D txt pat tick CL u lf) (hpat : pat.length ≤ 100) (htxt : txt.length ≤ 100) {s : Int} {k : Nat} (hl : pat = patBal) (hs' : sing txt 40 s) (ih : SBl w P loose mean mg mb M D txt pat tick CL u lf (s + 1) 1 none k) : SMh w P loose mean mg mb M D txt pat tick CL u lf s 0 none (k + u) := by
  unfold SMh
  intro dp un gd outer A₀ base g L m st Rr rest κ d t4 n ts tp B F X N T hdp hun hκ hc hr hMD hn hd hself hms hmp hs hp hpl retV retN rai
  tb_start
  have hlen : pat.length = 4 := by rw [hl]; rfl
  have a1 : atB pat (0 + 1) = 98 := by rw [hl]; decide
  have g0 : gB pat 0 = 37 := by rw [hl]; decide
  have g2 : gB pat (0 + 2) = 40 := by rw [hl]; decide
  have g3 : gB pat (0 + 2 + 1) = 41 := by rw [hl]; decide
  refine whileTurnD ?_
  (try dsimp only); (try k_fold)
  k_steps
  obtain ⟨hx1, hx2⟩ := hs'
  (try dsimp only [List.append_nil])
  k_dflt (refine' HC ?k1 ?k2 ?k3 ?k4 ?k5 ?kK ?kd ?ku ?q0 (by assumption) (by assumption) hMD (by assumption) ?ret ?rai; (case k1 => k_asm); (case k2 => k_asm); (case k3 => k_asm); (case k4 => ktr_rel); (case k5 => k_asm); (case kK => first | exact rfl | assumption); (case kd => ktr_room); (case ku => ktr_units); (case q0 => assumption))
  case rai =>
    intro hlt e8 dx8 h8 tk8 rest8 g8 hcl8 F8 U8 R8
    (try k_unfold); (try dsimp only)
    exact rai (by omega) _ _ _ _ _ _ _ hcl8 F8 U8 R8
  intro hle9 h9 tk9 rest9 hc9 hr9 F9 N9
  (try dsimp only); (try k_fold)
  k_steps
  k_dflt (refine' ih ?k1 ?k2 ?k3 ?k4 ?k5 ?kd ?ku ?q0 ?hc ?hr hMD ?hn ?hd ?m0 ?m1 ?m2 ?m3 ?m4 ?x0 ?retV ?retN ?rai; (case k1 => k_asm); (case k2 => k_asm); (case k3 => k_asm); (case k4 => ktr_rel); (case k5 => k_asm); (case kd => isplit); (case ku => isplit); (case q0 => assumption); (case hc => assumption); (case hr => assumption); (case hn => omega); (case hd => omega); (case m0 => got_up); (case m1 => got_up); (case m2 => got_up); (case m3 => (rw [← g2]; got_up)); (case m4 => (rw [← g3]; got_up)); (case x0 => omega))
  case rai =>
    intro hlt e8 dx8 m8 h8 tk8 rest8 g8 hcl8 F8 U8 R8
    refine PassesOwn.leaving _ _ ?_
    (try k_unfold); (try dsimp only)
    k_dflt (refine' leaveOnT (cl := []) ?l8f ?l8r ?l8u ?_; (case l8r => exact R8); (case l8u => exact U8); (case l8f => first | exact F8 | k_asm))
    intro h7 R7 U7
    (try k_unfold); (try dsimp only)
    (try k_unfold); (try dsimp only)
    k_dflt (refine' leaveOnT (cl := []) ?l7f ?l7r ?l7u ?_; (case l7r => exact R7); (case l7u => exact U7); (case l7f => first | exact F7 | k_asm))
    intro h6 R6 U6
    (try k_unfold); (try dsimp only)
    exact rai (by omega) _ _ _ _ _ _ _ hcl8 (by assumption) U6 R6
  case retV =>
    intro hle8 v8 m8 h8 tk8 rest8 t48 hv8 hc8 hr8 F8 N8
    have e8 : v8 = .none := hv8
    subst e8
    (try dsimp only); (try k_fold)
    k_steps
    (try dsimp only)
    exact retV (by omega) _ _ _ _ _ _ rfl (by rw [show n + (k + u) = n + u + k by omega]; assumption) hr8 (by assumption) (by ktr_rel)
  case retN =>
    intro hle8 m8 h8 tk8 rest8 t48 hv8 hc8 hr8 F8 N8
    (try dsimp only); (try k_fold)
    k_steps
    (try dsimp only)
    exact retV (by omega) _ _ _ _ _ _ rfl (by rw [show n + (k + u) = n + u + k by omega]; assumption) hr8 (by assumption) (by ktr_rel)


theorem j_ba2 {w : World} {P : Program} {loose : List Str} {mean : ExcName → Option Value} {mg mb : Str → Option Value} {M D : Addr} {txt pat : List UInt8} {tick : Value} {CL : Nat → List (Addr × Obj) → Prop} {u lf : Nat} (HC : CountSpec w P loose mean mg mb M D txt pat tick CL u lf) (hpat : pat.length ≤ 100) (htxt : txt.length ≤ 100) {s x : Int} {k : Nat} (hl : pat = patBal) (hs' : sing txt 40 s) (ih : SBl w P loose mean mg mb M D txt pat tick CL u lf (s + 1) 1 (some x) k) : SMh w P loose mean mg mb M D txt pat tick CL u lf s 0 (some x) (k + u) := by
  unfold SMh
  intro dp un gd outer A₀ base g L m st Rr rest κ d t4 n ts tp B F X N T hdp hun hκ hc hr hMD hn hd hself hms hmp hs hp hpl retV retN rai
  tb_start
  have hlen : pat.length = 4 := by rw [hl]; rfl
  have a1 : atB pat (0 + 1) = 98 := by rw [hl]; decide
  have g0 : gB pat 0 = 37 := by rw [hl]; decide
  have g2 : gB pat (0 + 2) = 40 := by rw [hl]; decide
  have g3 : gB pat (0 + 2 + 1) = 41 := by rw [hl]; decide
  refine whileTurnD ?_
  (try dsimp only); (try k_fold)
  k_steps
  obtain ⟨hx1, hx2⟩ := hs'
  (try dsimp only [List.append_nil])
  k_dflt (refine' HC ?k1 ?k2 ?k3 ?k4 ?k5 ?kK ?kd ?ku ?q0 (by assumption) (by assumption) hMD (by assumption) ?ret ?rai; (case k1 => k_asm); (case k2 => k_asm); (case k3 => k_asm); (case k4 => ktr_rel); (case k5 => k_asm); (case kK => first | exact rfl | assumption); (case kd => ktr_room); (case ku => ktr_units); (case q0 => assumption))
  case rai =>
    intro hlt e8 dx8 h8 tk8 rest8 g8 hcl8 F8 U8 R8
    (try k_unfold); (try dsimp only)
    exact rai (by omega) _ _ _ _ _ _ _ hcl8 F8 U8 R8
  intro hle9 h9 tk9 rest9 hc9 hr9 F9 N9
  (try dsimp only); (try k_fold)
  k_steps
  k_dflt (refine' ih ?k1 ?k2 ?k3 ?k4 ?k5 ?kd ?ku ?q0 ?hc ?hr hMD ?hn ?hd ?m0 ?m1 ?m2 ?m3 ?m4 ?x0 ?retV ?retN ?rai; (case k1 => k_asm); (case k2 => k_asm); (case k3 => k_asm); (case k4 => ktr_rel); (case k5 => k_asm); (case kd => isplit); (case ku => isplit); (case q0 => assumption); (case hc => assumption); (case hr => assumption); (case hn => omega); (case hd => omega); (case m0 => got_up); (case m1 => got_up); (case m2 => got_up); (case m3 => (rw [← g2]; got_up)); (case m4 => (rw [← g3]; got_up)); (case x0 => omega))
  case rai =>
    intro hlt e8 dx8 m8 h8 tk8 rest8 g8 hcl8 F8 U8 R8
    refine PassesOwn.leaving _ _ ?_
    (try k_unfold); (try dsimp only)
    k_dflt (refine' leaveOnT (cl := []) ?l8f ?l8r ?l8u ?_; (case l8r => exact R8); (case l8u => exact U8); (case l8f => first | exact F8 | k_asm))
    intro h7 R7 U7
    (try k_unfold); (try dsimp only)
    (try k_unfold); (try dsimp only)
    k_dflt (refine' leaveOnT (cl := []) ?l7f ?l7r ?l7u ?_; (case l7r => exact R7); (case l7u => exact U7); (case l7f => first | exact F7 | k_asm))
    intro h6 R6 U6
    (try k_unfold); (try dsimp only)
    exact rai (by omega) _ _ _ _ _ _ _ hcl8 (by assumption) U6 R6
  case retV =>
    intro hle8 v8 m8 h8 tk8 rest8 t48 hv8 hc8 hr8 F8 N8
    obtain ⟨t9, e9⟩ := (hv8 : ∃ t, v8 = .int x t)
    subst e9
    (try dsimp only); (try k_fold)
    k_steps
    (try dsimp only)
    refine whileTurnD ?_
    (try dsimp only); (try k_fold)
    k_steps
    (try dsimp only)
    refine retN (by omega) _ _ _ _ _ ?hv7 (by rw [show n + (k + u) = n + u + k by omega]; assumption) hr8 (by assumption) (by ktr_rel)
    exact ⟨_, _, rfl, by got_up⟩
  case retN =>
    intro hle8 m8 h8 tk8 rest8 t48 hv8 hc8 hr8 F8 N8
    cases hv8

end J6
section J7
open PySem PySem.W PyProof.Rows PySem.Calls
set_option maxRecDepth 100000
set_option maxHeartbeats 4000000

theorem jobs {w : World} {P : Program} {loose : List Str} {mean : ExcName → Option Value} {mg mb : Str → Option Value} {M D : Addr} {txt pat : List UInt8} {tick : Value} {CL : Nat → List (Addr × Obj) → Prop} {u lf : Nat} (HC : CountSpec w P loose mean mg mb M D txt pat tick CL u lf) (hpat : pat.length ≤ 100) (htxt : txt.length ≤ 100) {j : Job} {r : Option Int} {k : Nat} (h : R u txt pat j r k) : JS w P loose mean mg mb M D txt pat tick CL u lf j r k := by
  induction h with
  | mt h ih => exact j_mt HC hpat htxt ih
  | mh_end h => exact j_end HC hpat htxt h
  | mh_lit hl hs h ih => exact j_lit HC hpat htxt hl hs ih
  | mh_no hl hs => exact j_no HC hpat htxt hl hs
  | mh_least hl h ih => exact j_least HC hpat htxt hl (ih hl rfl)
  | mh_most hl h h' ih ih' => exact j_most HC hpat htxt hl (ih rfl rfl) (ih' rfl rfl)
  | mh_bal0 hl hs => exact j_ba0 HC hpat htxt hl hs
  | mh_bal1 hl hs h ih => exact j_ba1 HC hpat htxt hl hs ih
  | mh_bal2 hl hs h ih => exact j_ba2 HC hpat htxt hl hs ih
  | bl_end h => exact j_ble HC hpat htxt h
  | bl_hit h => exact j_blh HC hpat htxt h
  | bl_less h ho hr ih => exact j_bll HC hpat htxt h ho ih
  | bl_more h hr ih => exact j_blm HC hpat htxt h ih
  | el_found h ih => exact fun _ _ => j_elf HC hpat htxt ih
  | el_stop h hs ih => exact fun _ _ => j_els HC hpat htxt ih hs
  | el_next h hs h' ih ih' => exact fun q1 q2 => j_eln HC hpat htxt ih hs (ih' q1 q2)
  | mu_up hs h ih => exact fun q1 q2 => j_muu HC hpat htxt hs (ih q1 q2)
  | mu_dn hs => exact fun _ _ => j_mud HC hpat htxt hs
  | mo_end hm => exact fun _ _ => j_moe HC hpat htxt hm
  | mo_found hm h ih => exact fun _ _ => j_mof HC hpat htxt hm ih
  | mo_next hm h h' ih ih' => exact fun q1 q2 => j_mon HC hpat htxt hm ih (ih' q1 q2)

end J7
section J8
open PySem PySem.W PyProof.Rows PySem.Calls
set_option maxRecDepth 100000
set_option maxHeartbeats 4000000
theorem off_J8 : True := by
  w_top off
  trivial

noncomputable abbrev tupO (vs : List Value) : Obj := { cls := .type "tuple", data := .seq vs.toArray }
/-- the search from a place on, as a loop -/
noncomputable def SSe (w : World) (P : Program) (loose : List Str) (mean : ExcName → Option Value) (mg mb : Str → Option Value) (M D : Addr) (txt pat : List UInt8) (tick : Value) (CL : Nat → List (Addr × Obj) → Prop) (u lf : Nat) (sv : Int) (r : Option (Int × Int)) (k : Nat) : Prop :=
  ∀ {dp un : Nat} {gd : Option (List Code)} {outer : List Env} {A₀ : Around} {base g : Heap} {L : Addr} {m : Str → Option Value} {s : Shared}
    {Rr : Result → Shared → Prop} {rest : List (Addr × Obj)} {κ : MK} {d : Int} {t4 n ts tp : Nat}
    (B : Below A₀ base outer g) (F : Fr g L s.heap m) (X : (Mine.hd.heap_1_3 w.params).In g) (N : News g L s.heap (mLed w M D txt pat κ d t4 rest)) (T : Top P loose mean mg mb g)
    (hdp : (dp : Int) + 5 * (pat.length : Int) + 35 < 990) (hun : (un : Int) + 30 * (pat.length : Int) + 220 < 9900)
    (hκ : κ.tick = tick) (hc : CL n rest) (hr : ∀ p ∈ rest, p.1 ≠ D) (hMD : M ≠ D) (hn : n ≤ lf)
    (hself : m "self" = some (.ref M)) (hms : m "s" = some (.int sv ts)) (hmp : m "p" = some (.int 0 tp)) (hma : m "is_anchored" = some (.bool false)) (hs : 0 ≤ sv)
    (retT : n + k ≤ lf → ∀ x, r = some x → ∀ t ta tb m' h' tk' rest' t4' κ' d', CL (n + k) rest' → (∀ p ∈ rest', p.1 ≠ D) → Fr g L h' m' → News g L h' ((t, tupO [.int x.1 ta, .int x.2 tb]) :: mLed w M D txt pat κ' d' t4' rest') → Rr (.ok (.ret (.ref t))) { s with heap := h', toks := tk' })
    (retN : n + k ≤ lf → r = none → ∀ m' h' tk' rest' t4' κ' d', CL (n + k) rest' → (∀ p ∈ rest', p.1 ≠ D) → Fr g L h' m' → News g L h' (mLed w M D txt pat κ' d' t4' rest') → Rr (.ok .next) { s with heap := h', toks := tk' })
    (rai : lf < n + k → ∀ e dx m' h' tk' rest' g₂, CL (lf + 1) rest' → Fr g L g₂ m' → g₂.UpToSlots h' → RaisedD w base (envOf (seQn w.params) (seSc w.params) L 250 (seCd w.params) :: outer) e dx rest' h' →
      notedBy (model prg w) (ktrTop dp un gd (seQn w.params) (seSc w.params) L 250 (seCd w.params) [] outer) (envOf (seQn w.params) (seSc w.params) L 250 (seCd w.params)) (fun e s' => Rr (.error e) s') (.ref e) { s with heap := h', toks := tk' }),
    codeAny (model prg w) (ktrTop dp un gd (seQn w.params) (seSc w.params) L 250 (seCd w.params) [] outer) (.whileLoop (seT w.params) (seB w.params) [] (envOf (seQn w.params) (seSc w.params) L 250 (seCd w.params))) Rr s


theorem s_stop {w : World} {P : Program} {loose : List Str} {mean : ExcName → Option Value} {mg mb : Str → Option Value} {M D : Addr} {txt pat : List UInt8} {tick : Value} {CL : Nat → List (Addr × Obj) → Prop} {u lf : Nat} (hpat : pat.length ≤ 100) (htxt : txt.length ≤ 100) (hpat2 : pat.length ≤ 20) {s : Int} (h : (txt.length : Int) < s) : SSe w P loose mean mg mb M D txt pat tick CL u lf s none (0) := by
  unfold SSe
  intro dp un gd outer A₀ base g L m st Rr rest κ d t4 n ts tp B F X N T hdp hun hκ hc hr hMD hn hself hms hmp hma hs retT retN rai
  obtain ⟨k1, k2, k3, k4, k5, k6, k7, k8, t1, t2, t3, t5, kt, kst, kle, klv⟩ := κ
  dsimp only at hκ
  dsimp only [mLed, mEs] at N
  tb_start
  refine whileTurnD ?_
  (try dsimp only); (try k_fold)
  k_steps
  exact retN (by omega) rfl _ _ _ _ _ ⟨k1, k2, k3, k4, k5, k6, k7, k8, t1, t2, t3, t5, kt, kst, kle, klv⟩ _ hc hr (by assumption) (by assumption)


theorem s_found {w : World} {P : Program} {loose : List Str} {mean : ExcName → Option Value} {mg mb : Str → Option Value} {M D : Addr} {txt pat : List UInt8} {tick : Value} {CL : Nat → List (Addr × Obj) → Prop} {u lf : Nat} (hpat : pat.length ≤ 100) (htxt : txt.length ≤ 100) (hpat2 : pat.length ≤ 20) {s x : Int} {k : Nat} (h : s ≤ (txt.length : Int)) (ih : SMt w P loose mean mg mb M D txt pat tick CL u lf s 0 (some x) k) : SSe w P loose mean mg mb M D txt pat tick CL u lf s (some (s, x)) (k) := by
  unfold SSe
  intro dp un gd outer A₀ base g L m st Rr rest κ d t4 n ts tp B F X N T hdp hun hκ hc hr hMD hn hself hms hmp hma hs retT retN rai
  obtain ⟨k1, k2, k3, k4, k5, k6, k7, k8, t1, t2, t3, t5, kt, kst, kle, klv⟩ := κ
  dsimp only at hκ
  dsimp only [mLed, mEs] at N
  tb_start
  refine whileTurnD ?_
  (try dsimp only); (try k_fold)
  k_steps
  unfold SMt at ih
  (try dsimp only [List.append_nil, List.cons_append, List.nil_append])
  k_dflt (refine' ih (κ := ⟨k1, k2, k3, k4, k5, k6, k7, k8, t1, t2, t3, _, kt, _, _, _⟩) ?k1 ?k2 ?k3 ?k4 ?k5 ?kK ?kd ?ku ?q0 ?hc ?hr hMD ?hn ?hd ?hs ?hp ?hpl ?ret ?rai; (case k1 => k_asm); (case k2 => k_asm); (case k3 => k_asm); (case k4 => ktr_rel); (case k5 => k_asm); (case kK => first | exact rfl | assumption); (case kd => isplit); (case ku => isplit); (case q0 => assumption); (case hc => assumption); (case hr => assumption); (case hn => omega); (case hd => omega); (case hs => omega); (case hp => omega); (case hpl => omega))
  case rai =>
    intro hlt e8 dx8 h8 tk8 rest8 g8 hcl8 F8 U8 R8
    (try k_unfold); (try dsimp only)
    exact rai (by omega) _ _ _ _ _ _ _ hcl8 F8 U8 R8
  intro hle9 v9 h9 tk9 rest9 t49 hv9 hc9 hr9 F9 N9
  obtain ⟨t9, e9⟩ := (hv9 : ∃ t, v9 = .int x t)
  subst e9
  (try dsimp only); (try k_fold)
  k_steps
  (try dsimp only)
  exact retT (by omega) _ rfl _ _ _ _ _ _ _ _ _ _ (by assumption) hr9 (by assumption) (by assumption)


theorem s_next {w : World} {P : Program} {loose : List Str} {mean : ExcName → Option Value} {mg mb : Str → Option Value} {M D : Addr} {txt pat : List UInt8} {tick : Value} {CL : Nat → List (Addr × Obj) → Prop} {u lf : Nat} (hpat : pat.length ≤ 100) (htxt : txt.length ≤ 100) (hpat2 : pat.length ≤ 20) {s : Int} {r : Option (Int × Int)} {k k' : Nat} (h : s ≤ (txt.length : Int)) (ih : SMt w P loose mean mg mb M D txt pat tick CL u lf s 0 none k) (ih2 : SSe w P loose mean mg mb M D txt pat tick CL u lf (s + 1) r k') : SSe w P loose mean mg mb M D txt pat tick CL u lf s r (k + k') := by
  unfold SSe
  intro dp un gd outer A₀ base g L m st Rr rest κ d t4 n ts tp B F X N T hdp hun hκ hc hr hMD hn hself hms hmp hma hs retT retN rai
  obtain ⟨k1, k2, k3, k4, k5, k6, k7, k8, t1, t2, t3, t5, kt, kst, kle, klv⟩ := κ
  dsimp only at hκ
  dsimp only [mLed, mEs] at N
  tb_start
  refine whileTurnD ?_
  (try dsimp only); (try k_fold)
  k_steps
  unfold SMt at ih
  (try dsimp only [List.append_nil, List.cons_append, List.nil_append])
  k_dflt (refine' ih (κ := ⟨k1, k2, k3, k4, k5, k6, k7, k8, t1, t2, t3, _, kt, _, _, _⟩) ?k1 ?k2 ?k3 ?k4 ?k5 ?kK ?kd ?ku ?q0 ?hc ?hr hMD ?hn ?hd ?hs ?hp ?hpl ?ret ?rai; (case k1 => k_asm); (case k2 => k_asm); (case k3 => k_asm); (case k4 => ktr_rel); (case k5 => k_asm); (case kK => first | exact rfl | assumption); (case kd => isplit); (case ku => isplit); (case q0 => assumption); (case hc => assumption); (case hr => assumption); (case hn => omega); (case hd => omega); (case hs => omega); (case hp => omega); (case hpl => omega))
  case rai =>
    intro hlt e8 dx8 h8 tk8 rest8 g8 hcl8 F8 U8 R8
    (try k_unfold); (try dsimp only)
    exact rai (by omega) _ _ _ _ _ _ _ hcl8 F8 U8 R8
  intro hle9 v9 h9 tk9 rest9 t49 hv9 hc9 hr9 F9 N9
  have e9 : v9 = .none := hv9
  subst e9
  (try dsimp only); (try k_fold)
  k_steps
  (try dsimp only)
  k_dflt (refine' ih2 ?k1 ?k2 ?k3 ?k4 ?k5 ?kd ?ku ?q0 ?hc ?hr hMD ?hn ?m0 ?m1 ?m2 ?m3 ?x0 ?retT ?retN ?rai; (case k1 => k_asm); (case k2 => k_asm); (case k3 => k_asm); (case k4 => ktr_rel); (case k5 => k_asm); (case kd => isplit); (case ku => isplit); (case q0 => assumption); (case hc => assumption); (case hr => assumption); (case hn => omega); (case m0 => got_up); (case m1 => got_up); (case m2 => got_up); (case m3 => got_up); (case x0 => omega))
  case rai =>
    intro hlt e8 dx8 m8 h8 tk8 rest8 g8 hcl8 F8 U8 R8
    (try k_unfold); (try dsimp only)
    exact rai (by omega) _ _ _ _ _ _ _ hcl8 F8 U8 R8
  case retT =>
    intro hle8 x8 hx8 t8 ta8 tb8 m8 h8 tk8 rest8 t48 κ8 d8 hc8 hr8 F8 N8
    exact retT (by omega) _ hx8 _ _ _ _ _ _ _ _ _ _ (by rw [show n + (k + k') = n + k + k' by omega]; assumption) hr8 F8 N8
  case retN =>
    intro hle8 hx8 m8 h8 tk8 rest8 t48 κ8 d8 hc8 hr8 F8 N8
    exact retN (by omega) hx8 _ _ _ _ _ _ _ (by rw [show n + (k + k') = n + k + k' by omega]; assumption) hr8 F8 N8


theorem searches {w : World} {P : Program} {loose : List Str} {mean : ExcName → Option Value} {mg mb : Str → Option Value} {M D : Addr} {txt pat : List UInt8} {tick : Value} {CL : Nat → List (Addr × Obj) → Prop} {u lf : Nat} (HC : CountSpec w P loose mean mg mb M D txt pat tick CL u lf) (hpat : pat.length ≤ 100) (htxt : txt.length ≤ 100) (hpat2 : pat.length ≤ 20) {s : Int} {r : Option (Int × Int)} {k : Nat} (h : S u txt pat s r k) : SSe w P loose mean mg mb M D txt pat tick CL u lf s r k := by
  induction h with
  | stop h => exact s_stop (u := u) hpat htxt hpat2 h
  | found hs h => exact s_found (u := u) hpat htxt hpat2 hs (jobs HC hpat htxt h)
  | next hs h h' ih => exact s_next (u := u) hpat htxt hpat2 hs (jobs HC hpat htxt h) ih


/-- the call of search -/
theorem c_search {w : World} {P : Program} {loose : List Str} {mean : ExcName → Option Value} {mg mb : Str → Option Value} {M D : Addr} {txt pat : List UInt8} {tick : Value} {CL : Nat → List (Addr × Obj) → Prop} {u lf : Nat} (HC : CountSpec w P loose mean mg mb M D txt pat tick CL u lf) (hpat : pat.length ≤ 100) (htxt : txt.length ≤ 100) (hpat2 : pat.length ≤ 20) {r : Option (Int × Int)} {k : Nat} (hS : S u txt pat 0 r k)
    {dp un : Nat} {gd : Option (List Code)} {cn : Str} {cs : Scope} {a : Addr} {ccd : Value} {cl : List (Str × Addr)} {outer : List Env} {A₀ : Around} {base h₀ : Heap} {L : Addr} {m : Str → Option Value} {s : Shared}
    {Q E : Value → Shared → Prop} {rest : List (Addr × Obj)} {κ : MK} {d : Int} {t4 n ts tp : Nat}
    (B : Below A₀ base outer h₀) (F : Fr h₀ L s.heap m) (X : (Mine.hd.heap_1_3 w.params).In h₀) (N : News h₀ L s.heap (mLed w M D txt pat κ d t4 rest))
    (T : Top P loose mean mg mb h₀) (hk : cs.kind = .function) (hdp : (dp : Int) + 5 * (pat.length : Int) + 40 < 990) (hun : (un : Int) + 30 * (pat.length : Int) + 240 < 9900)
    (hκ : κ.tick = tick) (hc : CL n rest) (hr : ∀ p ∈ rest, p.1 ≠ D) (hMD : M ≠ D) (hn : n ≤ lf)
    (retT : n + k ≤ lf → ∀ x, r = some x → ∀ t ta tb h' tk' rest', CL (n + k) rest' → Fr h₀ L h' m → News h₀ L h' ((t, tupO [.int x.1 ta, .int x.2 tb]) :: rest') → Q (.ref t) { s with heap := h', toks := tk' })
    (retN : n + k ≤ lf → r = none → ∀ h' tk' rest', CL (n + k) rest' → Fr h₀ L h' m → News h₀ L h' rest' → Q .none { s with heap := h', toks := tk' })
    (rai : lf < n + k → ∀ e dx h' tk' rest' g₂, CL (lf + 1) rest' → Fr h₀ L g₂ m → g₂.UpToSlots h' → RaisedD w base (envX cn cs L a ccd cl :: outer) e dx rest' h' → E (.ref e) { s with heap := h', toks := tk' }) :
    wpAny (model prg w) (ktrTop dp un gd cn cs L a ccd cl outer) (call (.ref 250) [.ref M, .int 0 ts, .int 0 tp, .bool false]) Q E s := by
  have ih := @searches w P loose mean mg mb M D txt pat tick CL u lf HC hpat htxt hpat2 0 r k hS
  tb_start
  refine wpAny_call ?_
  k_dflt krn_off
  k_steps
  k_dflt (refine' ih ?k1 ?k2 ?k3 ?k4 ?k5 ?kd ?ku ?q0 ?hc ?hr hMD ?hn ?m0 ?m1 ?m2 ?m3 ?x0 ?retT ?retN ?rai; (case k1 => k_asm); (case k2 => k_asm); (case k3 => k_asm); (case k4 => ktr_rel); (case k5 => k_asm); (case kd => isplit); (case ku => isplit); (case q0 => assumption); (case hc => assumption); (case hr => assumption); (case hn => omega); (case m0 => got_up); (case m1 => got_up); (case m2 => got_up); (case m3 => got_up); (case x0 => omega))
  case rai =>
    intro hlt e8 dx8 m8 h8 tk8 rest8 g8 hcl8 F8 U8 R8
    refine PassesOwn.leaving _ _ ?_
    (try k_unfold); (try dsimp only)
    k_dflt (refine' leaveOnT (cl := []) ?l8f ?l8r ?l8u ?_; (case l8r => exact R8); (case l8u => exact U8); (case l8f => first | exact F8 | k_asm))
    intro h7 R7 U7
    (try k_unfold); (try dsimp only)
    exact rai (by omega) _ _ _ _ _ _ hcl8 (by assumption) U7 R7
  case retT =>
    intro hle8 x8 hx8 t8 ta8 tb8 m8 h8 tk8 rest8 t48 κ8 d8 hc8 hr8 F8 N8
    (try dsimp only); (try k_fold)
    k_steps
    exact retT (by omega) _ hx8 _ _ _ _ _ _ hc8 (by assumption) (cb_drop (by assumption) (fun q hq => by
      rcases List.mem_cons.mp hq with hq | hq
      · rw [hq]; exact List.mem_cons_self
      · exact List.mem_cons_of_mem _ (List.mem_cons_of_mem _ (List.mem_cons_of_mem _ hq))))
  case retN =>
    intro hle8 hx8 m8 h8 tk8 rest8 t48 κ8 d8 hc8 hr8 F8 N8
    (try dsimp only); (try k_fold)
    k_steps
    exact retN (by omega) hx8 _ _ _ hc8 (by assumption) (cb_drop (by assumption) (fun q hq => List.mem_cons_of_mem _ (List.mem_cons_of_mem _ hq)))

end J8
section X0
open PySem PySem.W PyProof.Rows PySem.Calls Builtin Builtin.ObjectAttr
set_option maxRecDepth 100000
set_option maxHeartbeats 4000000
noncomputable def excMro (K : Frag) (C : Addr) : Bool := (clsIn K C).any fun cd => cd.mro == [.ref C, .type "Exception", .type "BaseException", .type "object"]
section
variable {prog : Program} {w : World} {A : Around} {R : Result → Shared → Prop} {s : Shared} {K : Frag} {x C dx L : Addr} {h₀ : Heap} {m : Str → Option Value} {news news' : List (Addr × Obj)} {ox od : Obj} {es es' : List DictEntry} {n n' : Nat} {name : Str} {v : Value}
theorem osaE {ox : Obj} {od : Option Obj} {tk : Tok} (X : K.In s.heap) (I : InstAt s.heap x ox C od) (hp : excMro K C = true) (ht : takerIn K C name = some none)
    (h : ∀ b, wpAny (model prog w) A.in1 (storeInOwnDict (.ref x) (.ref C) (.str name tk) name v b)
      (fun fin s' => match fin with | .done f => R (.ok f) s' | .again c' => c'.quiet = true ∧ codeAny (model prog w) A c' R s') (fun e s' => R (.error e) s') s) :
    codeAny (model prog w) A (.call (.builtin "object.__setattr__") ⟨[.ref x, .str name tk, v], []⟩) R s := by
  have SF := PySem.F.store_object
  obtain ⟨cd, hc, ho⟩ := any_some hp
  have ho := beq_iff_eq.mp ho
  have sub : Looks (model prog w) s.heap (isInstance (.ref x) (.type "object")) true := I.type.andThen (looks_mroIn X (by unfold mroIn; rw [hc, Option.bind_some, ho, if_neg (by simp)]; simp))
  refine codeAny_call_builtin SF.slot.plain SF.entry (@check_slot (model prog w) _ _ s "object.__setattr__" "object" "__setattr__" (.ref x) [.str name tk, v] [] _ SF.kind SF.split sub (SF.args (.ref x) (.str name tk) v) ?_)
  obtain ⟨attr, ha, hr⟩ := Option.bind_eq_some_iff.mp ht
  have hm : Looks (model prog w) s.heap (mroOf (.ref C)) cd.mro := (looks_clsIn X hc).andThen .now
  have L3 : Looks (model prog w) s.heap (storeTaker? attr) none := by
    cases attr with
    | none => cases hr; exact .now
    | some a =>
      obtain ⟨b, hb, hbe⟩ := Option.map_eq_some_iff.mp hr
      cases b with
      | true => cases hbe
      | false => exact (looks_takesIn X hb).andThen .now
  rw [osa_eq, refuse_eq]
  refine wpAny_bind (wpAny_bind (I.type.here (wpAny_bind (hm.here ?_))))
  rw [ho, refuseLoop_ref, PySem.F.store_Exception.passes]
  refine wpAny_pure (wpAny_bind (I.type.here (wpAny_bind ((looks_findIn X ha).here (wpAny_bind (L3.here ?_))))))
  exact h _

theorem putE {A : Around} {Q : Fin → Shared → Prop} {E : Value → Shared → Prop} {es₀ : List DictEntry} {tk : Tok} (D : s.heap.get? dx = some (dictOf es₀ n)) (hl : (getL name es₀).isSome = true) (hz : (putL name (PyData.keyHash w.params name) (.str name s.toks) v es₀).length ≤ 1000)
    (h : (s.heap.update dx (Obj.putName name (PyData.keyHash w.params name) (.str name s.toks) v)).get? dx = some (dictOf (putL name (PyData.keyHash w.params name) (.str name s.toks) v es₀) (putN name es₀ n)) →
      Q (.done (.ret .none)) { s with heap := s.heap.update dx (Obj.putName name (PyData.keyHash w.params name) (.str name s.toks) v), toks := s.toks + 1 }) :
    wpAny (model prog w) A (storeInDict dx (.str name tk) name v) Q E s := by
  have D' : (s.heap.update dx (Obj.putName name (PyData.keyHash w.params name) (.str name s.toks) v)).get? dx = some (dictOf (putL name (PyData.keyHash w.params name) (.str name s.toks) v es₀) (putN name es₀ n)) := by
    rw [← putName_dict]
    exact Heap.get?_update_self _ D (by rw [putName_dict]; rfl)
  unfold storeInDict newKeyGuard
  refine wpAny_bind (wpAny_pure (wpAny_bind ?_))
  unfold nsSet
  refine wpAny_bind (wpAny_bind (wpAny_askSetting (wpAny_pure (wpAny_bind (wpAny_mkText (wpAny_bind (wpAny_loadPart D ?_)))))))
  dsimp only
  have c : (!es₀.toArray.any (·.key.isStr name) && es₀.toArray.any (·.refKey)) = false := by
    rw [← Array.any_toList, ← Array.any_toList]
    unfold getL at hl
    split at hl
    · rename_i en he
      rw [List.any_eq_true.mpr ⟨en, List.mem_of_find?_eq_some he, List.find?_some he⟩]; rfl
    · split at hl
      · cases hl
      · rename_i z; rw [Bool.not_eq_true] at z; rw [z, Bool.and_false]
  rw [aRefKeyMayBeTheName_at, c]
  refine wpAny_updatePart D ?_
  refine wpAny_bind (wpAny_lookBehind D' (pastItsLine_dict (by rw [List.size_toArray, sizeLine_eq]; omega)) ?_)
  exact wpAny_pure (h D')

/-- a store into an exception that has no dict yet -/
theorem set31_first {vs : Array Value} {sl : Array (Option Value)} {E : Value → Shared → Prop} {Q : Unit → Shared → Prop} (F : Fr h₀ L s.heap m) (X₀ : K.In h₀) (N : News h₀ L s.heap ((x, ⟨.ref C, none, .fields vs, sl⟩) :: news))
    (hs : findIn K (.ref C) "__setattr__" = some (some (.builtin "object.__setattr__"))) (hp : excMro K C = true) (ht : takerIn K C name = some none) (hh : hasDictIn K C = true) (hx : ∀ p ∈ news, p.1 ≠ x)
    (h : ∀ h' dx tk, Fr h₀ L h' m → News h₀ L h' ((x, ⟨.ref C, some dx, .fields vs, sl⟩) :: (dx, dictOf [⟨PyData.keyHash w.params name, .str name tk, v⟩] 1) :: news) → x < dx → (∀ p ∈ news, p.1 < dx) → Q () { s with heap := h', toks := s.toks + 2 }) :
    wpAny (model prog w) A (setAttr (.ref x) name v) Q E s := by
  have X := X₀.keeps F.keep
  have hxg := (N _ List.mem_cons_self).1
  have I : InstAt s.heap x ⟨.ref C, none, .fields vs, sl⟩ C none := ⟨hxg, rfl, rfl, trivial⟩
  refine set_plain X I hs ?_
  obtain ⟨hp', g, d, tk, os⟩ := s
  dsimp only at *
  refine osaE (s := ⟨hp', g, d, tk + 1, os⟩) X I hp ht fun b => ?_
  obtain ⟨cd, hc, hd'⟩ := any_some hh
  refine wpAny_bind (wpAny_pure (wpAny_bind (wpAny_bind (wpAny_loadPart hxg (wpAny_bind ((looks_clsIn (K := K) X hc).here ?_))))))
  rw [hd']
  show wpAny _ _ (alloc { cls := .type "dict", data := .dict #[] } >>= fun d => update x (fun o => { o with dict := some d }) >>= fun _ => dictMade (.ref C) x d) _ _ _
  have hx₁ := Heap.get?_push_of_some { cls := .type "dict", data := .dict #[] } hxg
  have hxs : x < hp'.objs.size := Heap.lt_size hxg
  refine wpAny_bind (wpAny_alloc (wpAny_bind (wpAny_update hx₁ ?_)))
  refine wpAny_pure (a := some hp'.objs.size) ?_
  have hu : News h₀ L ((hp'.push { cls := .type "dict", data := .dict #[] }).update x fun o => { o with dict := some hp'.objs.size }) ((x, ⟨.ref C, some hp'.objs.size, .fields vs, sl⟩) :: (hp'.objs.size, dictOf [] 0) :: news) ∧ Fr h₀ L ((hp'.push { cls := .type "dict", data := .dict #[] }).update x fun o => { o with dict := some hp'.objs.size }) m := by
    have F1 := F.push { cls := .type "dict", data := .dict #[] }
    have N1 : News h₀ L (hp'.push { cls := .type "dict", data := .dict #[] }) ([] ++ (x, ⟨.ref C, none, .fields vs, sl⟩) :: (hp'.objs.size, dictOf [] 0) :: news) := by
      have := N.push F { cls := .type "dict", data := .dict #[] }
      refine cb_drop this fun q hq => ?_
      rcases List.mem_cons.mp hq with rfl | hq
      · exact List.mem_cons_of_mem _ List.mem_cons_self
      · rcases List.mem_cons.mp hq with rfl | hq
        · exact List.mem_cons_self
        · exact List.mem_cons_of_mem _ (List.mem_cons_of_mem _ hq)
    obtain ⟨U1, U2⟩ := news_upd (f := fun o => { o with dict := some hp'.objs.size }) F1 N1 (fun _ h => nomatch h) (fun p hp => by
      rcases List.mem_cons.mp hp with rfl | hp
      · exact Nat.ne_of_gt hxs
      · exact hx p hp) rfl rfl
    exact ⟨U2, U1⟩
  obtain ⟨N2, F2⟩ := hu
  refine putE (n := 0) (es₀ := []) (N2 (hp'.objs.size, dictOf [] 0) (List.mem_cons_of_mem _ List.mem_cons_self)).1 rfl (by simp [putL]) fun hput => ?_
  obtain ⟨U1, U2⟩ := news_upd (pre := [(x, ⟨.ref C, some hp'.objs.size, .fields vs, sl⟩)]) (post := news) (o' := dictOf [⟨PyData.keyHash w.params name, .str name (tk + 1), v⟩] 1) (f := Obj.putName name (PyData.keyHash w.params name) (.str name (tk + 1)) v) F2 N2 (fun p hp => by
      rw [List.mem_singleton.mp hp]; exact Nat.ne_of_lt hxs) (fun p hp => Nat.ne_of_lt (Heap.lt_size (N p (List.mem_cons_of_mem _ hp)).1)) (by rw [putName_dict]; rfl) rfl
  exact h _ _ _ U1 U2 hxs fun p hp => Heap.lt_size (N p (List.mem_cons_of_mem _ hp)).1

/-- a store into an exception that has its dict -/
theorem set31_next {vs : Array Value} {sl : Array (Option Value)} {E : Value → Shared → Prop} {Q : Unit → Shared → Prop} (F : Fr h₀ L s.heap m) (X₀ : K.In h₀) (N : News h₀ L s.heap news) (hm1 : (x, (⟨.ref C, some dx, .fields vs, sl⟩ : Obj)) ∈ news) (hm2 : (dx, dictOf es n) ∈ news)
    (hs : findIn K (.ref C) "__setattr__" = some (some (.builtin "object.__setattr__"))) (hp : excMro K C = true) (ht : takerIn K C name = some none) (hh : hasDictIn K C = true) (hl : (getL name es).isSome = true)
    (e : (putL name (PyData.keyHash w.params name) (.str name (s.toks + 1)) v es, putN name es n) = (es', n')) (U : Upd dx (dictOf es n) (dictOf es' n') news news') (hz : es'.length ≤ 1000)
    (h : ∀ h', Fr h₀ L h' m → News h₀ L h' news' → Q () { s with heap := h', toks := s.toks + 2 }) :
    wpAny (model prog w) A (setAttr (.ref x) name v) Q E s := by
  have X := X₀.keeps F.keep
  have hxg := (N _ hm1).1
  have hdg := (N _ hm2).1
  have I : InstAt s.heap x ⟨.ref C, some dx, .fields vs, sl⟩ C (some (dictOf es n)) := ⟨hxg, rfl, rfl, hdg⟩
  obtain ⟨e1, e2⟩ := Prod.mk.inj e
  refine set_plain X I hs ?_
  obtain ⟨hp', g, d, tk, os⟩ := s
  dsimp only at *
  refine osaE (s := ⟨hp', g, d, tk + 1, os⟩) X I hp ht fun b => ?_
  obtain ⟨cd, hc, hd'⟩ := any_some hh
  refine wpAny_bind (wpAny_pure (wpAny_bind (wpAny_bind (wpAny_loadPart hxg (wpAny_bind ((looks_clsIn (K := K) X hc).here ?_))))))
  rw [hd']
  refine wpAny_pure (a := some dx) ?_
  refine putE (n := n) (es₀ := es) hdg hl (by dsimp only; rw [e1]; exact hz) fun hput => ?_
  obtain ⟨pre, post, rfl, rfl, a, b⟩ := U.split
  obtain ⟨U1, U2⟩ := news_upd (o' := dictOf es' n') (f := Obj.putName name (PyData.keyHash w.params name) (.str name (tk + 1)) v) F N a b (by rw [putName_dict]; rw [e1, e2]) rfl
  exact h _ U1 U2
end

end X0
section X1
open PySem PySem.W PyProof.Rows PySem.Calls
set_option maxRecDepth 100000
set_option maxHeartbeats 4000000
theorem off_X1 : True := by
  w_top off
  trivial
local macro_rules | `(tactic| walk_at "setAttr ref") => `(tactic| (k_here; k_dflt (refine' set31_next ?k1 ?k2 ?k3 ?k4 ?k5 ?k6 ?k7 ?k8 ?k9 ?k10 ?k11 ?k12 ?k13 ?_; (case k1 | k2 | k3 => k_asm); (case k4 | k5 => k_mem); (case k6 => k_is); (case k7 => kernel_rfl); (case k8 | k9 => k_is); (case k10 => k_get); (case k11 => k_put); (case k12 => k_upd); (case k13 => exact Nat.le_of_ble_eq_true rfl); k_whole); intro h' F' N'; (try k_sweep)))
local macro_rules | `(tactic| walk_at "setAttr ref") => `(tactic| (k_here; k_dflt (refine' set31_first ?k1 ?k2 ?k3 ?k4 ?k5 ?k6 ?k7 ?k8 ?_; (case k1 | k2 | k3 => k_asm); (case k4 => k_is); (case k5 => kernel_rfl); (case k6 | k7 => k_is); (case k8 => k_all); k_whole); intro h' dx' tk' F' N' l1 l2; (try k_lt2 l1); (try k_sweep)))

theorem ns_some_of {K : Frag} {h : Heap} {N : Addr} {mg : Str → Option Value} {n : Str} {v : Value} (X : K.In h) (G : h.Ns N mg) (e : nsIn K N n = some (some v)) : mg n = some v := by
  obtain ⟨o, es, ep, ho, hd, _, hf⟩ := G
  unfold nsIn at e
  split at e
  · rename_i c d es' n' sl q
    have := X _ _ q
    rw [ho] at this
    cases this
    cases hd
    split at e
    · rename_i en he
      cases e
      rw [← hf]
      unfold nsFind findBy
      rw [← Array.find?_toList, he]
      rfl
    · split at e <;> cases e
  · cases e
theorem all_lt_ne {l : List (Addr × Obj)} {h : Heap} {e : Addr} (hl : ∀ p ∈ l, ∃ o, h.get? p.1 = some o) (he : h.get? e = none) : ∀ p ∈ l, p.1 ≠ e := fun p hp q => by
  obtain ⟨o, ho⟩ := hl p hp
  rw [q, he] at ho; cases ho
theorem c_lua {P : Program} {loose : List Str} {mean : ExcName → Option Value} {mg mb : Str → Option Value} {w : World}
    {dp un : Nat} {gd : Option (List Code)} {cn : Str} {cs : Scope} {a : Addr} {ccd : Value} {cl : List (Str × Addr)} {outer : List Env} {A₀ : Around} {base h₀ : Heap} {L : Addr} {m : Str → Option Value} {s : Shared}
    {Q E : Value → Shared → Prop} {news : List (Addr × Obj)} {b : Array UInt8} {tb : Nat} (B : Below A₀ base outer h₀) (F : Fr h₀ L s.heap m) (X : (Mine.hd.heap_1_3 w.params).In h₀) (N : News h₀ L s.heap news)
    (T : Top P loose mean mg mb h₀) (hk : cs.kind = .function) (hdp : dp + 10 < recursionLimit) (hun : un + 50 < cLine)
    (ret : ∀ e dx tt k1 k2 k3 tr h' tk', Fr h₀ L h' m → News h₀ L h' ((e, ⟨.ref 31, some dx, .fields #[.ref tt, .none, .none, .none, .bool false, .none], #[]⟩) ::
        (dx, dictOf [⟨PyData.keyHash w.params (Str.ofString "value"), .str (Str.ofString "value") k1, .bytes b tb⟩,
   ⟨PyData.keyHash w.params (Str.ofString "trace"), .str (Str.ofString "trace") k2, tr⟩,
   ⟨PyData.keyHash w.params (Str.ofString "is_in_handler"), .str (Str.ofString "is_in_handler") k3, .bool false⟩] 3) :: news) → (∀ p ∈ news, p.1 ≠ e) → Q (.ref e) { s with heap := h', toks := tk' }) :
    wpAny (model prg w) (ktrTop dp un gd cn cs L a ccd cl outer) (call (.ref 31) [.bytes b tb]) Q E s := by
  tb_start
  obtain ⟨hp, g, d, tk, os⟩ := s
  dsimp only at F N ret
  have X1 : (Mine.hd.heap_1_3 w.params).In hp := X.keeps F.keep
  have hn : hp.Ns 30 (hp.nsMap 30) := .of_isNs (isNs_of_in X1 (by kernel_rfl))
  have hi : hp.nsMap 30 "__init__" = some (.ref 28) := ns_some_of X1 hn (by k_is)
  have hty : typeIn (Mine.hd.heap_1_3 w.params) (.ref 28) = some (.type "function") := by k_is
  obtain ⟨oI, hoI, hcI⟩ := Option.map_eq_some_iff.mp (show ((Mine.hd.heap_1_3 w.params).lookup 28).map (·.cls) = some (.type "function") from hty)
  k_dflt (refine' wpAny_call_exc_init PySem.F.excBase_Exception ?hC hn hi (X1 _ _ hoI) hcI ?hq; (case hC => (refine' X1 _ _ ?hl; (case hl => k_is)));)
  intro h' e hm
  obtain ⟨tt, he, ht0, ht⟩ := hm.there
  obtain ⟨oL, es, ep, hL, rL⟩ := id F.ns
  have neL : ∀ b, hp.get? b = none → b ≠ L := fun b hb q => by rw [q, hL] at hb; cases hb
  have ne0 : ∀ b, hp.get? b = none → h₀.get? b = none := fun b hb => by
    cases q : h₀.get? b with
    | none => rfl
    | some o => have := F.keep b o q; rw [hb] at this; cases this
  have F1 : Fr h₀ L h' m := ⟨⟨oL, es, ep, hm.keeps _ _ hL, rL⟩, fun b o q => hm.keeps _ _ (F.keep b o q), F.above⟩
  have hne : ∀ p ∈ news, p.1 ≠ e := all_lt_ne (fun p hp => ⟨_, (N p hp).1⟩) hm.new
  have N1 : News h₀ L h' ((e, ⟨.ref 31, none, .fields #[.ref tt, .none, .none, .none, .bool false, .none], #[]⟩) :: news) := fun p hp => by
    rcases List.mem_cons.mp hp with rfl | hp
    · exact ⟨he, neL _ hm.new, ne0 _ hm.new⟩
    · exact ⟨hm.keeps _ _ (N p hp).1, (N p hp).2⟩
  clear N F
  refine wpAny_call ?_
  k_dflt krn_off
  k_steps
  exact ret _ _ _ _ _ _ _ _ _ (by assumption) (cb_drop (by assumption) (fun q hq => List.mem_cons_of_mem _ hq)) hne


theorem raiseE {M : Model} {A : Around} {E : Value → Shared → Prop} {env : Env} {C : Addr} {nm q : Str} {N : Addr} {bs bm : List Value} {hdct : Bool} {sn : List Str} {sub : List Value} {ab : Bool} {col : Option Bool} {dd : Option Addr} {k0 k1 k2 k3 k5 : Option Value} {newId : String}
    {s : Shared} {x : Sem Value} {Q : Flow → Shared → Prop} (hbase : bm.contains (.type "BaseException") = true) (hh : A.handled = none)
    (h : wpAny M A x (fun v s₁ => ∃ e t dx, v = .ref e ∧ s₁.heap.get? C = some (excClassObj nm q C N bs bm hdct sn sub ab col dd k0 k1 k2 k3 k5 newId) ∧
      s₁.heap.get? e = some ⟨.ref C, some dx, .fields #[.ref t, .none, .none, .none, .bool false, .none], #[]⟩ ∧ E (.ref e) s₁) E s) :
    wpAny M A (raiseStmt env (some x) none) Q E s := by
  have hcB : (Value.ref C :: bm).contains (.type "BaseException") = true := by rw [List.contains_cons, hbase, Bool.or_true]
  unfold raiseStmt
  refine wpAny_bind (wpAny_mono h (fun v s₁ h₁ => ?_) fun _ _ x => x)
  obtain ⟨e, t, dx, rfl, hC, he, hE⟩ := h₁
  obtain ⟨hp, g, d, tk, os⟩ := s₁
  repeat (first | with_reducible refine wpAny_loadPart_at he ?_ | with_reducible refine wpAny_loadPart_at hC ?_ | (with_reducible refine wpAny_isSubtype_exc hC ?_; rw [hcB]) | wp_step)
  exact wpAny_raiseNew_none hh hE
theorem exec_raiseE {prog : Program} {w : World} {A : Around} {E : Value → Shared → Prop} {env : Env} {C : Addr} {nm q : Str} {N : Addr} {bs bm : List Value} {hdct : Bool} {sn : List Str} {sub : List Value} {ab : Bool} {col : Option Bool} {dd : Option Addr} {k0 k1 k2 k3 k5 : Option Value} {newId : String}
    {s : Shared} {x : PySem.Expr} {pos : Pos} {Q : Flow → Shared → Prop} (hbase : bm.contains (.type "BaseException") = true) (hh : A.handled = none)
    (h : wpAny (model prog w) A (eval x env) (fun v s₁ => ∃ e t dx, v = .ref e ∧ s₁.heap.get? C = some (excClassObj nm q C N bs bm hdct sn sub ab col dd k0 k1 k2 k3 k5 newId) ∧
      s₁.heap.get? e = some ⟨.ref C, some dx, .fields #[.ref t, .none, .none, .none, .bool false, .none], #[]⟩ ∧ E (.ref e) s₁) E s) :
    wpAny (model prog w) A (exec (.Raise (some x) none pos) env) Q E s := by
  rw [arm_exec_Raise]
  first
    | exact wpAny_bind (wpAny_standAt (raiseE hbase hh (wpAny_bind (wpAny_mono h (fun v s₃ h₃ => wpAny_bind (wpAny_standAt (wpAny_pure h₃))) fun _ _ x => x))))
    | (simp only [evalOpt, Option.map]; exact wpAny_bind (wpAny_standAt (raiseE hbase hh (wpAny_bind (wpAny_mono h (fun v s₃ h₃ => wpAny_bind (wpAny_standAt (wpAny_pure h₃))) fun _ _ x => x)))))
/-- the exception leaves the frame that raised it -/
theorem leaveRaiseD {M : Model} {E : Value → Shared → Prop} {s' : Shared} {A₀ : Around} {base g h : Heap} {outer : List Env} {L a e dx : Addr} {m : Str → Option Value} {name : Str} {scope : Scope} {cd : Value} {cl : List (Str × Addr)} {Q : Unit → Shared → Prop} {news : List (Addr × Obj)} {w : World}
    {dp un : Nat} {gd : Option (List Code)} {tt : Addr} {k1 k2 k3 t1 : Nat} {tr : Value} (K : Below A₀ base outer g) (hk : scope.kind = .function) (hs : s'.heap = h) (F : Fr g L h m)
    (N : News g L h ((e, ⟨.ref 31, some dx, .fields #[.ref tt, .none, .none, .none, .bool false, .none], #[]⟩) :: (dx, dictOf (enoughEs w k1 k2 k3 t1 tr) 3) :: news)) (hne : ∀ p ∈ news, p.1 ≠ e)
    (hQ : ∀ h', RaisedD w base outer e dx news h' → g.UpToSlots h' → Q () { s' with heap := h' }) :
    wpAny M (ktrTop dp un gd name scope L a cd cl outer) (leaving (envX name scope L a cd cl) (.ref e)) Q E s' := by
  subst hs
  have hde : dx ≠ e := fun q => by
    have h1 := (N _ List.mem_cons_self).1
    have h2 := (N _ (List.mem_cons_of_mem _ List.mem_cons_self)).1
    dsimp only at h1 h2
    rw [q, h1] at h2
    cases h2
  have K' : Below (Around.deeper A₀ (envX name scope L a cd cl)) base (envX name scope L a cd cl :: outer) s'.heap := pushX K F rfl (by exact hk)
  have hin : ∀ env ∈ (envX name scope L a cd cl :: outer), ∀ b, env.frame = some b → b ∈ e :: (envX name scope L a cd cl :: outer).filterMap (·.frame) := fun env he b hb => List.mem_cons_of_mem _ (List.mem_filterMap.mpr ⟨env, he, hb⟩)
  have nf : ∀ q ∈ ((e, (⟨.ref 31, some dx, .fields #[.ref tt, .none, .none, .none, .bool false, .none], #[]⟩ : Obj)) :: (dx, dictOf (enoughEs w k1 k2 k3 t1 tr) 3) :: news), q.1 ∉ (envX name scope L a cd cl :: outer).filterMap (·.frame) := fun q hq hm => by
    obtain ⟨env, he, hf⟩ := List.mem_filterMap.mp hm
    rcases List.mem_cons.mp he with rfl | he
    · exact (N q hq).2.1 (Option.some.inj hf).symm
    · obtain ⟨o, ho, _⟩ := (K.frames.mem (List.mem_filterMap.mpr ⟨env, he, hf⟩)).2
      rw [(N q hq).2.2] at ho; cases ho
  have hbe : base.get? e = none := fresh_of_stays K.stays (N _ List.mem_cons_self).2.2
  have st : base.StaysIn (hideAll s'.heap (e :: (envX name scope L a cd cl :: outer).filterMap (·.frame))) := fun b o q => hideAll_get _ (K'.stays b o q) fun hm => by
    rcases List.mem_cons.mp hm with rfl | hm
    · rw [hbe] at q; cases q
    · rw [(K'.frames.mem hm).1] at q; cases q
  have hl : ∀ q ∈ (dx, dictOf (enoughEs w k1 k2 k3 t1 tr) 3) :: news, (hideAll s'.heap (e :: (envX name scope L a cd cl :: outer).filterMap (·.frame))).get? q.1 = some q.2 ∧ base.get? q.1 = none := fun q hq => by
    refine ⟨hideAll_get _ (N q (List.mem_cons_of_mem _ hq)).1 fun hm => ?_, fresh_of_stays K.stays (N q (List.mem_cons_of_mem _ hq)).2.2⟩
    rcases List.mem_cons.mp hm with rfl | hm
    · rcases List.mem_cons.mp hq with rfl | hq
      · exact hde rfl
      · exact hne q hq rfl
    · exact nf q (List.mem_cons_of_mem _ hq) hm
  refine leaveFirstD (base := hideAll s'.heap (e :: (envX name scope L a cd cl :: outer).filterMap (·.frame))) (dx := dx) rfl (funFrames_hide K'.frames hin) rfl (N _ List.mem_cons_self).1 (fun b o q => of_hideAll _ q) (hideAll_none _ List.mem_cons_self) rfl rfl ⟨rfl, rfl⟩ fun h' x1 x2 => ?_
  exact hQ h' ⟨_, st, fun q hq => hl q (List.mem_cons_of_mem _ hq), ⟨k1, k2, k3, t1, tr, (hl _ List.mem_cons_self).1⟩, (hl _ List.mem_cons_self).2, x1⟩ ((Heap.UpToSlots.of_keeps F.keep).trans x2)

end X1
end GJ
end GA
section GX
open PySem PySem.W PyProof.Rows PySem.Calls
local macro_rules | `(tactic| walk_at "call ref") => `(tactic| (k_here; kn_here; k_dflt (refine wpAny_call ?_; (refine' code_nest ?k1 ?k2 ?k3 ?k4 ?k5 ?kA ?kF ?kK ?k6 ?k7 ?k8 ?k9 ?kB ?_ ?c2 ?c3 ?c4 ?c5; (case kA | kF => exact rfl); (case kK => first | exact rfl | assumption); (case k1 | k2 | k3 | k4 | k5 => k_asm); (case k6 => k_mem); (case k7 => exact codeRec_news (by k_asm) (by k_mem) (by assumption) (by assumption)); (case k8 => ktr_room); (case k9 => exact BindsTo.of_eq rfl); (case c5 => decide); (case kB => exact locs rfl); (case c2 | c3 | c4 => exact rfl); k_whole; intro g' L' h' FG' F' N' B' X' T'; (try dsimp only); (try k_fold)))))
local macro_rules | `(tactic| walk_at "exec Raise some none") => `(tactic| (k_here; k_dflt (refine' raise31 ?X ?hh ?_; (case X => k_asm); (case hh => exact rfl)); (try dsimp only); (try k_fold)))
section X2
open PySem PySem.W PyProof.Rows PySem.Calls
set_option maxRecDepth 100000
set_option maxHeartbeats 4000000
theorem off_X2 : True := by
  w_top off
  trivial
theorem fill2 : True := by
  tb_start
  trivial
noncomputable abbrev ndA {K : Frag} {f : Addr} {oc od nm q ps a0 n2 ar bd de re tp sc ts bi po tl sc2 dV kV doc pm an cdv ct osl} (_ : K.lookup f = some ⟨oc, od, .func (fnOf nm q ps (a0 :: .FunctionDef n2 ar bd de re tp sc ts bi po :: tl) sc2 dV kV doc pm an cdv ct), osl⟩) : Arguments := ar
noncomputable abbrev cnA (P : Params) : Arguments := by
  refine' ndA (K := Mine.hd.heap_1_3 P) (f := 283) ?h
  case h => k_is
noncomputable abbrev ndB {K : Frag} {f : Addr} {oc od nm q ps a0 n2 ar bd de re tp sc ts bi po tl sc2 dV kV doc pm an cdv ct osl} (_ : K.lookup f = some ⟨oc, od, .func (fnOf nm q ps (a0 :: .FunctionDef n2 ar bd de re tp sc ts bi po :: tl) sc2 dV kV doc pm an cdv ct), osl⟩) : List Stmt := bd
noncomputable abbrev cnB (P : Params) : List Stmt := by
  refine' ndB (K := Mine.hd.heap_1_3 P) (f := 283) ?h
  case h => k_is
noncomputable abbrev ndS {K : Frag} {f : Addr} {oc od nm q ps a0 n2 ar bd de re tp sc ts bi po tl sc2 dV kV doc pm an cdv ct osl} (_ : K.lookup f = some ⟨oc, od, .func (fnOf nm q ps (a0 :: .FunctionDef n2 ar bd de re tp sc ts bi po :: tl) sc2 dV kV doc pm an cdv ct), osl⟩) : Scope := sc
noncomputable abbrev cnS (P : Params) : Scope := by
  refine' ndS (K := Mine.hd.heap_1_3 P) (f := 283) ?h
  case h => k_is

/-- the counting function that _law_counted makes, and what it closes over -/
noncomputable abbrev ctObjs (w : World) (fc co sl ce cf : Addr) (qn : Str) (dc pm ct : Value) (oc o1 o2 : Obj) (vs : List Value) (cap : Nat) (R₀ : List (Addr × Obj)) : List (Addr × Obj) :=
  (fc, fnMade (Str.ofString "count") qn (cnA w.params) (cnB w.params) (cnS w.params) [(Str.ofString "seen", ce), (Str.ofString "left", cf)] dc pm co ct) ::
  (co, oc) :: (sl, PySem.W.listOf vs.toArray cap) :: (ce, o1) :: (cf, o2) :: R₀
noncomputable def CLt (w : World) (fc co sl ce cf : Addr) (qn : Str) (dc pm ct : Value) (oc o1 o2 : Obj) (R₀ : List (Addr × Obj)) (n : Nat) (rest : List (Addr × Obj)) : Prop :=
  ∃ vs cap, vs.length = n ∧ rest = ctObjs w fc co sl ce cf qn dc pm ct oc o1 o2 vs cap R₀


theorem lenL {prog : Program} {w : World} {A : Around} {E : Value → Shared → Prop} {s : Shared} {h₀ : Heap} {L l : Addr} {news : List (Addr × Obj)} {xs : List Value} {c k : Nat} {Q : Value → Shared → Prop}
    (N : News h₀ L s.heap news) (hm : (l, PySem.W.listOf xs.toArray c) ∈ news) (hk : xs.length = k) (hfit : k ≤ 2000000) (h : ∀ tk, Q (.int (k : Int) tk) { s with toks := tk + 1 }) :
    wpAny (model prog w) A (call (.builtin "len") [.ref l]) Q E s := by
  have hl : s.heap.IsList l xs.toArray := ⟨_, (N _ hm).1, rfl, c, rfl⟩
  have e : (xs.toArray.size : Int) = (k : Int) := by rw [List.size_toArray, hk]
  refine call_len_list hl (by rw [e]; omega) ?_
  rw [e]; exact h _
theorem raise31 {prog : Program} {w : World} {A : Around} {E : Value → Shared → Prop} {env : Env} {h₀ : Heap} {s : Shared} {x : PySem.Expr} {pos : Pos} {Q : Flow → Shared → Prop} (X : (Mine.hd.heap_1_3 w.params).In h₀) (hh : A.handled = none)
    (h : wpAny (model prog w) A (eval x env) (fun v s₁ => ∃ e t dx, v = .ref e ∧ (∀ b o, h₀.get? b = some o → s₁.heap.get? b = some o) ∧
      s₁.heap.get? e = some ⟨.ref 31, some dx, .fields #[.ref t, .none, .none, .none, .bool false, .none], #[]⟩ ∧ E (.ref e) s₁) E s) :
    wpAny (model prog w) A (exec (.Raise (some x) none pos) env) Q E s := by
  have fin : ∀ {nm q : Str} {N : Addr} {bs : List Value} {hdct : Bool} {sn : List Str} {sub : List Value} {ab : Bool} {col : Option Bool} {dd : Option Addr} {k0 k1 k2 k3 k5 : Option Value} {newId : String},
      h₀.get? 31 = some (excClassObj nm q 31 N bs [.type "Exception", .type "BaseException", .type "object"] hdct sn sub ab col dd k0 k1 k2 k3 k5 newId) → wpAny (model prog w) A (exec (.Raise (some x) none pos) env) Q E s := by
    intro nm q N bs hdct sn sub ab col dd k0 k1 k2 k3 k5 newId hC
    exact exec_raiseE (C := 31) (nm := nm) (q := q) (N := N) (bs := bs) (bm := [.type "Exception", .type "BaseException", .type "object"]) (hdct := hdct) (sn := sn) (sub := sub) (ab := ab) (col := col) (dd := dd) (k0 := k0) (k1 := k1) (k2 := k2) (k3 := k3) (k5 := k5) (newId := newId) (by decide +kernel) hh (wpAny_mono h (fun v s₁ h₁ => by
      obtain ⟨e, t, dx, hv, hkp, he, hE⟩ := h₁
      exact ⟨e, t, dx, hv, hkp _ _ hC, he, hE⟩) fun _ _ y => y)
  k_dflt (refine' fin (X _ _ ?hl); (case hl => k_is))


theorem count_none {w : World} {P : Program} {loose : List Str} {mean : ExcName → Option Value} {mg mb : Str → Option Value} {M D : Addr} {txt pat : List UInt8} (R₀ : List (Addr × Obj)) :
    CountSpec w P loose mean mg mb M D txt pat .none (fun n rest => n = 0 ∧ rest = R₀) 0 0 := by
  unfold CountSpec
  intro dp un gd cn cs a ccd cl outer A₀ base h₀ L m s Q E rest κ d t4 n B F X N T hk hdp hun hκ hc hr hMD hn ret rai
  obtain ⟨k1, k2, k3, k4, k5, k6, k7, k8, t1, t2, t3, t5, kt, kst, kle, klv⟩ := κ
  dsimp only at hκ
  subst hκ
  dsimp only [mLed, mEs] at N
  tb_start
  refine wpAny_call ?_
  k_dflt krn_off
  k_steps
  exact ret (by omega) _ _ _ hc hr (by assumption) (by assumption)

end X2
section X3
open PySem PySem.W PyProof.Rows PySem.Calls
set_option maxRecDepth 100000
set_option maxHeartbeats 4000000
theorem off_X3 : True := by
  w_top off
  trivial
local macro_rules | `(tactic| walk_at "getMethod ref") => `(tactic| (k_here; (with_reducible show wpAny _ _ (getMethod (Value.ref _) (PySem.Str.ofString "append") _) _ _ _); k_dflt (refine' listMethod_K ?N ?m PySem.F.slot_list_append PySem.F.type_list_append ?_; (case N => k_asm); (case m => k_mem))))

theorem mem4 {α : Type} {a b c d : α} {l : List α} : ∀ q ∈ a :: b :: l, q ∈ a :: b :: c :: d :: l := fun q hq => by
  rcases List.mem_cons.mp hq with rfl | hq
  · exact List.mem_cons_self
  · rcases List.mem_cons.mp hq with rfl | hq
    · exact List.mem_cons_of_mem _ List.mem_cons_self
    · exact List.mem_cons_of_mem _ (List.mem_cons_of_mem _ (List.mem_cons_of_mem _ (List.mem_cons_of_mem _ hq)))


theorem c_tick {P : Program} {loose : List Str} {mean : ExcName → Option Value} {mg mb : Str → Option Value} {w : World}
    {dp un : Nat} {gd : Option (List Code)} {cn : Str} {cs : Scope} {a : Addr} {ccd : Value} {cl : List (Str × Addr)} {outer : List Env} {A₀ : Around} {base h₀ : Heap} {L : Addr} {m : Str → Option Value} {s : Shared}
    {Q E : Value → Shared → Prop} {lf tl tq : Nat} {fc co sl ce cf : Addr} {qn : Str} {dc pm ct : Value} {oc o1 o2 : Obj} {ws : Array Value} {R₀ : List (Addr × Obj)} {h9 : Heap} {M D : Addr} {oM oD : Obj} {vs : List Value} {cap n : Nat}
    (hch : CodeHd h9 282 278) (hlf : lf ≤ 1000000) (hoc : oc.data = .fields ws) (hws : ws[1]? = some (.str qn tq)) (ho1 : o1.data = .cell (some (.ref sl))) (ho2 : o2.data = .cell (some (.int (lf : Int) tl))) (d1 : M ≠ sl) (d2 : D ≠ sl) (d3 : fc ≠ sl) (d4 : co ≠ sl) (d5 : ce ≠ sl) (d6 : cf ≠ sl) (d7 : ∀ p ∈ R₀, p.1 ≠ sl)
    (B : Below A₀ base outer h₀) (F : Fr h₀ L s.heap m) (X : (Mine.hd.heap_1_3 w.params).In h₀) (N : News h₀ L s.heap ((M, oM) :: (D, oD) :: ctObjs w fc co sl ce cf qn dc pm ct oc o1 o2 vs cap R₀))
    (T : Top P loose mean mg mb h₀) (hk : cs.kind = .function) (hdp : dp + 14 < recursionLimit) (hun : un + 90 < cLine) (hvs : vs.length = n) (hn : n ≤ lf)
    (ret : n + 1 ≤ lf → ∀ h' tk' v cap', Fr h₀ L h' m → News h₀ L h' ((M, oM) :: (D, oD) :: ctObjs w fc co sl ce cf qn dc pm ct oc o1 o2 (vs ++ [v]) cap' R₀) → Q .none { s with heap := h', toks := tk' })
    (rai : lf < n + 1 → ∀ e dx h' tk' v cap' g₂, Fr h₀ L g₂ m → g₂.UpToSlots h' → RaisedD w base (envX cn cs L a ccd cl :: outer) e dx (ctObjs w fc co sl ce cf qn dc pm ct oc o1 o2 (vs ++ [v]) cap' R₀) h' → E (.ref e) { s with heap := h', toks := tk' }) :
    wpAny (model prg w) (ktrTop dp un gd cn cs L a ccd cl outer) (call (.ref fc) []) Q E s := by
  dsimp only [ctObjs, cnA, cnB, cnS, ndA, ndB, ndS] at N
  tb_start
  k_steps
  k_dflt (refine' lenL (k := n + 1) ?la ?lb ?lc ?ld ?le; (case la => k_asm); (case lb => k_mem); (case lc => simp [hvs]); (case ld => omega))
  intro tk9
  (try dsimp only); (try k_fold)
  by_cases hlt : n + 1 ≤ lf
  · k_steps
    exact ret hlt _ _ _ _ (by assumption) (by assumption)
  · repeat ((fail_if_success (with_reducible show wpAny _ _ (exec (Stmt.Raise _ _ _) _) _ _ _)); first | (k_unfold; (try dsimp only)) | walk1 | (dsimp only; walk1))
    k_dflt (refine' raise31 ?X ?hh ?_; (case X => k_asm); (case hh => exact rfl))
    (try dsimp only); (try k_fold)
    k_steps
    k_dflt (refine' c_lua ?k1 ?k2 ?k3 ?k4 ?k5 ?kK ?kd ?ku ?_; (case k1 => k_asm); (case k2 => k_asm); (case k3 => k_asm); (case k4 => k_asm); (case k5 => k_asm); (case kK => exact rfl); (case kd => ktr_room); (case ku => ktr_units))
    intro e8 dx8 tt8 q1 q2 q3 tr8 h8 tk8 F8 N8 hne8
    refine ⟨e8, tt8, dx8, rfl, F8.keep, (N8 _ List.mem_cons_self).1, ?_⟩
    (try k_unfold); (try dsimp only)
    k_dflt (refine' leaveRaiseD ?l1 rfl rfl ?l3 ?l4 (fun p hp => hne8 p (List.mem_cons_of_mem _ (List.mem_cons_of_mem _ hp))) ?_; (case l1 => k_asm); (case l3 => exact F8); (case l4 => exact cb_drop N8 mem4))
    intro h7 R7 U7
    (try k_unfold); (try dsimp only)
    exact rai (by omega) _ _ _ _ _ _ _ (by assumption) U7 R7

end X3
end GX
section X4
open PySem PySem.W PyProof.Rows PySem.Calls
set_option maxRecDepth 100000
set_option maxHeartbeats 4000000
theorem off_X4 : True := by
  w_top off
  trivial

theorem count_tick {w : World} {P : Program} {loose : List Str} {mean : ExcName → Option Value} {mg mb : Str → Option Value} {M D : Addr} {txt pat : List UInt8} {lf tl tq : Nat} {fc co sl ce cf : Addr} {qn : Str} {dc pm ct : Value} {oc o1 o2 : Obj} {ws : Array Value} {R₀ : List (Addr × Obj)} {h9 : Heap}
    (hch : CodeHd h9 282 278) (hlf : lf ≤ 1000000) (hoc : oc.data = .fields ws) (hws : ws[1]? = some (.str qn tq)) (ho1 : o1.data = .cell (some (.ref sl))) (ho2 : o2.data = .cell (some (.int (lf : Int) tl))) (d1 : M ≠ sl) (d2 : D ≠ sl) (d3 : fc ≠ sl) (d4 : co ≠ sl) (d5 : ce ≠ sl) (d6 : cf ≠ sl) (d7 : ∀ p ∈ R₀, p.1 ≠ sl) (dD : fc ≠ D ∧ co ≠ D ∧ sl ≠ D ∧ ce ≠ D ∧ cf ≠ D ∧ ∀ p ∈ R₀, p.1 ≠ D) :
    CountSpec w P loose mean mg mb M D txt pat (.ref fc) (CLt w fc co sl ce cf qn dc pm ct oc o1 o2 R₀) 1 lf := by
  unfold CountSpec
  intro dp un gd cn cs a ccd cl outer A₀ base h₀ L m s Q E rest κ d t4 n B F X N T hk hdp hun hκ hc hr hMD hn ret rai
  obtain ⟨k1, k2, k3, k4, k5, k6, k7, k8, t1, t2, t3, t5, kt, kst, kle, klv⟩ := κ
  dsimp only at hκ
  subst hκ
  dsimp only [mLed, mEs] at N
  obtain ⟨vs, cap, hvs, hrest⟩ := hc
  subst hrest
  have hD : ∀ vs cap, ∀ p ∈ ctObjs w fc co sl ce cf qn dc pm ct oc o1 o2 vs cap R₀, p.1 ≠ D := by
    obtain ⟨e1, e2, e3, e4, e5, e6⟩ := dD
    intro vs cap p hp
    unfold ctObjs at hp
    simp only [List.mem_cons] at hp
    rcases hp with rfl | rfl | rfl | rfl | rfl | hp
    all_goals first | assumption | exact e6 _ hp
  tb_start
  refine wpAny_call ?_
  k_dflt krn_off
  repeat ((fail_if_success (with_reducible show wpAny _ _ (call (Value.ref _) _) _ _ _)); first | (k_unfold; (try dsimp only)) | walk1 | (dsimp only; walk1) | (leave1; walk_say "STEP leave1"; (try dsimp only)))
  k_dflt (refine' c_tick hch hlf hoc hws ho1 ho2 d1 d2 d3 d4 d5 d6 d7 ?k1 ?k2 ?k3 ?k4 ?k5 rfl ?kd ?ku hvs hn ?ret ?rai; (case k1 => k_asm); (case k2 => k_asm); (case k3 => k_asm); (case k4 => k_asm); (case k5 => k_asm); (case kd => ktr_room); (case ku => ktr_units))
  case rai =>
    intro hlt e8 dx8 h8 tk8 v8 cap8 g8 F8 U8 R8
    (try k_unfold); (try dsimp only)
    k_dflt (refine' leaveOnT (cl := []) ?l1 ?l2 ?l3 ?_; (case l2 => exact R8); (case l3 => exact U8); (case l1 => first | exact F8 | k_asm))
    intro h7 R7 U7
    (try k_unfold); (try dsimp only)
    exact rai hlt _ _ _ _ _ _ ⟨vs ++ [v8], cap8, by rw [List.length_append, hvs, List.length_singleton]; omega, rfl⟩ (by assumption) U7 R7
  intro hle h9 tk9 v9 cap9 F9 N9
  (try dsimp only); (try k_fold)
  k_steps
  exact ret hle _ _ _ ⟨vs ++ [v9], cap9, by rw [List.length_append, hvs, List.length_singleton], rfl⟩ (hD _ _) (by assumption) (by assumption)

end X4
section B0
open PySem PySem.W PyProof.Rows PySem.Calls Builtin
set_option maxRecDepth 100000
set_option maxHeartbeats 4000000

/-- the place of the first zero octet -/
noncomputable def zeroIn (b : Array UInt8) : Option Nat :=
  (if (Bytes.window b.size none none).2 - (Bytes.window b.size none none).1 < 1 then none else some ((Bytes.window b.size none none).1.toNat, (Bytes.window b.size none none).2.toNat)).bind fun p => Bytes.find? b #[0] p.1 p.2
theorem slot_bytes_find : Slot "bytes" "find" "bytes.find" :=
  .of (owner := "bytes") (n := "find") (by rw [typeLookup_type, builtinLookup_eq_fast]; kernel_rfl) (by decide +kernel) (by decide +kernel) (by decide +kernel)
    (by first | exact .inl (by decide +kernel) | exact .inr (by decide +kernel)) (by rw [isSubtype_type]; kernel_rfl)
theorem type_bytes_find : typeOf (.builtin "bytes.find") = pure (.type "method_descriptor") := by show builtinType _ = _; rw [builtinType_eq_fast]; kernel_rfl
theorem entry_bytes_find : entryFor table "bytes.find" = some Builtin.«bytes.find» := entryFor_of_tree (by kernel_rfl)
theorem args_bytes_find (a b : Value) : argsOk "bytes.find" ⟨[a, b], []⟩ := by
  unfold argsOk; rw [signature?_of (id := "bytes.find") (n := ['d', 'n', 'i', 'f']) (o := ['s', 'e', 't', 'y', 'b']) (by kernel_rfl) (by first | exact FB.owner_bytes | kernel_rfl)]; kernel_rfl
section
variable {b : Array UInt8} {t u : Tok}
theorem sargs_eq : Bytes.searchArgs .bytes "find" ⟨[.bytes b t, .bytes #[0] u], []⟩ = pure (b, #[0], if (Bytes.window b.size none none).2 - (Bytes.window b.size none none).1 < 1 then none else some ((Bytes.window b.size none none).1.toNat, (Bytes.window b.size none none).2.toNat)) := by
  kernel_rfl
theorem meets_find (hz : zeroIn b = none) : Meets («bytes.find» ⟨[.bytes b t, .bytes #[0] u], []⟩) (fun _ R s => ∀ tk, R (.ok (.ret (.int (-1) tk))) { s with toks := s.toks + 1 }) := by
  refine .of_wp fun prog w A R s h => ?_
  unfold «bytes.find» Bytes.searchM
  rw [sargs_eq]
  refine wpAny_bind (wpAny_pure ?_)
  dsimp only
  split
  · rename_i i hi
    exact nomatch (show (none : Option Nat) = some i from hz.symm.trans hi)
  · refine wpAny_bind (wpAny_rule ?_)
    show wpAny _ _ (retInt (-1)) _ _ _
    exact wpAny_bind (wpAny_mkInt (wpAny_pure ⟨_, rfl, h _⟩))
end
section
variable {prog : Program} {w : World} {A : Around} {E : Value → Shared → Prop} {s : Shared} {b : Array UInt8} {t u : Tok}
theorem findB {Q : Value → Shared → Prop} (hz : zeroIn b = none) (h : ∀ tk, Q (.int (-1) tk) { s with toks := s.toks + 1 }) :
    wpAny (model prog w) A (call (.builtin "bytes.find") [.bytes b t, .bytes #[0] u]) Q E s :=
  call_meets slot_bytes_find (typeIs_bytes _ _ _) entry_bytes_find (args_bytes_find _ _) (meets_find hz) h
theorem noRefB {b : Array UInt8} : ∀ a, Value.bytes b t = .ref a → ∃ o, s.heap.get? a = some o ∧ o.dict = none := fun _ e => nomatch e
theorem methodFind {M : Model} {pl : Sem Bool} {Q : Value × List Value → Shared → Prop} (h : Q (.builtin "bytes.find", [.bytes b t]) s) : wpAny M A (getMethod (.bytes b t) "find" pl) Q E s := by
  with_reducible exact getMethod_builtin (typeIs_bytes _ _ _) FB.plainAttrs_bytes slot_bytes_find type_bytes_find noRefB h
end
end B0
section N0
open PySem PySem.W PyProof.Rows PySem.Calls
set_option maxRecDepth 100000
set_option maxHeartbeats 4000000
theorem off_N0 : True := by
  w_top off
  trivial
local macro_rules | `(tactic| walk_at "getMethod bytes") => `(tactic| (k_here; (with_reducible refine methodFind ?_)))
local macro_rules | `(tactic| walk_at "call builtin:bytes.find") => `(tactic| (k_here; (with_reducible refine findB (by assumption) ?_); intro tk))

theorem c_new4 {P : Program} {loose : List Str} {mean : ExcName → Option Value} {mg mb : Str → Option Value} {w : World}
    {dp un : Nat} {gd : Option (List Code)} {cn : Str} {cs : Scope} {a : Addr} {ccd : Value} {cl : List (Str × Addr)} {outer : List Env} {A₀ : Around} {base h₀ : Heap} {L : Addr} {m : Str → Option Value} {s : Shared}
    {Q E : Value → Shared → Prop} {news : List (Addr × Obj)} {txt pat : List UInt8} {t1 t2 t3 : Nat} {tick : Value} (B : Below A₀ base outer h₀) (F : Fr h₀ L s.heap m) (X : (Mine.hd.heap_1_3 w.params).In h₀) (N : News h₀ L s.heap news)
    (T : Top P loose mean mg mb h₀) (hk : cs.kind = .function) (hdp : dp + 10 < recursionLimit) (hun : un + 100 < cLine) (hz : zeroIn pat.toArray = none)
    (ret : ∀ (M D : Addr) (κ : MK) (t4 : Nat) h' tk', κ.tick = tick → (∀ p ∈ news, p.1 < D) → D < M → Fr h₀ L h' m → News h₀ L h' (mLed w M D txt pat κ 0 t4 news) → Q (.ref M) { s with heap := h', toks := tk' }) :
    wpAny (model prg w) (ktrTop dp un gd cn cs L a ccd cl outer) (call (.ref 253) [.bytes txt.toArray t1, .bytes pat.toArray t2, .int 60 t3, tick]) Q E s := by
  tb_start
  k_dflt (refine' call_cls ?k1 ?k2 ?k3 ?k4 ?k5 ?k6 ?_; (case k1 => k_asm); (case k2 => k_asm); (case k3 => k_asm); (case k4 => k_is); (case k5 => k_is); (case k6 => k_is); k_whole)
  intro x' d' h' F' N' l1 l2
  have l3 := l1
  have l4 := l2
  (try k_lt l1); (try k_lt2 l2); (try k_sweep)
  k_dflt (refine' code_def ?k1 ?k2 ?k3 ?k4 ?k5 ?kA ?kF ?kK ?k6 ?k7 ?k8 ?k9 ?kB ?_ ?c2 ?c3 ?c4 ?c5; (case kA => exact rfl); (case kF => exact rfl); (case kK => first | exact rfl | assumption); (case k1 => k_asm); (case k2 => k_asm); (case k3 => k_asm); (case k4 => k_asm); (case k5 => k_asm); (case k6 => k_is); (case k7 => k_is); (case k8 => ktr_room); (case k9 => exact binds_K (X.keeps (Fr.keep F')) rfl (by k_is) rfl rfl rfl); (case c5 => decide); (case kB => exact locs rfl); (case c2 => exact rfl); (case c3 => exact rfl); (case c4 => exact rfl); k_whole); intro g' L' h' FG' F' N' B' X' T'; (try dsimp only); (try k_fold)
  k_steps
  first
    | exact ret _ _ ⟨_, _, _, _, _, _, _, _, _, _, _, _, _, _, _, _⟩ _ _ _ rfl l3 l4 (by assumption) (by assumption)
    | exact ret x' d' ⟨_, _, _, _, _, _, _, _, _, _, _, _, _, _, _, _⟩ _ _ _ rfl l3 l4 (by assumption) (by ktr_rel)


theorem c_new2 {P : Program} {loose : List Str} {mean : ExcName → Option Value} {mg mb : Str → Option Value} {w : World}
    {dp un : Nat} {gd : Option (List Code)} {cn : Str} {cs : Scope} {a : Addr} {ccd : Value} {cl : List (Str × Addr)} {outer : List Env} {A₀ : Around} {base h₀ : Heap} {L : Addr} {m : Str → Option Value} {s : Shared}
    {Q E : Value → Shared → Prop} {news : List (Addr × Obj)} {txt pat : List UInt8} {t1 t2 : Nat} (B : Below A₀ base outer h₀) (F : Fr h₀ L s.heap m) (X : (Mine.hd.heap_1_3 w.params).In h₀) (N : News h₀ L s.heap news)
    (T : Top P loose mean mg mb h₀) (hk : cs.kind = .function) (hdp : dp + 10 < recursionLimit) (hun : un + 100 < cLine) (hz : zeroIn pat.toArray = none)
    (ret : ∀ (M D : Addr) (κ : MK) (t4 : Nat) h' tk', κ.tick = .none → (∀ p ∈ news, p.1 < D) → D < M → Fr h₀ L h' m → News h₀ L h' (mLed w M D txt pat κ 0 t4 news) → Q (.ref M) { s with heap := h', toks := tk' }) :
    wpAny (model prg w) (ktrTop dp un gd cn cs L a ccd cl outer) (call (.ref 253) [.bytes txt.toArray t1, .bytes pat.toArray t2]) Q E s := by
  tb_start
  k_dflt (refine' call_cls ?k1 ?k2 ?k3 ?k4 ?k5 ?k6 ?_; (case k1 => k_asm); (case k2 => k_asm); (case k3 => k_asm); (case k4 => k_is); (case k5 => k_is); (case k6 => k_is); k_whole)
  intro x' d' h' F' N' l1 l2
  have l3 := l1
  have l4 := l2
  (try k_lt l1); (try k_lt2 l2); (try k_sweep)
  k_dflt (refine' code_def ?k1 ?k2 ?k3 ?k4 ?k5 ?kA ?kF ?kK ?k6 ?k7 ?k8 ?k9 ?kB ?_ ?c2 ?c3 ?c4 ?c5; (case kA => exact rfl); (case kF => exact rfl); (case kK => first | exact rfl | assumption); (case k1 => k_asm); (case k2 => k_asm); (case k3 => k_asm); (case k4 => k_asm); (case k5 => k_asm); (case k6 => k_is); (case k7 => k_is); (case k8 => ktr_room); (case k9 => exact binds_K (X.keeps (Fr.keep F')) rfl (by k_is) rfl rfl rfl); (case c5 => decide); (case kB => exact locs rfl); (case c2 => exact rfl); (case c3 => exact rfl); (case c4 => exact rfl); k_whole); intro g' L' h' FG' F' N' B' X' T'; (try dsimp only); (try k_fold)
  k_steps
  first
    | exact ret _ _ ⟨_, _, _, _, _, _, _, _, _, _, _, _, _, _, _, _⟩ _ _ _ rfl l3 l4 (by assumption) (by assumption)
    | exact ret x' d' ⟨_, _, _, _, _, _, _, _, _, _, _, _, _, _, _, _⟩ _ _ _ rfl l3 l4 (by assumption) (by ktr_rel)

end N0
section K00
open PySem PySem.W PyProof.Rows PySem.Calls Builtin Builtin.ObjectAttr
set_option maxRecDepth 100000
set_option maxHeartbeats 4000000

section
variable {prog : Program} {w : World} {A : Around} {E : Value → Shared → Prop} {s : Shared} {K : Frag} {x C : Addr} {ox : Obj} {od : Option Obj} {name : Str} {expr : Bool} {Q : Value → Shared → Prop}
theorem getE {v : Value} (X : K.In s.heap) (I : InstAt s.heap x ox C od) (hga : findIn K (.ref C) "__getattribute__" = some (some (.builtin "BaseException.__getattribute__"))) (hook : findIn K (.ref C) "__getattr__" = some none)
    (hi : subIn K (.ref C) (.type "BaseException") = some true) (hf : findObj K C od name = some (.value v)) (hh : handedIn v = true) (hs : Slot "Exception" "__getattribute__" "BaseException.__getattribute__") (h : Q v { s with toks := s.toks + 1 }) :
    wpAny (model prog w) A (getAttr (.ref x) name expr) Q E s := by
  have ht := I.type (M := model prog w)
  refine wpAny_bind (wpAny_mkText (wpAny_holding (wpAny_bind (ht _ _ _ _ (fun _ _ e => e) (wpAny_bind (looks_findIn X hga _ _ _ _ (fun _ _ e => e) ?_))))))
  dsimp only
  rw [show (onTheHeap (Value.ref C) && Value.builtin "BaseException.__getattribute__" == Value.builtin "object.__getattribute__") = false from by rw [show (Value.builtin "BaseException.__getattribute__" == Value.builtin "object.__getattribute__") = false from by decide +kernel, Bool.and_false], if_neg (by decide)]
  refine wpAny_bind ((looks_hook (K := K) (M := model prog w) X (mc := .ref C) (r := none) (by rw [show onTheHeap (Value.ref C) = true from rfl, if_pos rfl]; exact hook)) _ _ _ _ (fun _ _ e => e) (wpAny_bind (wpAny_attempt (wpAny_holding ?_))))
  unfold callGetattribute
  rw [show (expr && onTheHeap (Value.builtin "BaseException.__getattribute__")) = false from Bool.and_false _, if_neg (by decide)]
  unfold boundAndCalled
  rw [hs.bind]
  refine wpAny_bind (wpAny_pure ?_)
  show wpAny _ _ (call (.builtin "BaseException.__getattribute__") [.ref x, .str name s.toks]) _ _ _
  refine wpAny_call ?_
  refine codeAny_call_builtin hs.plain PySem.F.entry_bexc_ga ?_
  refine @check_slot (model prog w) _ _ { s with toks := s.toks + 1 } "BaseException.__getattribute__" "BaseException" "__getattribute__" (.ref x) [.str name s.toks] [] _ (by decide +kernel) (by decide +kernel) (ht.andThen (looks_subIn X hi)) (PySem.F.args_bexc_ga (.ref x) (.str name s.toks)) ?_
  unfold Builtin.«object.__getattribute__»
  refine wpAny_bind (wpAny_pure (a := (Value.ref x, [Value.str name s.toks])) ?_)
  refine wpAny_bind (wpAny_pure (a := name) ?_)
  refine wpAny_bind (ht _ _ _ _ (fun _ _ e => e) (wpAny_bind ((looks_find X I hf) _ _ _ _ (fun _ _ e => e) ?_)))
  refine wpAny_pure ?_
  show wpAny _ _ (handedOut v) _ _ _
  rw [handedOut_of hh]
  exact wpAny_pure h
end
end K00
section K0
open PySem PySem.W PyProof.Rows PySem.Calls
set_option maxRecDepth 100000
set_option maxHeartbeats 4000000

/-- e is caught here -/
theorem caughtD {prog : Program} {w : World} {E : Value → Shared → Prop} {s' : Shared} {h₀ g h₂ : Heap} {outer : List Env} {L L₁ a e dx : Addr} {m m₁ : Str → Option Value} {name : Str} {scope : Scope} {cd : Value} {cl : List (Str × Addr)}
    {n x : Str} {b₀ : Stmt} {suite : List Stmt} {pos np : Pos} {Q : Flow → Shared → Prop} {news : List (Addr × Obj)} {P : Program} {loose : List Str} {mean : ExcName → Option Value} {mg mb : Str → Option Value} {dp un : Nat} {gd : Option (List Code)}
    (FG : Fr h₀ L₁ g m₁) (F : Fr g L h₂ m) (hsm : h₂.UpToSlots s'.heap) (R : RaisedD w h₀ (envX name scope L a cd cl :: outer) e dx news s'.heap)
    (X : (Mine.hd.heap_1_3 w.params).In h₀) (T : Top P loose mean mg mb h₀) (ex : nsIn (Mine.hd.heap_1_3 w.params) mainGlobals x = some (some (.ref 31)))
    (hC : ∃ nm q N bs hdct sn sub ab col dd k0 k1 k2 k3 k5 newId, h₀.get? 31 = some (excClassObj nm q 31 N bs [.type "Exception", .type "BaseException", .type "object"] hdct sn sub ab col dd k0 k1 k2 k3 k5 newId))
    (hk : scope.kind = .function) (hlo : (envX name scope L a cd cl).kindOf n = some .local) (hx : (envX name scope L a cd cl).kindOf x = some .globalImplicit) (hd : (x == ("__debug__" : Str)) = false)
    (k : ∀ h' tk oL oe vs k1 k2 k3 t1 tr, Fr h₀ L h' (fun y => if y = n then some (.ref e) else m y) →
      News h₀ L h' ((L₁, oL) :: (e, oe) :: (dx, dictOf (enoughEs w k1 k2 k3 t1 tr) 3) :: news) → (∃ es ep, oL.data = .dict es ep ∧ StrKeys es ∧ ∀ y, nsFind es y = m₁ y) → oe.cls = .ref 31 → oe.dict = some dx → oe.data = .fields vs →
      wpAny (model prog w) ((ktrTop dp un gd name scope L a cd cl outer).mark (some (.ref e))) (execs (b₀ :: suite) (envX name scope L a cd cl))
        (fun f s₄ => wpAny (model prog w) (ktrTop dp un gd name scope L a cd cl outer) (do bindName (envX name scope L a cd cl) n .none; unbindBehindTheSuite (envX name scope L a cd cl) n pos) (fun _ s₅ => Q f s₅) E s₄)
        (AsSuiteRaised (model prog w) ((ktrTop dp un gd name scope L a cd cl outer).mark (some (.ref e))) (envX name scope L a cd cl) n pos (notedBy (model prog w) ((ktrTop dp un gd name scope L a cd cl outer).mark (some (.ref e))) (envX name scope L a cd cl) (cameBackBy (model prog w) (ktrTop dp un gd name scope L a cd cl outer) (envX name scope L a cd cl) E)))
        { s' with heap := h', toks := tk }) :
    wpAny (model prog w) (ktrTop dp un gd name scope L a cd cl outer) (noteFrame (.ref e) (envX name scope L a cd cl))
      (fun _ s₂ => wpAny (model prog w) (ktrTop dp un gd name scope L a cd cl outer) (setFlight (.ref e) none) (fun _ s₃ =>
        wpAny (model prog w) (ktrTop dp un gd name scope L a cd cl outer) (handleBy (.ref e) (envX name scope L a cd cl) [.ExceptHandler (some (.Name x np)) (some n) (b₀ :: suite) pos]) Q E s₃) E s₂) E s' := by
  obtain ⟨B, hB, hl, ⟨k1, k2, k3, t1, tr, hdx⟩, hbd, hfl⟩ := R
  have hL : B.get? L = none := by
    obtain ⟨_, ⟨L', _, hf, hn', _⟩, _⟩ := hfl.2.2.1
    obtain rfl : L = L' := Option.some.inj hf
    exact hn'
  have hlt : L₁ < g.objs.size := FG.ns.lt
  have hL1 : L₁ ≠ L := Nat.ne_of_lt (Nat.lt_of_lt_of_le hlt F.above)
  have h1n : h₀.get? L₁ = none := by
    cases q : h₀.get? L₁ with
    | none => rfl
    | some o => exact absurd (Nat.lt_of_lt_of_le (Heap.lt_size q) FG.above) (Nat.lt_irrefl _)
  have F₀ : Fr h₀ L h₂ m := ⟨F.ns, fun b o q => F.keep b o (FG.keep b o q), Nat.le_trans (Nat.le_trans FG.above (Nat.le_of_lt hlt)) F.above⟩
  refine noteNextD rfl rfl hfl fun h₄ hfl₄ sm₄ => ?_
  refine flightNoneD hfl₄ fun h₅ hfl₅ sm₅ => ?_
  have F₅ : Fr h₀ L h₅ m := F₀.of_stays (fun b o q => hfl₅.1 b o (hB b o q)) (hsm.trans (sm₄.trans sm₅))
  obtain ⟨oe, vs, Tb, oT, ts, he, ho, hd1, _⟩ := id hfl₅.2.2.2
  obtain ⟨nm, q, N, bs, hdct, sn, sub, ab, col, dd, c0, c1, c2, c3, c5, newId, hC⟩ := hC
  refine wpAny_handleBy_cons (codeAny_handlers_test (nameX_K F₅ X (topRead_of T) ex ?_ hk hx hd)) (by intro q; cases q)
  refine wpAny_excMatches_sub_self (F₅.keep _ _ hC) he ho.1 (by decide +kernel) (codeAny_handlers_suite_as ?_)
  refine flightNoneD hfl₅ fun h₆ hfl₆ sm₆ => ?_
  have smA := hsm.trans (sm₄.trans (sm₅.trans sm₆))
  have F₆ : Fr h₀ L h₆ m := F₀.of_stays (fun b o q => hfl₆.1 b o (hB b o q)) smA
  obtain ⟨oe, vs, Tb, oT, ts, he, ho, hd1, _⟩ := id hfl₆.2.2.2
  obtain ⟨oL0, es, ep, hoL, hoLd, hoLk, hoLf⟩ := FG.ns
  obtain ⟨sl, hoL6⟩ := smA _ _ (F.keep _ _ hoL) (fun vs q => by rw [hoLd] at q; cases q)
  have neL : ∀ b o, B.get? b = some o → b ≠ L := fun b o q z => by rw [z, hL] at q; cases q
  obtain ⟨oLc, esc, epc, hLc, hLcd, _⟩ := F₆.ns
  have N₆ : News h₀ L h₆ ((L₁, { oL0 with slots := sl }) :: (e, oe) :: (dx, dictOf (enoughEs w k1 k2 k3 t1 tr) 3) :: news) := fun p hp => by
    rcases List.mem_cons.mp hp with rfl | hp
    · exact ⟨hoL6, hL1, h1n⟩
    · rcases List.mem_cons.mp hp with rfl | hp
      · refine ⟨he, fun z => ?_, fresh_of_stays hB hfl₆.2.1⟩
        dsimp only at z
        rw [z, hLc] at he
        cases he
        rw [hLcd] at hd1; cases hd1
      · rcases List.mem_cons.mp hp with rfl | hp
        · exact ⟨hfl₆.1 _ _ hdx, neL _ _ hdx, hbd⟩
        · exact ⟨hfl₆.1 _ _ (hl p hp).1, neL _ _ (hl p hp).1, (hl p hp).2⟩
  refine storeX_L F₆ N₆ (fun h₇ F₇ N₇ => ?_) hk hlo
  exact k h₇ _ _ oe vs k1 k2 k3 t1 tr F₇ N₇ ⟨es, ep, hoLd, hoLk, hoLf⟩ ho.1 ho.2 hd1
end K0
section K01
open PySem PySem.W PyProof.Rows PySem.Calls
set_option maxRecDepth 100000
set_option maxHeartbeats 4000000

/-- entering a function that has cells; its end may be reached behind a catch -/
theorem code_defT {prog : Program} {w : World} {A₀ A : Around} {s : Shared} {base h₀ : Heap} {outer : List Env} {L : Addr} {m mg mb : Str → Option Value} {env : Env} {news : List (Addr × Obj)} {K : Frag} {P : Program} {loose : List Str} {mean : ExcName → Option Value}
    {R : Result → Shared → Prop} {name qual : Str} {params : Arguments} {body : List Stmt} {scope : Scope} {dV kV doc pm cdv ct oc : Value} {an od : Option Addr} {osl : Array (Option Value)} {f : Addr} {args : Args} {binds : List (Str × Value)}
    (B : Below A₀ base outer h₀) (F : Fr h₀ L s.heap m) (X₀ : K.In h₀) (N : News h₀ L s.heap news) (T : Top P loose mean mg mb h₀) (hA : A.frames = some (env :: outer)) (hf : env.frame = some L) (hke : env.scope.kind = .function)
    (ho : K.lookup f = some ⟨oc, od, .func (fnOf name qual params body scope dV kV doc pm an cdv ct), osl⟩) (hcd : codeIn K cdv qual = true) (hroom : A.depth < recursionLimit)
    (hbind : BindsTo s (fnOf name qual params body scope dV kV doc pm an cdv ct) args binds) (hkind : (binds.all fun y => scope.names.lookup y.1 == some .local || scope.names.lookup y.1 == some .cell) = true)
    (hnd : ((cellsFrom 0 scope.names []).map (·.1)).Nodup)
    (h : ∀ g L' h₁ tk cells, Fr h₀ L g m → Fr g L' h₁ (bindL (envOfC qual scope L' f cdv).kindOf binds fun _ => none) → News g L' h₁ (cells ++ news) →
      CellsAre (bindC (envOfC qual scope L' f cdv).kindOf binds fun _ => none) (cellsFrom (L' + 1) scope.names []) cells → Below A base (env :: outer) g → K.In g → Top P loose mean mg mb g → (∀ p ∈ news, p.1 < L') →
      (∀ v s', LeaveK h₀ L m g R v s' → R (.ok (.ret v)) s') →
      wpAny (model prog w) (A.deeper (envOfC qual scope L' f cdv)) (execs body (envOfC qual scope L' f cdv))
        (fun fl s' => R (.ok (.ret (match fl with | .ret v => v | _ => .none))) s')
        (fun e s' => wpAny (model prog w) (A.deeper (envOfC qual scope L' f cdv)) (leaving (envOfC qual scope L' f cdv) e) (fun _ s'' => R (.error e) s'') (fun e' s'' => R (.error e') s'') s')
        { s with heap := h₁, toks := tk })
    (hco : scope.isCoroutine = false) (hgen : scope.isGenerator = false) (hk : scope.kind = .function) : codeAny (model prog w) A (.call (.ref f) args) R s := by
  obtain ⟨FG, BG, st, lv⟩ := groundX (R := R) B F N hA hf hke
  refine codeAny_call_function hroom ((X₀.keeps F.keep) _ _ ho) rfl hco hgen rfl (codeRec_of (X₀.keeps F.keep) hcd) (hbind _ _ _ _ ?_)
  refine wpAny_newFunctionEnv_cells hk (kindsX hkind _) fun env' he s' x => ?_
  subst he
  refine ⟨(T.nolimit.keeps F.keep).keeps x.toInCall.keep, codeAny_func ?_⟩
  obtain ⟨h₁, tk, rfl, _⟩ := x.done
  have hk₁ := x.toInCall.keep
  obtain ⟨cells, NC, Y⟩ := Cl.news (h₀ := s.heap) (Nat.le_refl _) fun n c hm => ⟨x.cell n c (lookup_of_mem_nodup (cellsFrom_names scope.names 0 (s.heap.objs.size + 1) [] [] rfl ▸ hnd) hm), x.above n c hm⟩
  refine wpAny_mono (h _ s.heap.objs.size h₁ tk cells FG ⟨x.toInCall.ns, fun b o e => hk₁ b o (of_hideAll _ e), Nat.le_of_eq (hideAll_size _ _)⟩ (fun p hp => ?_) Y BG (X₀.keeps st) (T.keeps st) (fun p hp => Heap.lt_size (N p hp).1) lv) (fun fl s' hl => hl) fun _ _ y => y
  rcases List.mem_append.mp hp with hp | hp
  · refine ⟨(NC p hp).1, (NC p hp).2.1, ?_⟩
    cases q : (hideAll s.heap (news.map (·.1))).get? p.1 with
    | none => rfl
    | some o => have := of_hideAll _ q; rw [(NC p hp).2.2] at this; cases this
  · exact ⟨hk₁ _ _ (N p hp).1, Nat.ne_of_lt (Heap.lt_size (N p hp).1), hideAll_none _ (List.mem_map_of_mem hp)⟩
end K01
section K02
open PySem PySem.W PyProof.Rows PySem.Calls
set_option maxRecDepth 100000
set_option maxHeartbeats 4000000
theorem off_K02 : True := by
  w_top off
  trivial

theorem c_value {prog : Program} {w : World} {A : Around} {E : Value → Shared → Prop} {s : Shared} {h₀ : Heap} {L : Addr} {m : Str → Option Value} {news : List (Addr × Obj)} {e dx : Addr} {oe : Obj} {vs : Array Value} {k1 k2 k3 t1 : Nat} {tr : Value} {expr : Bool} {Q : Value → Shared → Prop}
    (F : Fr h₀ L s.heap m) (X : (Mine.hd.heap_1_3 w.params).In h₀) (N : News h₀ L s.heap news) (he : (e, oe) ∈ news) (hdx : (dx, dictOf (enoughEs w k1 k2 k3 t1 tr) 3) ∈ news) (hc : oe.cls = .ref 31) (hdd : oe.dict = some dx) (hdata : oe.data = .fields vs)
    (h : Q (.bytes #[101, 110, 111, 117, 103, 104] t1) { s with toks := s.toks + 1 }) :
    wpAny (model prog w) A (getAttr (.ref e) (Str.ofString "value") expr) Q E s := by
  obtain ⟨oc, od, dt, sl⟩ := oe
  dsimp only at hc hdd hdata
  subst hc hdd hdata
  have I : InstAt s.heap e ⟨.ref 31, some dx, .fields vs, sl⟩ 31 (some (dictOf (enoughEs w k1 k2 k3 t1 tr) 3)) := ⟨(N _ he).1, rfl, rfl, (N _ hdx).1⟩
  tb_start
  k_dflt (refine' getE (X.keeps F.keep) I ?hga ?hook ?hi (findObj_own ?fa ?fb ?fc ?fd) rfl PySem.F.attrBase_Exception.ga h; (case hga => k_is); (case hook => k_is); (case hi => k_is); (case fa => k_is); (case fb => k_is); (case fc => k_is); (case fd => exact rfl))
end K02
end GC
section K1
open PySem PySem.W PyProof.Rows PySem.Calls
set_option maxRecDepth 100000
set_option maxHeartbeats 40000000
theorem off_K1 : True := by
  w_top off
  trivial
theorem six {f c l a b q : Nat} {x1 x2 x3 x4 x5 x6 : Obj} {rest : List (Addr × Obj)} {D : Nat} (h : ∀ p ∈ ((f, x1) : Addr × Obj) :: (c, x2) :: (l, x3) :: (a, x4) :: (b, x5) :: (q, x6) :: rest, p.1 < D) :
    f < D ∧ c < D ∧ l < D ∧ a < D ∧ b < D ∧ q < D ∧ ∀ p ∈ rest, p.1 < D :=
  ⟨h (f, x1) (.head _), h (c, x2) (.tail _ (.head _)), h (l, x3) (.tail _ (.tail _ (.head _))), h (a, x4) (.tail _ (.tail _ (.tail _ (.head _)))), h (b, x5) (.tail _ (.tail _ (.tail _ (.tail _ (.head _))))), h (q, x6) (.tail _ (.tail _ (.tail _ (.tail _ (.tail _ (.head _)))))), fun p hp => h p (.tail _ (.tail _ (.tail _ (.tail _ (.tail _ (.tail _ hp))))))⟩
theorem lt_of_allLt {d : Addr} {l : List (Addr × Obj)} (h : AllLt d l) : ∀ p ∈ l, p.1 < d := by
  induction l with
  | nil => exact fun p hp => absurd hp List.not_mem_nil
  | cons x r ih =>
    intro p hp
    cases hp with
    | head => exact h.1
    | tail _ q => exact ih h.2 p q
theorem all_ne_tail {x : Addr × Obj} {l : List (Addr × Obj)} {d e : Nat} (h : ∀ p ∈ x :: l, p.1 < d) (he : d ≤ e) : ∀ p ∈ l, p.1 ≠ e :=
  all_ne (fun p hp => h p (List.mem_cons_of_mem _ hp)) he
local macro_rules | `(tactic| krn_off) => `(tactic| ((refine' code_defT ?k1 ?k2 ?k3 ?k4 ?k5 ?kA ?kF ?kK ?k6 ?k7 ?k8 ?k9 ?kB ?kD ?_ ?c2 ?c3 ?c4; (case kA | kF => exact rfl); (case kK => first | exact rfl | assumption); (case k1 | k2 | k3 | k4 | k5 => k_asm); (case k6 | k7 => k_is); (case k8 => ktr_room); (case k9 => exact BindsTo.of_eq rfl); (case kB => exact rfl); (case kD => decide +kernel); (case c2 | c3 | c4 => exact rfl); k_whole; intro g' L' h' tk' cells' FG' F' N' Y' B' X' T' l1 lv'; (have l0 := l1); (try k_lt l1); k_cells Y'; (try simp only [List.cons_append, List.nil_append] at N'); (try dsimp only); (try k_fold))))
local macro_rules | `(tactic| walk_at "call builtin:len") => `(tactic| (k_here; (with_reducible show wpAny _ _ (call (Value.builtin "len") [Value.ref _]) _ _ _); k_dflt (refine' lenL ?la ?lb ?lc ?ld ?le; (case la => k_asm); (case lb => k_mem); (case lc => assumption); (case ld => omega)); intro tk9; (try dsimp only); (try k_fold)))
local macro_rules | `(tactic| k_all) => `(tactic| (first | exact all_ne_tail (by assumption) (by omega)))

theorem goesX {M : Model} {A : Around} {E : Value → Shared → Prop} {s : Shared} {cn : Str} {cs : Scope} {L a : Addr} {ccd : Value} {cl : List (Str × Addr)} {h₀ : Heap} {m : Str → Option Value} {news : List (Addr × Obj)} {n : Str} {pos : Pos} {Q : Unit → Shared → Prop} (F : Fr h₀ L s.heap m) (N : News h₀ L s.heap news)
    (hk : cs.kind = .function) (hl : (envX cn cs L a ccd cl).kindOf n = some .local) (h : ∀ h' m', Fr h₀ L h' m' → News h₀ L h' news → Q () { s with heap := h', toks := s.toks + 1 }) :
    wpAny M A (do bindName (envX cn cs L a ccd cl) n .none; unbindBehindTheSuite (envX cn cs L a ccd cl) n pos) Q E s :=
  wpAny_nameGoes_keeps hl F.ns (by show (cs.kind == .class || (cs.kind == .module && L != mainGlobals)) = false; rw [hk]; rfl) fun h' v hn hs => h h' _ (F.set hn hs) (N.set hs)
theorem backD {h₀ g h' : Heap} {L L₁ : Addr} {m₁ m₂ : Str → Option Value} {oL : Obj} {rest led : List (Addr × Obj)} (FG : Fr h₀ L₁ g m₁) (F : Fr h₀ L h' m₂) (N : News h₀ L h' led) (hm : (L₁, oL) ∈ led)
    (hoL : ∃ es ep, oL.data = .dict es ep ∧ StrKeys es ∧ ∀ y, nsFind es y = m₁ y) (hin : ∀ p ∈ rest, p ∈ led ∧ p.1 ≠ L₁) : Fr h₀ L₁ h' m₁ ∧ News h₀ L₁ h' rest := by
  obtain ⟨es, ep, a, b, c⟩ := hoL
  exact ⟨⟨⟨oL, es, ep, (N _ hm).1, a, b, c⟩, F.keep, FG.above⟩, fun p hp => ⟨(N _ (hin p hp).1).1, (hin p hp).2, (N _ (hin p hp).1).2.2⟩⟩
theorem midT {α : Type} {a b f c l x y t : α} {r : List α} : ∀ q ∈ a :: b :: c :: t :: r, q ∈ a :: b :: f :: c :: l :: x :: y :: t :: r := fun q hq => by
  simp only [List.mem_cons] at hq ⊢
  rcases hq with h | h | h | h | h <;> simp only [h, true_or, or_true]
theorem midN {α : Type} {a f c l x y t : α} {r : List α} : ∀ q ∈ a :: c :: t :: r, q ∈ a :: f :: c :: l :: x :: y :: t :: r := fun q hq => by
  simp only [List.mem_cons] at hq ⊢
  rcases hq with h | h | h | h <;> simp only [h, true_or, or_true]
theorem midR {α : Type} {a b d e f c l x y t : α} {r : List α} : ∀ q ∈ a :: c :: t :: r, q ∈ a :: b :: d :: e :: f :: c :: l :: x :: y :: t :: r := fun q hq => by
  simp only [List.mem_cons] at hq ⊢
  rcases hq with h | h | h | h <;> simp only [h, true_or, or_true]
theorem neR2 {h₀ h : Heap} {L D : Addr} {oD : Obj} {led : List (Addr × Obj)} (N : News h₀ L h led) (hD : L < D) : ∀ p ∈ ((D, oD) : Addr × Obj) :: led, p.1 ≠ L := fun p hp => by
  rcases List.mem_cons.mp hp with rfl | hp
  · exact Nat.ne_of_gt hD
  · exact (N _ hp).2.1
theorem perm1 {α : Type} {f c l x y t : α} {r : List α} : ∀ q ∈ f :: c :: l :: x :: y :: t :: r, q ∈ f :: l :: x :: y :: c :: t :: r := fun q hq => by
  simp only [List.mem_cons] at hq ⊢
  rcases hq with h | h | h | h | h | h | h <;> simp only [h, true_or, or_true]
theorem perm3 {α : Type} {a b f c l x y t : α} {r : List α} : ∀ q ∈ a :: b :: f :: c :: l :: x :: y :: t :: r, q ∈ a :: b :: f :: l :: x :: y :: c :: t :: r := fun q hq => by
  simp only [List.mem_cons] at hq ⊢
  rcases hq with h | h | h | h | h | h | h | h | h <;> simp only [h, true_or, or_true]
theorem neR {h₀ h : Heap} {L c D : Addr} {oc oD ot ot' : Obj} {rest : List (Addr × Obj)} (N : News h₀ L h ((278, ot) :: rest)) (hc : L < c) (hD : L < D) : ∀ p ∈ ((D, oD) : Addr × Obj) :: (c, oc) :: (278, ot') :: rest, p.1 ≠ L := fun p hp => by
  rcases List.mem_cons.mp hp with rfl | hp
  · exact Nat.ne_of_gt hD
  · rcases List.mem_cons.mp hp with rfl | hp
    · exact Nat.ne_of_gt hc
    · rcases List.mem_cons.mp hp with rfl | hp
      · exact (N _ List.mem_cons_self).2.1
      · exact (N _ (List.mem_cons_of_mem _ hp)).2.1

theorem exc31 {w : World} {h₀ : Heap} (X : (Mine.hd.heap_1_3 w.params).In h₀) : ∃ nm q N bs hdct sn sub ab col dd k0 k1 k2 k3 k5 newId, h₀.get? 31 = some (excClassObj nm q 31 N bs [.type "Exception", .type "BaseException", .type "object"] hdct sn sub ab col dd k0 k1 k2 k3 k5 newId) := by
  have fin : ∀ {nm q : Str} {N : Addr} {bs : List Value} {hdct : Bool} {sn : List Str} {sub : List Value} {ab : Bool} {col : Option Bool} {dd : Option Addr} {k0 k1 k2 k3 k5 : Option Value} {newId : String},
      h₀.get? 31 = some (excClassObj nm q 31 N bs [.type "Exception", .type "BaseException", .type "object"] hdct sn sub ab col dd k0 k1 k2 k3 k5 newId) → ∃ nm q N bs hdct sn sub ab col dd k0 k1 k2 k3 k5 newId, h₀.get? 31 = some (excClassObj nm q 31 N bs [.type "Exception", .type "BaseException", .type "object"] hdct sn sub ab col dd k0 k1 k2 k3 k5 newId) := by
    intro nm q N bs hdct sn sub ab col dd k0 k1 k2 k3 k5 newId hC
    exact ⟨_, _, _, _, _, _, _, _, _, _, _, _, _, _, _, _, hC⟩
  tb_start
  k_dflt (refine' fin (X _ _ ?hl); (case hl => k_is))


theorem c_counted {P : Program} {loose : List Str} {mean : ExcName → Option Value} {mg mb : Str → Option Value} {w : World}
    {dp un : Nat} {gd : Option (List Code)} {cn : Str} {cs : Scope} {a : Addr} {ccd : Value} {cl : List (Str × Addr)} {outer : List Env} {A₀ : Around} {h₀ : Heap} {L : Addr} {m : Str → Option Value} {s : Shared}
    {Q E : Value → Shared → Prop} {rest : List (Addr × Obj)} {txt pat : List UInt8} {lf ta tb tl : Nat} (B : Below A₀ h₀ outer h₀) (F : Fr h₀ L s.heap m) (X : (Mine.hd.heap_1_3 w.params).In h₀) (N : News h₀ L s.heap ((278, tabObj #[]) :: rest)) (hcd : CodeHd h₀ 282 278) (h278 : ∀ p ∈ rest, p.1 ≠ 278)
    (T : Top P loose mean mg mb h₀) (hk : cs.kind = .function) (hdp : dp + 300 < 990) (hun : un + 2000 < 9900) (hz : zeroIn pat.toArray = none) (hlf : lf ≤ 1000000) (hpl : pat.length ≤ 20) (htl : txt.length ≤ 100) {r : Option (Int × Int)} {k : Nat} (hS : S 1 txt pat 0 r k)
    (retT : k ≤ lf → ∀ x, r = some x → ∀ v t c oc vs tq ta tb tk h' tk', oc.data = .fields vs → vs[1]? = some (.str (Str.ofString "_law_counted.<locals>.count") tq) → Fr h₀ L h' m → News h₀ L h' ((v, tupO [.ref t, .int (k : Int) tk, .bool false]) :: (t, tupO [.int x.1 ta, .int x.2 tb]) :: (c, oc) :: (278, tabObj (#[] ++ #[rawInt 342, rawInt 4, .ref c])) :: rest) → Q (.ref v) { s with heap := h', toks := tk' })
    (retN : k ≤ lf → r = none → ∀ v c oc vs tq tk h' tk', oc.data = .fields vs → vs[1]? = some (.str (Str.ofString "_law_counted.<locals>.count") tq) → Fr h₀ L h' m → News h₀ L h' ((v, tupO [.none, .int (k : Int) tk, .bool false]) :: (c, oc) :: (278, tabObj (#[] ++ #[rawInt 342, rawInt 4, .ref c])) :: rest) → Q (.ref v) { s with heap := h', toks := tk' })
    (rai : lf < k → ∀ v c oc vs tq tk h' tk', oc.data = .fields vs → vs[1]? = some (.str (Str.ofString "_law_counted.<locals>.count") tq) → Fr h₀ L h' m → News h₀ L h' ((v, tupO [.none, .int ((lf + 1 : Nat) : Int) tk, .bool true]) :: (c, oc) :: (278, tabObj (#[] ++ #[rawInt 342, rawInt 4, .ref c])) :: rest) → Q (.ref v) { s with heap := h', toks := tk' }) :
    wpAny (model prg w) (ktrTop dp un gd cn cs L a ccd cl outer) (call (.ref 283) [.bytes txt.toArray ta, .bytes pat.toArray tb, .int (lf : Int) tl]) Q E s := by
  tb_start
  refine wpAny_call ?_
  k_dflt krn_off
  k_steps
  refine wpAny_Try_except ?_
  (try dsimp only); (try k_fold)
  k_steps
  rename_i g' L' h4 tk1 FG B' X' T' lv l0 l1a o1 o2 d1a d2a l' h3 l1b h2 o0 d0 tk0 f c oc vs t ct dc h1 tk2 d1 d2 l1c l2 h' F' N'
  k_dflt (refine' c_new4 ?k1 ?k2 ?k3 ?k4 ?k5 ?kK ?kd ?ku hz ?_; (case k1 => k_asm); (case k2 => k_asm); (case k3 => k_asm); (case k4 => k_asm); (case k5 => k_asm); (case kK => first | exact rfl | assumption); (case kd => ktr_room); (case ku => ktr_units))
  intro M D κ t4 h9 tk9 hκ hlt hDM F9 N9
  have FLL := F'.above
  have d3 : vs[1]? = some (.str (Str.ofString "_law_counted.<locals>.count") t) := d2.trans (by kernel_rfl)
  obtain ⟨q1, q2, q3, q4, q5, q6, q7, q8, q9, qa, qb, qc, kt, kst, kle, klv⟩ := κ
  dsimp only at hκ
  subst hκ
  dsimp only [mLed, mEs] at N9
  (try dsimp only); (try k_fold)
  k_steps
  have ho1 : o0.data = .cell (some (.ref l')) := d0
  have ho2 : o2.data = .cell (some (.int (lf : Int) tl)) := d2a.trans (by kernel_rfl)
  obtain ⟨e1, e2, e3, e4, e5, e6, e7⟩ := six hlt
  have a7 : ∀ p ∈ rest, p.1 < l' := lt_of_allLt l1b.2.2.2
  have HC := @count_tick w P loose mean mg mb M D txt pat lf tl t f c l' (L' + 1 + 1) (L' + 1) (_) dc ((mg (Str.ofString "__name__")).getD Value.none) ct oc o0 o2 vs ((278, tabObj (#[] ++ #[rawInt 342, rawInt 4, .ref c])) :: rest) h₀
    hcd hlf d1 d2 ho1 ho2 (Nat.ne_of_gt (Nat.lt_trans e3 hDM)) (Nat.ne_of_gt e3) (Nat.ne_of_gt (Nat.lt_trans l1c.1 l2)) (Nat.ne_of_gt l1c.1) (Nat.ne_of_lt l1b.1) (Nat.ne_of_lt l1b.2.1) (fun p hp => (List.mem_cons.mp hp).elim (fun q => by subst q; exact Nat.ne_of_lt l1b.2.2.1) (fun hp => Nat.ne_of_lt (a7 p hp)))
    ⟨Nat.ne_of_lt e1, Nat.ne_of_lt e2, Nat.ne_of_lt e3, Nat.ne_of_lt e4, Nat.ne_of_lt e5, fun p hp => (List.mem_cons.mp hp).elim (fun q => by subst q; exact Nat.ne_of_lt e6) (fun hp => Nat.ne_of_lt (e7 p hp))⟩
  clear e1 e2 e3 e4 e5 e6 e7 a7
  have hn0 : 0 ≤ lf := Nat.zero_le _
  k_dflt (refine' c_search HC (by omega) htl hpl hS (κ := ⟨q1, q2, q3, q4, q5, q6, q7, q8, q9, qa, qb, qc, _, kst, kle, klv⟩) (d := 0) (t4 := t4) ?k1 ?k2 ?k3 ?k4 ?k5 ?kK ?kd ?ku ?q0 ?hc ?hr ?hm hn0 ?retT ?retN ?rai; (case k1 => k_asm); (case k2 => k_asm); (case k3 => k_asm); (case k4 => exact N9); (case k5 => k_asm); (case kK => first | exact rfl | assumption); (case kd => isplit); (case ku => isplit); (case q0 => rfl); (case hc => exact ⟨[], 0, rfl, rfl⟩); (case hr => exact fun p hp => Nat.ne_of_lt (hlt p hp)); (case hm => exact Nat.ne_of_gt hDM))
  case rai =>
    intro hlt8 e8 dx8 h8 tk8 rest8 g8 hc8 F8 U8 R8
    obtain ⟨vs8, cap8, hvs8, hr8⟩ := hc8
    subst hr8
    (try k_unfold); (try dsimp only)
    k_dflt (refine' caughtD FG F8 U8 R8 X T ?ex (exc31 X) ?hk ?hlo ?hx ?hd ?_; (case ex => k_is); (case hk => exact rfl); (case hlo => exact rfl); (case hx => exact rfl); (case hd => decide))
    intro h7 tk7 oL oe ws7 k71 k72 k73 t71 tr7 F7 N7 oLd ec ed ef
    dsimp only [ctObjs] at N7
    have hLc : L < c := Nat.lt_trans (Nat.lt_of_lt_of_le FG.ns.lt FLL) (Nat.lt_trans (Nat.lt_trans (Nat.lt_succ_self _) l1b.2.1) l1c.1)
    clear F' N' F9 N9 F8 R8 U8 HC hS B' X' T'
    k_steps
    refine' c_value ?la ?lb ?lc ?ld ?le ec ed ef ?lh
    case la => k_asm
    case lb => exact X
    case lc => k_asm
    case ld => k_mem
    case le => k_mem
    (try dsimp only); (try k_fold)
    k_steps
    k_dflt (refine' goesX ?lf ?ln ?hk ?hl ?_; (case lf => k_asm); (case ln => k_asm); (case hk => exact rfl); (case hl => exact rfl))
    intro hz mz Fz Nz
    rename_i lz
    obtain ⟨Fe, Ne⟩ := backD FG Fz Nz (List.mem_cons_of_mem _ List.mem_cons_self) oLd (fun p hp => ⟨midR p hp, neR N hLc lz.1 p hp⟩)
    exact rai (by omega) _ _ _ _ _ _ _ _ d1 d3 Fe Ne
  case retN =>
    intro hle hx h8 tk8 rest8 hc8 F8 N8
    obtain ⟨vs8, cap8, hvs8, hr8⟩ := hc8
    subst hr8
    dsimp only [ctObjs] at N8
    simp only [Nat.zero_add] at hvs8
    (try k_unfold); (try dsimp only); (try k_fold)
    k_steps
    refine' lenL ?laB ?lbB ?lcB ?ldB ?leB
    case laB => k_asm
    case lbB => k_mem
    case lcB => assumption
    case ldB => omega
    intro tk9; (try dsimp only); (try k_fold)
    k_steps
    refine lv _ _ ?_
    k_steps
    exact retN (by omega) hx _ _ _ _ _ _ _ _ d1 d3 (by k_asm) (cb_drop (by assumption) midN)
  case retT =>
    intro hle x hx t9 ta tb h8 tk8 rest8 hc8 F8 N8
    obtain ⟨vs8, cap8, hvs8, hr8⟩ := hc8
    subst hr8
    dsimp only [ctObjs] at N8
    simp only [Nat.zero_add] at hvs8
    (try k_unfold); (try dsimp only); (try k_fold)
    k_steps
    refine' lenL ?laA ?lbA ?lcA ?ldA ?leA
    case laA => k_asm
    case lbA => k_mem
    case lcA => assumption
    case ldA => omega
    intro tk9; (try dsimp only); (try k_fold)
    k_steps
    refine lv _ _ ?_
    k_steps
    exact retT (by omega) x hx _ _ _ _ _ _ _ _ _ _ _ d1 d3 (by k_asm) (cb_drop (by assumption) midT)


theorem c_counted2 {P : Program} {loose : List Str} {mean : ExcName → Option Value} {mg mb : Str → Option Value} {w : World}
    {dp un : Nat} {gd : Option (List Code)} {cn : Str} {cs : Scope} {a : Addr} {ccd : Value} {cl : List (Str × Addr)} {outer : List Env} {A₀ : Around} {h₀ : Heap} {L : Addr} {m : Str → Option Value} {s : Shared}
    {Q E : Value → Shared → Prop} {rest : List (Addr × Obj)} {txt pat : List UInt8} {lf ta tb tl t : Nat} {c : Addr} {oc : Obj} {vs : Array Value} (B : Below A₀ h₀ outer h₀) (F : Fr h₀ L s.heap m) (X : (Mine.hd.heap_1_3 w.params).In h₀) (N : News h₀ L s.heap ((c, oc) :: (278, tabObj (#[] ++ #[rawInt 342, rawInt 4, .ref c])) :: rest)) (d1 : oc.data = .fields vs) (d3 : vs[1]? = some (.str (Str.ofString "_law_counted.<locals>.count") t)) (hcd : CodeHd h₀ 282 278) (h278 : ∀ p ∈ rest, p.1 ≠ 278)
    (T : Top P loose mean mg mb h₀) (hk : cs.kind = .function) (hdp : dp + 300 < 990) (hun : un + 2000 < 9900) (hz : zeroIn pat.toArray = none) (hlf : lf ≤ 1000000) (hpl : pat.length ≤ 20) (htl : txt.length ≤ 100) {r : Option (Int × Int)} {k : Nat} (hS : S 1 txt pat 0 r k)
    (retT : k ≤ lf → ∀ x, r = some x → ∀ v t ta tb tk h' tk', Fr h₀ L h' m → News h₀ L h' ((v, tupO [.ref t, .int (k : Int) tk, .bool false]) :: (t, tupO [.int x.1 ta, .int x.2 tb]) :: (c, oc) :: (278, tabObj (#[] ++ #[rawInt 342, rawInt 4, .ref c])) :: rest) → Q (.ref v) { s with heap := h', toks := tk' })
    (retN : k ≤ lf → r = none → ∀ v tk h' tk', Fr h₀ L h' m → News h₀ L h' ((v, tupO [.none, .int (k : Int) tk, .bool false]) :: (c, oc) :: (278, tabObj (#[] ++ #[rawInt 342, rawInt 4, .ref c])) :: rest) → Q (.ref v) { s with heap := h', toks := tk' })
    (rai : lf < k → ∀ v tk h' tk', Fr h₀ L h' m → News h₀ L h' ((v, tupO [.none, .int ((lf + 1 : Nat) : Int) tk, .bool true]) :: (c, oc) :: (278, tabObj (#[] ++ #[rawInt 342, rawInt 4, .ref c])) :: rest) → Q (.ref v) { s with heap := h', toks := tk' }) :
    wpAny (model prg w) (ktrTop dp un gd cn cs L a ccd cl outer) (call (.ref 283) [.bytes txt.toArray ta, .bytes pat.toArray tb, .int (lf : Int) tl]) Q E s := by
  tb_start
  refine wpAny_call ?_
  k_dflt krn_off
  k_steps
  refine wpAny_Try_except ?_
  (try dsimp only); (try k_fold)
  k_steps
  rename_i g' L' h4 tk1 FG B' X' T' lv l0 l1a o1 o2 d1a d2a l' h3 l1b h2 o0 d0 tk0 f ct dc h1 tk2 l2 h' F' N'
  k_dflt (refine' c_new4 ?k1 ?k2 ?k3 ?k4 ?k5 ?kK ?kd ?ku hz ?_; (case k1 => k_asm); (case k2 => k_asm); (case k3 => k_asm); (case k4 => k_asm); (case k5 => k_asm); (case kK => first | exact rfl | assumption); (case kd => ktr_room); (case ku => ktr_units))
  intro M D κ t4 h9 tk9 hκ hlt hDM F9 N9
  have FLL := F'.above
  obtain ⟨q1, q2, q3, q4, q5, q6, q7, q8, q9, qa, qb, qc, kt, kst, kle, klv⟩ := κ
  dsimp only at hκ
  subst hκ
  have hlt' := fun p hp => hlt p (perm1 p hp)
  have N10 := cb_drop N9 (fun q hq => perm3 q hq)
  clear N9
  dsimp only [mLed, mEs] at N10
  (try dsimp only); (try k_fold)
  k_steps
  generalize hq : qualnameIn _ _ _ = qn at N10 hlt'
  have hqn : qn = Str.ofString "_law_counted.<locals>.count" := hq.symm.trans (by kernel_rfl)
  subst hqn
  have ho1 : o0.data = .cell (some (.ref l')) := d0
  have ho2 : o2.data = .cell (some (.int (lf : Int) tl)) := d2a.trans (by kernel_rfl)
  obtain ⟨e1, e2, e3, e4, e5, e6, e7⟩ := six hlt'
  have a7 : ∀ p ∈ rest, p.1 < l' := lt_of_allLt l1b.2.2.2.2
  have HC := @count_tick w P loose mean mg mb M D txt pat lf tl t f c l' (L' + 1 + 1) (L' + 1) (Str.ofString "_law_counted.<locals>.count") dc ((mg (Str.ofString "__name__")).getD Value.none) ct oc o0 o2 vs ((278, tabObj (#[] ++ #[rawInt 342, rawInt 4, .ref c])) :: rest) h₀
    hcd hlf d1 d3 ho1 ho2 (Nat.ne_of_gt (Nat.lt_trans e3 hDM)) (Nat.ne_of_gt e3) (Nat.ne_of_gt l2.1) (Nat.ne_of_lt l1b.2.2.1) (Nat.ne_of_lt l1b.1) (Nat.ne_of_lt l1b.2.1) (fun p hp => (List.mem_cons.mp hp).elim (fun q => by subst q; exact Nat.ne_of_lt l1b.2.2.2.1) (fun hp => Nat.ne_of_lt (a7 p hp)))
    ⟨Nat.ne_of_lt e1, Nat.ne_of_lt e2, Nat.ne_of_lt e3, Nat.ne_of_lt e4, Nat.ne_of_lt e5, fun p hp => (List.mem_cons.mp hp).elim (fun q => by subst q; exact Nat.ne_of_lt e6) (fun hp => Nat.ne_of_lt (e7 p hp))⟩
  clear e1 e2 e3 e4 e5 e6 e7 a7
  have hn0 : 0 ≤ lf := Nat.zero_le _
  k_dflt (refine' c_search HC (by omega) htl hpl hS (κ := ⟨q1, q2, q3, q4, q5, q6, q7, q8, q9, qa, qb, qc, _, kst, kle, klv⟩) (d := 0) (t4 := t4) ?k1 ?k2 ?k3 ?k4 ?k5 ?kK ?kd ?ku ?q0 ?hc ?hr ?hm hn0 ?retT ?retN ?rai; (case k1 => k_asm); (case k2 => k_asm); (case k3 => k_asm); (case k4 => exact N10); (case k5 => k_asm); (case kK => first | exact rfl | assumption); (case kd => isplit); (case ku => isplit); (case q0 => rfl); (case hc => exact ⟨[], 0, rfl, rfl⟩); (case hr => exact fun p hp => Nat.ne_of_lt (hlt' p hp)); (case hm => exact Nat.ne_of_gt hDM))
  case rai =>
    intro hlt8 e8 dx8 h8 tk8 rest8 g8 hc8 F8 U8 R8
    obtain ⟨vs8, cap8, hvs8, hr8⟩ := hc8
    subst hr8
    (try k_unfold); (try dsimp only)
    k_dflt (refine' caughtD FG F8 U8 R8 X T ?ex (exc31 X) ?hk ?hlo ?hx ?hd ?_; (case ex => k_is); (case hk => exact rfl); (case hlo => exact rfl); (case hx => exact rfl); (case hd => decide))
    intro h7 tk7 oL oe ws7 k71 k72 k73 t71 tr7 F7 N7 oLd ec ed ef
    dsimp only [ctObjs] at N7
    clear F' N' F9 N10 F8 R8 U8 HC hS B' X' T'
    k_steps
    refine' c_value ?la ?lb ?lc ?ld ?le ec ed ef ?lh
    case la => k_asm
    case lb => exact X
    case lc => k_asm
    case ld => k_mem
    case le => k_mem
    (try dsimp only); (try k_fold)
    k_steps
    k_dflt (refine' goesX ?lf ?ln ?hk ?hl ?_; (case lf => k_asm); (case ln => k_asm); (case hk => exact rfl); (case hl => exact rfl))
    intro hz mz Fz Nz
    rename_i lz
    obtain ⟨Fe, Ne⟩ := backD FG Fz Nz (List.mem_cons_of_mem _ List.mem_cons_self) oLd (fun p hp => ⟨midR p hp, neR2 N lz.1 p hp⟩)
    exact rai (by omega) _ _ _ _ Fe Ne
  case retN =>
    intro hle hx h8 tk8 rest8 hc8 F8 N8
    obtain ⟨vs8, cap8, hvs8, hr8⟩ := hc8
    subst hr8
    dsimp only [ctObjs] at N8
    simp only [Nat.zero_add] at hvs8
    (try k_unfold); (try dsimp only); (try k_fold)
    k_steps
    refine' lenL ?laD ?lbD ?lcD ?ldD ?leD
    case laD => k_asm
    case lbD => k_mem
    case lcD => assumption
    case ldD => omega
    intro tk9; (try dsimp only); (try k_fold)
    k_steps
    refine lv _ _ ?_
    k_steps
    exact retN (by omega) hx _ _ _ _ (by k_asm) (cb_drop (by assumption) midN)
  case retT =>
    intro hle x hx t9 ta tb h8 tk8 rest8 hc8 F8 N8
    obtain ⟨vs8, cap8, hvs8, hr8⟩ := hc8
    subst hr8
    dsimp only [ctObjs] at N8
    simp only [Nat.zero_add] at hvs8
    (try k_unfold); (try dsimp only); (try k_fold)
    k_steps
    refine' lenL ?laC ?lbC ?lcC ?ldC ?leC
    case laC => k_asm
    case lbC => k_mem
    case lcC => assumption
    case ldC => omega
    intro tk9; (try dsimp only); (try k_fold)
    k_steps
    refine lv _ _ ?_
    k_steps
    exact retT (by omega) x hx _ _ _ _ _ _ _ (by k_asm) (cb_drop (by assumption) midT)

end K1
section E1
open PySem PySem.W PyProof.Rows PySem.Calls
set_option maxRecDepth 100000
set_option maxHeartbeats 40000000
theorem off_E1 : True := by
  w_top off
  trivial

theorem itemL {prog : Program} {w : World} {A : Around} {E : Value → Shared → Prop} {s : Shared} {h₀ : Heap} {L l : Addr} {news : List (Addr × Obj)} {vs : List Value} {ns : List Int} {c : Nat} {k : Int} {u : Tok} {value slice : PySem.Expr} {Q : Value → Shared → Prop}
    (N : News h₀ L s.heap news) (hm : (l, PySem.W.listOf vs.toArray c) ∈ news) (hi : IntsAre vs ns) (h0 : 0 ≤ k) (h1 : k < (ns.length : Int)) (hfit : k < 2 ^ 63) (h : ∀ t, Q (.int (ns.getD k.toNat 0) t) s)
    (hs : subscripted slice false (.ref l) (.int k u) = operate [.ref l, .int k u] (getItem (.ref l) (.int k u)) := by with_unfolding_all rfl) :
    wpAny (model prog w) A (subscriptTail value slice (.ref l) (.int k u)) Q E s :=
  item_anyK ⟨_, (N _ hm).1, rfl, c, rfl⟩ hi h0 h1 hfit h hs

local macro_rules | `(tactic| walk_at "call builtin:len") => `(tactic| (k_here; (with_reducible show wpAny _ _ (call (Value.builtin "len") [Value.ref _]) _ _ _); k_dflt (refine' lenL ?la ?lb ?lc ?ld ?le; (case la => k_asm); (case lb => k_mem); (case lc => exact rfl); (case ld => omega)); intro tk9; (try dsimp only); (try k_fold)))
local macro_rules | `(tactic| walk_at "subscriptTail") => `(tactic| (k_here; (with_reducible show wpAny _ _ (subscriptTail _ _ (Value.ref _) (Value.int _ _)) _ _ _); k_dflt (refine' itemL ?la ?lb ?lc ?ld ?le ?lf ?lg; (case la => k_asm); (case lb => k_mem); (case lc => assumption); (case ld | le | lf => omega)); intro tk9; (try dsimp only); (try k_fold)))

theorem c_dipped {P : Program} {loose : List Str} {mean : ExcName → Option Value} {mg mb : Str → Option Value} {w : World}
    {dp un : Nat} {gd : Option (List Code)} {cn : Str} {cs : Scope} {a : Addr} {ccd : Value} {cl : List (Str × Addr)} {outer : List Env} {A₀ : Around} {base h₀ : Heap} {L : Addr} {m : Str → Option Value} {s : Shared}
    {Q E : Value → Shared → Prop} {rest : List (Addr × Obj)} {ld D : Addr} {ws : List Value} {is : List Int} {k n : Int} {tk0 tn : Nat} (B : Below A₀ base outer h₀) (F : Fr h₀ L s.heap m) (X : (Mine.hd.heap_1_3 w.params).In h₀) (N : News h₀ L s.heap ((ld, PySem.W.listOf #[.ref D, .int k tk0] 0) :: (D, PySem.W.listOf ws.toArray 0) :: rest)) (hI : IntsAre ws is) (hws : ws.length ≤ 63) (hD : ∀ p ∈ (D, PySem.W.listOf ws.toArray 0) :: rest, p.1 ≠ ld)
    (T : Top P loose mean mg mb h₀) (hk : cs.kind = .function) (hdp : dp + 8 < recursionLimit) (hun : un + 60 < cLine) (hk0 : 0 ≤ k) (hk1 : k ≤ 100) (hn : 0 < n) (hn1 : n ≤ 4)
    (ret : ∀ r t t' h' tk', 0 ≤ r → r < n → Fr h₀ L h' m → News h₀ L h' ((ld, PySem.W.listOf #[.ref D, .int (k + 1) t'] 0) :: (D, PySem.W.listOf ws.toArray 0) :: rest) → Q (.int r t) { s with heap := h', toks := tk' }) :
    wpAny (model prg w) (ktrTop dp un gd cn cs L a ccd cl outer) (call (.ref 264) [.ref ld, .int n tn]) Q E s := by
  tb_start
  refine wpAny_call ?_
  k_dflt krn_off
  have hlen := hI.length
  by_cases hlt : k < (ws.length : Int)
  · k_steps
    exact ret _ _ _ _ _ (Int.fmod_nonneg_of_pos _ hn) (Int.fmod_lt_of_pos _ hn) (by assumption) (by assumption)
  · k_steps
    exact ret _ _ _ _ _ (Int.fmod_nonneg_of_pos _ hn) (Int.fmod_lt_of_pos _ hn) (by assumption) (by assumption)


theorem unrEndN {h₀ : Heap} {L I : Addr} {it : Obj} {rest : (Str → Option Value) → List (Addr × Obj) → Prop} {s₁ : Shared} {h' : Heap} {tk : Nat} {m' : Str → Option Value} {news : List (Addr × Obj)} (F : Fr h₀ L h' m') (N : News h₀ L h' ((I, it) :: news))
    (hlt : ∀ p ∈ news, p.1 < I) (r : rest m' news) : UnrEnd h₀ L s₁ I it rest { s₁ with heap := h', toks := tk } :=
  UnrEnd.intro F N news (fun p hp => hp) (fun p hp e => Nat.ne_of_lt (hlt p hp) e) r

local macro_rules | `(tactic| walk_at "UnrEnd") => `(tactic| (refine unrEndN (by assumption) (by assumption) (by assumption) ?_))

theorem c_ways1 {P : Program} {loose : List Str} {mean : ExcName → Option Value} {mg mb : Str → Option Value} {w : World}
    {dp un : Nat} {gd : Option (List Code)} {cn : Str} {cs : Scope} {a : Addr} {ccd : Value} {cl : List (Str × Addr)} {outer : List Env} {A₀ : Around} {base h₀ : Heap} {L : Addr} {m : Str → Option Value} {s : Shared}
    {Q E : Value → Shared → Prop} {news : List (Addr × Obj)} {size : Int} {sz ts tm : Nat} (B : Below A₀ base outer h₀) (F : Fr h₀ L s.heap m) (X : (Mine.hd.heap_1_3 w.params).In h₀) (N : News h₀ L s.heap news)
    (T : Top P loose mean mg mb h₀) (hk : cs.kind = .function) (hdp : dp + 8 < recursionLimit) (hun : un + 60 < cLine) (hsz : size = (sz : Int)) (hs0 : 2 ≤ sz) (hs1 : sz ≤ 5)
    (ret : ∀ t h' tk', Fr h₀ L h' m → News h₀ L h' news → Q (.int (waysF sz 1 : Nat) t) { s with heap := h', toks := tk' }) :
    wpAny (model prg w) (ktrTop dp un gd cn cs L a ccd cl outer) (call (.ref 271) [.int size ts, .int 1 tm]) Q E s := by
  tb_start
  refine wpAny_call ?_
  k_dflt krn_off
  k_steps
  all_goals (first | (have e : sz = 2 ∨ sz = 3 ∨ sz = 4 ∨ sz = 5 := by omega); skip)
  subst hsz
  rcases e with rfl | rfl | rfl | rfl
  all_goals exact ret _ _ _ (by assumption) (by assumption)


theorem c_ways2 {P : Program} {loose : List Str} {mean : ExcName → Option Value} {mg mb : Str → Option Value} {w : World}
    {dp un : Nat} {gd : Option (List Code)} {cn : Str} {cs : Scope} {a : Addr} {ccd : Value} {cl : List (Str × Addr)} {outer : List Env} {A₀ : Around} {base h₀ : Heap} {L : Addr} {m : Str → Option Value} {s : Shared}
    {Q E : Value → Shared → Prop} {news : List (Addr × Obj)} {size : Int} {sz ts tm : Nat} (B : Below A₀ base outer h₀) (F : Fr h₀ L s.heap m) (X : (Mine.hd.heap_1_3 w.params).In h₀) (N : News h₀ L s.heap news)
    (T : Top P loose mean mg mb h₀) (hk : cs.kind = .function) (hdp : dp + 8 < recursionLimit) (hun : un + 60 < cLine) (hsz : size = (sz : Int)) (hs0 : 2 ≤ sz) (hs1 : sz ≤ 5)
    (ret : ∀ t h' tk', Fr h₀ L h' m → News h₀ L h' news → Q (.int (waysF sz 2 : Nat) t) { s with heap := h', toks := tk' }) :
    wpAny (model prg w) (ktrTop dp un gd cn cs L a ccd cl outer) (call (.ref 271) [.int size ts, .int 2 tm]) Q E s := by
  tb_start
  refine wpAny_call ?_
  k_dflt krn_off
  k_steps
  all_goals (first | (have e : sz = 2 ∨ sz = 3 ∨ sz = 4 ∨ sz = 5 := by omega); skip)
  subst hsz
  rcases e with rfl | rfl | rfl | rfl
  all_goals exact ret _ _ _ (by assumption) (by assumption)


theorem c_ways3 {P : Program} {loose : List Str} {mean : ExcName → Option Value} {mg mb : Str → Option Value} {w : World}
    {dp un : Nat} {gd : Option (List Code)} {cn : Str} {cs : Scope} {a : Addr} {ccd : Value} {cl : List (Str × Addr)} {outer : List Env} {A₀ : Around} {base h₀ : Heap} {L : Addr} {m : Str → Option Value} {s : Shared}
    {Q E : Value → Shared → Prop} {news : List (Addr × Obj)} {size : Int} {sz ts tm : Nat} (B : Below A₀ base outer h₀) (F : Fr h₀ L s.heap m) (X : (Mine.hd.heap_1_3 w.params).In h₀) (N : News h₀ L s.heap news)
    (T : Top P loose mean mg mb h₀) (hk : cs.kind = .function) (hdp : dp + 8 < recursionLimit) (hun : un + 60 < cLine) (hsz : size = (sz : Int)) (hs0 : 2 ≤ sz) (hs1 : sz ≤ 5)
    (ret : ∀ t h' tk', Fr h₀ L h' m → News h₀ L h' news → Q (.int (waysF sz 3 : Nat) t) { s with heap := h', toks := tk' }) :
    wpAny (model prg w) (ktrTop dp un gd cn cs L a ccd cl outer) (call (.ref 271) [.int size ts, .int 3 tm]) Q E s := by
  tb_start
  refine wpAny_call ?_
  k_dflt krn_off
  k_steps
  all_goals (first | (have e : sz = 2 ∨ sz = 3 ∨ sz = 4 ∨ sz = 5 := by omega); skip)
  subst hsz
  rcases e with rfl | rfl | rfl | rfl
  all_goals exact ret _ _ _ (by assumption) (by assumption)


theorem c_ways {P : Program} {loose : List Str} {mean : ExcName → Option Value} {mg mb : Str → Option Value} {w : World}
    {dp un : Nat} {gd : Option (List Code)} {cn : Str} {cs : Scope} {a : Addr} {ccd : Value} {cl : List (Str × Addr)} {outer : List Env} {A₀ : Around} {base h₀ : Heap} {L : Addr} {m : Str → Option Value} {s : Shared}
    {Q E : Value → Shared → Prop} {news : List (Addr × Obj)} {size : Int} {many : Int} {sz ts tm : Nat} (B : Below A₀ base outer h₀) (F : Fr h₀ L s.heap m) (X : (Mine.hd.heap_1_3 w.params).In h₀) (N : News h₀ L s.heap news)
    (T : Top P loose mean mg mb h₀) (hk : cs.kind = .function) (hdp : dp + 8 < recursionLimit) (hun : un + 60 < cLine) (hsz : size = (sz : Int)) (hs0 : 2 ≤ sz) (hs1 : sz ≤ 5) (hm : many = 1 ∨ many = 2 ∨ many = 3)
    (ret : ∀ t h' tk', Fr h₀ L h' m → News h₀ L h' news → Q (.int (waysF sz many.toNat : Nat) t) { s with heap := h', toks := tk' }) :
    wpAny (model prg w) (ktrTop dp un gd cn cs L a ccd cl outer) (call (.ref 271) [.int size ts, .int many tm]) Q E s := by
  rcases hm with rfl | rfl | rfl
  · exact c_ways1 B F X N T hk hdp hun hsz hs0 hs1 ret
  · exact c_ways2 B F X N T hk hdp hun hsz hs0 hs1 ret
  · exact c_ways3 B F X N T hk hdp hun hsz hs0 hs1 ret
theorem mono_eval {α : Type} {M : Model} {A : Around} {x : Sem α} {Q : α → Shared → Prop} {E : Value → Shared → Prop} {s : Shared} {g : Heap} {L : Addr} {m : Str → Option Value} {news : List (Addr × Obj)} (K : α → Prop) (F : Fr g L s.heap m) (N : News g L s.heap news)
    (h1 : wpAny M A x (fun v s' => ∃ h' tk', s' = { s with heap := h', toks := tk' } ∧ K v ∧ Fr g L h' m ∧ News g L h' news) E s)
    (h2 : ∀ v h' tk', K v → Fr g L h' m → News g L h' news → Q v { s with heap := h', toks := tk' }) : wpAny M A x Q E s :=
  wpAny_mono h1 (fun v s' h => by obtain ⟨h', tk', rfl, hk, hf, hn⟩ := h; exact h2 v h' tk' hk hf hn) fun _ _ y => y

end E1
section E2
open PySem PySem.W PyProof.Rows PySem.Calls
set_option maxRecDepth 100000
set_option maxHeartbeats 40000000
theorem off_E2 : True := by
  w_top off
  trivial
local macro_rules | `(tactic| krn_off) => `(tactic| ((refine' code_defC ?k1 ?k2 ?k3 ?k4 ?k5 ?kA ?kF ?kK ?k6 ?k7 ?k8 ?k9 ?kB ?kD ?_ ?c2 ?c3 ?c4; (case kA | kF => exact rfl); (case kK => first | exact rfl | assumption); (case k1 | k2 | k3 | k4 | k5 => k_asm); (case k6 | k7 => k_is); (case k8 => ktr_room); (case k9 => exact BindsTo.of_eq rfl); (case kB => exact rfl); (case kD => decide +kernel); (case c2 | c3 | c4 => exact rfl); k_whole; intro g' L' h' tk' cells' FG' F' N' Y' B' X' T' l1; (have l0 := l1); (try k_lt l1); k_cells Y'; (try simp only [List.cons_append, List.nil_append] at N'); (try dsimp only); (try k_fold))))
local macro_rules | `(tactic| walk_at "binaryOp Add bytes bytes") => `(tactic| (k_here; (with_reducible show wpAny _ _ (binaryOp Operator.Add (Value.bytes (List.toArray _) _) (Value.bytes (List.toArray _) _)) _ _ _); k_dflt (refine' bytes_add_K ?z rfl ?_; (case z => first | kby_size | (simp <;> omega)); k_whole); intro _ _))
local macro_rules | `(tactic| walk_at "call ref") => `(tactic| (k_here; (with_reducible show wpAny _ _ (call (Value.ref 271) _) _ _ _); k_dflt (refine' c_ways ?k1 ?k2 ?k3 ?k4 ?k5 ?kK ?kd ?ku ?q0 ?q1 ?q2 ?q3 ?_; (case k1 | k2 | k3 | k4 | k5 => k_asm); (case kK => first | exact rfl | assumption); (case kd => ktr_room); (case ku => ktr_units); (case q0 => exact (Int.toNat_of_nonneg (by omega)).symm); (case q1 | q2 | q3 => omega)); intro t9 h9 tk9 F9 N9; (try dsimp only); (try k_sweep); (try k_fold)))

theorem permD {α : Type} {a b c d e : α} : ∀ q ∈ [c, d, a, b, e], q ∈ [a, b, c, d, e] := fun q hq => by
  simp only [List.mem_cons] at hq ⊢
  rcases hq with h | h | h | h | h | h
  · simp only [h, true_or, or_true]
  · simp only [h, true_or, or_true]
  · simp only [h, true_or, or_true]
  · simp only [h, true_or, or_true]
  · simp only [h, true_or, or_true]
  · exact absurd h List.not_mem_nil
theorem txt0f {n : Nat} : txtOf 0 n false = (List.replicate n [97]).flatten := by simp [txtOf, rep]
theorem txt0t {n : Nat} : txtOf 0 n true = (List.replicate n [97]).flatten ++ [98] := by simp [txtOf, rep]
theorem txt1f {n : Nat} : txtOf 1 n false = (List.replicate n [40]).flatten := by simp [txtOf, rep]
theorem txt1t {n : Nat} : txtOf 1 n true = (List.replicate n [40]).flatten ++ [41] := by simp [txtOf, rep]
theorem txt2f {n : Nat} : txtOf 2 n false = (List.replicate n [97]).flatten := by simp [txtOf, rep]
theorem txt2t {n : Nat} : txtOf 2 n true = (List.replicate n [97]).flatten ++ [98] := by simp [txtOf, rep]
theorem txt3f {n : Nat} : txtOf 3 n false = (List.replicate n [97]).flatten := by simp [txtOf, rep]
theorem txt3t {n : Nat} : txtOf 3 n true = (List.replicate n [97]).flatten ++ [98] := by simp [txtOf, rep]
theorem pat0 {n : Nat} : patOf 0 n = (List.replicate n [97, 45]).flatten ++ [98] := by simp [patOf, rep]
theorem pat1 {n : Nat} : patOf 1 n = [37, 98, 40, 41] := by simp [patOf, rep]
theorem pat2 {n : Nat} : patOf 2 n = (List.replicate n [97]).flatten ++ [98] := by simp [patOf, rep]
theorem pat3 {n : Nat} : patOf 3 n = [91, 97, 93, 42, 98] := by simp [patOf, rep]
theorem leastT {f s m : Nat} : leastOf f s m true = 1 := by simp [leastOf]
theorem dropInt {h₀ h : Heap} {L v : Addr} {a b : Value} {x y : Int} {t : Tok} {led : List (Addr × Obj)} {ot : Obj} (N : News h₀ L h led) (hm : (v, tupO [a, b, .int x t]) ∈ led) (ho : (278, ot) ∈ led) (e : x = y) : News h₀ L h [(v, tupO [a, b, .int y t]), (278, ot)] := fun p hp => by
  subst e
  rcases List.mem_cons.mp hp with rfl | hp
  · exact N _ hm
  · rcases List.mem_cons.mp hp with rfl | hp
    · exact N _ ho
    · exact absurd hp List.not_mem_nil
theorem least0 {s m : Nat} : leastOf 0 s m false = waysF s m := by simp [leastOf]
theorem neD {a b ld D q : Nat} {od ot : Obj} (h1 : D < ld) (h2 : q < ld) (h3 : ld < a) (h4 : ld < b) (oa ob : Obj) : ∀ p ∈ ([(D, od), (a, oa), (b, ob), (q, ot)] : List (Addr × Obj)), p.1 ≠ ld := fun p hp => by
  rcases List.mem_cons.mp hp with rfl | hp
  · exact Nat.ne_of_lt h1
  · rcases List.mem_cons.mp hp with rfl | hp
    · exact Nat.ne_of_gt h3
    · rcases List.mem_cons.mp hp with rfl | hp
      · exact Nat.ne_of_gt h4
      · rcases List.mem_cons.mp hp with rfl | hp
        · exact Nat.ne_of_lt h2
        · exact absurd hp List.not_mem_nil


theorem c_drawn {P : Program} {loose : List Str} {mean : ExcName → Option Value} {mg mb : Str → Option Value} {w : World}
    {dp un : Nat} {gd : Option (List Code)} {cn : Str} {cs : Scope} {a : Addr} {ccd : Value} {cl : List (Str × Addr)} {outer : List Env} {A₀ : Around} {base h₀ : Heap} {L : Addr} {m : Str → Option Value} {s : Shared}
    {Q E : Value → Shared → Prop} {ld D : Addr} {ws : List Value} {is : List Int} {tk0 : Nat} {ot : Obj} (B : Below A₀ base outer h₀) (F : Fr h₀ L s.heap m) (X : (Mine.hd.heap_1_3 w.params).In h₀) (N : News h₀ L s.heap [(ld, PySem.W.listOf #[.ref D, .int 0 tk0] 0), (D, PySem.W.listOf ws.toArray 0), (278, ot)]) (hI : IntsAre ws is) (hws : ws.length ≤ 63) (hD : D < ld ∧ 278 < ld) (hD2 : 278 < D)
    (T : Top P loose mean mg mb h₀) (hk : cs.kind = .function) (hdp : dp + 20 < recursionLimit) (hun : un + 200 < cLine)
    (ret : ∀ form size many met v t1 t2 t3 h' tk', form < 4 → 2 ≤ size → size ≤ 5 → 1 ≤ many → many ≤ 3 → Fr h₀ L h' m → News h₀ L h' [(v, tupO [.bytes (txtOf form size met).toArray t1, .bytes (patOf form many).toArray t2, .int (leastOf form size many met : Nat) t3]), (278, ot)] → Q (.ref v) { s with heap := h', toks := tk' }) :
    wpAny (model prg w) (ktrTop dp un gd cn cs L a ccd cl outer) (call (.ref 276) [.ref ld]) Q E s := by
  tb_start
  refine wpAny_call ?_
  k_dflt krn_off
  rename_i g' L' h' tk' FG' F' B' X' T' l0 l1 o1 o2 d1 d2 N'
  have hNe := neD (a := L' + 1 + 1) (b := L' + 1) (ld := ld) (D := D) (q := 278) (od := PySem.W.listOf ws.toArray 0) (ot := ot) hD.1 hD.2 (Nat.lt_succ_of_lt (Nat.lt_succ_of_lt l1.1)) (Nat.lt_succ_of_lt l1.1)
  k_steps
  k_dflt (refine' c_dipped ?k11 ?k21 ?k31 ?k41 hI hws (hNe _ _) ?k81 ?kK1 ?kd1 ?ku1 ?q01 ?q11 ?q21 ?q31 ?_; (case k11 => k_asm); (case k21 => k_asm); (case k31 => k_asm); (case k41 => first | assumption | exact cb_drop (by assumption) permD | exact cb_drop (by assumption) (fun q hq => List.mem_cons_of_mem _ hq)); (case k81 => k_asm); (case kK1 => first | exact rfl | assumption); (case kd1 => ktr_room); (case ku1 => ktr_units); (case q01 => omega); (case q11 => omega); (case q21 => omega); (case q31 => omega))
  intro r1 tr1 tq1 hh1 tk1 hr1 hs1 F1 N1
  (try dsimp only); (try k_sweep); (try k_fold)
  k_steps
  k_dflt (refine' c_dipped ?k12 ?k22 ?k32 ?k42 hI hws (hNe _ _) ?k82 ?kK2 ?kd2 ?ku2 ?q02 ?q12 ?q22 ?q32 ?_; (case k12 => k_asm); (case k22 => k_asm); (case k32 => k_asm); (case k42 => first | assumption | exact cb_drop (by assumption) permD | exact cb_drop (by assumption) (fun q hq => List.mem_cons_of_mem _ hq)); (case k82 => k_asm); (case kK2 => first | exact rfl | assumption); (case kd2 => ktr_room); (case ku2 => ktr_units); (case q02 => omega); (case q12 => omega); (case q22 => omega); (case q32 => omega))
  intro r2 tr2 tq2 hh2 tk2 hr2 hs2 F2 N2
  (try dsimp only); (try k_sweep); (try k_fold)
  k_steps
  k_dflt (refine' c_dipped ?k13 ?k23 ?k33 ?k43 hI hws (hNe _ _) ?k83 ?kK3 ?kd3 ?ku3 ?q03 ?q13 ?q23 ?q33 ?_; (case k13 => k_asm); (case k23 => k_asm); (case k33 => k_asm); (case k43 => first | assumption | exact cb_drop (by assumption) permD | exact cb_drop (by assumption) (fun q hq => List.mem_cons_of_mem _ hq)); (case k83 => k_asm); (case kK3 => first | exact rfl | assumption); (case kd3 => ktr_room); (case ku3 => ktr_units); (case q03 => omega); (case q13 => omega); (case q23 => omega); (case q33 => omega))
  intro r3 tr3 tq3 hh3 tk3 hr3 hs3 F3 N3
  (try dsimp only); (try k_sweep); (try k_fold)
  k_steps
  k_dflt (refine' c_dipped ?k14 ?k24 ?k34 ?k44 hI hws (hNe _ _) ?k84 ?kK4 ?kd4 ?ku4 ?q04 ?q14 ?q24 ?q34 ?_; (case k14 => k_asm); (case k24 => k_asm); (case k34 => k_asm); (case k44 => first | assumption | exact cb_drop (by assumption) permD | exact cb_drop (by assumption) (fun q hq => List.mem_cons_of_mem _ hq)); (case k84 => k_asm); (case kK4 => first | exact rfl | assumption); (case kd4 => ktr_room); (case ku4 => ktr_units); (case q04 => omega); (case q14 => omega); (case q24 => omega); (case q34 => omega))
  intro r4 tr4 tq4 hh4 tk4 hr4 hs4 F4 N4
  (try dsimp only); (try k_sweep); (try k_fold)


  have e1 : r1 = 0 ∨ r1 = 1 ∨ r1 = 2 ∨ r1 = 3 := by omega
  rcases e1 with rfl | rfl | rfl | rfl
  · k_steps
    all_goals first
      | (refine' ret 0 (2 + r2).toNat (1 + r3).toNat true _ ?t10true ?t20true ?t30true _ _ (by omega) (by omega) (by omega) (by omega) (by omega) (by assumption) ?hfin0true
         case hfin0true =>
           rw [txt0t, pat0, leastT]
           refine cb_drop (by assumption) ?_
           (intro q hq; rcases List.mem_cons.mp hq with rfl | hq; exact List.mem_cons_self; rcases List.mem_cons.mp hq with rfl | hq; (repeat (first | exact List.mem_cons_self | apply List.mem_cons_of_mem)); exact absurd hq List.not_mem_nil))
      | (refine' ret 0 (2 + r2).toNat (1 + r3).toNat false _ ?t10false ?t20false ?t30false _ _ (by omega) (by omega) (by omega) (by omega) (by omega) (by assumption) ?hfin0false
         case hfin0false =>
           rw [txt0f, pat0, least0]
           refine cb_drop (by assumption) ?_
           (intro q hq; rcases List.mem_cons.mp hq with rfl | hq; exact List.mem_cons_self; rcases List.mem_cons.mp hq with rfl | hq; (repeat (first | exact List.mem_cons_self | apply List.mem_cons_of_mem)); exact absurd hq List.not_mem_nil))
  · k_steps
    all_goals first
      | (refine' ret 1 (2 + r2).toNat (1 + r3).toNat true _ ?t11true ?t21true ?t31true _ _ (by omega) (by omega) (by omega) (by omega) (by omega) (by assumption) ?hfin1true
         case hfin1true =>
           rw [txt1t, pat1, leastT]
           refine cb_drop (by assumption) ?_
           (intro q hq; rcases List.mem_cons.mp hq with rfl | hq; exact List.mem_cons_self; rcases List.mem_cons.mp hq with rfl | hq; (repeat (first | exact List.mem_cons_self | apply List.mem_cons_of_mem)); exact absurd hq List.not_mem_nil))
      | (refine' ret 1 (2 + r2).toNat (1 + r3).toNat false _ ?t11false ?t21false ?t31false _ _ (by omega) (by omega) (by omega) (by omega) (by omega) (by assumption) ?hfin1false
         case hfin1false =>
           rw [txt1f, pat1]
           refine' dropInt ?da ?db ?dc ?dd
           case da => assumption
           case db => exact List.mem_cons_self
           case dc => (repeat (first | exact List.mem_cons_self | apply List.mem_cons_of_mem))
           case dd =>
             have f2 : r2 = 0 ∨ r2 = 1 ∨ r2 = 2 ∨ r2 = 3 := by omega
             have f3 : r3 = 0 ∨ r3 = 1 ∨ r3 = 2 := by omega
             clear hNe
             rcases f2 with rfl | rfl | rfl | rfl <;> rcases f3 with rfl | rfl | rfl <;> decide +kernel)
  · k_steps
    all_goals first
      | (refine' ret 2 (2 + r2).toNat (1 + r3).toNat true _ ?t12true ?t22true ?t32true _ _ (by omega) (by omega) (by omega) (by omega) (by omega) (by assumption) ?hfin2true
         case hfin2true =>
           rw [txt2t, pat2, leastT]
           refine cb_drop (by assumption) ?_
           (intro q hq; rcases List.mem_cons.mp hq with rfl | hq; exact List.mem_cons_self; rcases List.mem_cons.mp hq with rfl | hq; (repeat (first | exact List.mem_cons_self | apply List.mem_cons_of_mem)); exact absurd hq List.not_mem_nil))
      | (refine' ret 2 (2 + r2).toNat (1 + r3).toNat false _ ?t12false ?t22false ?t32false _ _ (by omega) (by omega) (by omega) (by omega) (by omega) (by assumption) ?hfin2false
         case hfin2false =>
           rw [txt2f, pat2]
           refine' dropInt ?da ?db ?dc ?dd
           case da => assumption
           case db => exact List.mem_cons_self
           case dc => (repeat (first | exact List.mem_cons_self | apply List.mem_cons_of_mem))
           case dd =>
             have f2 : r2 = 0 ∨ r2 = 1 ∨ r2 = 2 ∨ r2 = 3 := by omega
             have f3 : r3 = 0 ∨ r3 = 1 ∨ r3 = 2 := by omega
             clear hNe
             rcases f2 with rfl | rfl | rfl | rfl <;> rcases f3 with rfl | rfl | rfl <;> decide +kernel)
  · k_steps
    all_goals first
      | (refine' ret 3 (2 + r2).toNat (1 + r3).toNat true _ ?t13true ?t23true ?t33true _ _ (by omega) (by omega) (by omega) (by omega) (by omega) (by assumption) ?hfin3true
         case hfin3true =>
           rw [txt3t, pat3, leastT]
           refine cb_drop (by assumption) ?_
           (intro q hq; rcases List.mem_cons.mp hq with rfl | hq; exact List.mem_cons_self; rcases List.mem_cons.mp hq with rfl | hq; (repeat (first | exact List.mem_cons_self | apply List.mem_cons_of_mem)); exact absurd hq List.not_mem_nil))
      | (refine' ret 3 (2 + r2).toNat (1 + r3).toNat false _ ?t13false ?t23false ?t33false _ _ (by omega) (by omega) (by omega) (by omega) (by omega) (by assumption) ?hfin3false
         case hfin3false =>
           rw [txt3f, pat3]
           refine' dropInt ?da ?db ?dc ?dd
           case da => assumption
           case db => exact List.mem_cons_self
           case dc => (repeat (first | exact List.mem_cons_self | apply List.mem_cons_of_mem))
           case dd =>
             have f2 : r2 = 0 ∨ r2 = 1 ∨ r2 = 2 ∨ r2 = 3 := by omega
             have f3 : r3 = 0 ∨ r3 = 1 ∨ r3 = 2 := by omega
             clear hNe
             rcases f2 with rfl | rfl | rfl | rfl <;> rcases f3 with rfl | rfl | rfl <;> decide +kernel)

end E2
section E3
open PySem PySem.W PyProof.Rows PySem.Calls
set_option maxRecDepth 100000
set_option maxHeartbeats 8000000
noncomputable def okAt (form size many : Nat) (met : Bool) : Bool :=
  good form size many met && decide ((txtOf form size met).length ≤ 100) && decide ((patOf form many).length ≤ 20) && (zeroIn (patOf form many).toArray).isNone
theorem all_ok : (List.range 4).all (fun f => (List.range 4).all fun s => (List.range 3).all fun m => [true, false].all fun b => okAt f (s + 2) (m + 1) b) = true := by decide +kernel
theorem ok_at {form size many : Nat} {met : Bool} (hf : form < 4) (h1 : 2 ≤ size) (h2 : size ≤ 5) (h3 : 1 ≤ many) (h4 : many ≤ 3) : okAt form size many met = true := by
  have h := all_ok
  simp only [List.all_eq_true, List.mem_range] at h
  have e := h form hf (size - 2) (by omega) (many - 1) (by omega) met (by cases met <;> simp)
  rwa [show size - 2 + 2 = size by omega, show many - 1 + 1 = many by omega] at e
theorem good_at {form size many : Nat} {met : Bool} (hf : form < 4) (h1 : 2 ≤ size) (h2 : size ≤ 5) (h3 : 1 ≤ many) (h4 : many ≤ 3) :
    ∃ r k, S 0 (txtOf form size met) (patOf form many) 0 r 0 ∧ S 1 (txtOf form size met) (patOf form many) 0 r k ∧ leastOf form size many met ≤ k ∧ 1 ≤ k ∧ k ≤ 900 ∧ (txtOf form size met).length ≤ 100 ∧ (patOf form many).length ≤ 20 ∧ zeroIn (patOf form many).toArray = none := by
  have h := ok_at (met := met) hf h1 h2 h3 h4
  unfold okAt at h
  simp only [Bool.and_eq_true, decide_eq_true_eq, Option.isNone_iff_eq_none] at h
  obtain ⟨⟨⟨hg, ht⟩, hp⟩, hz⟩ := h
  unfold good at hg
  split at hg
  · rename_i r0 r k e0 e1
    simp only [Bool.and_eq_true, decide_eq_true_eq, beq_iff_eq] at hg
    obtain ⟨⟨⟨e, g1⟩, g2⟩, g3⟩ := hg
    subst e
    exact ⟨r0, k, sF_sound _ _ _ _ e0, sF_sound _ _ _ _ e1, g1, g2, g3, ht, hp, hz⟩
  · cases hg

end E3
end G
section L1
open PySem PySem.W PyProof.Rows PySem.Calls
set_option maxRecDepth 100000
set_option maxHeartbeats 40000000
theorem off_L1 : True := by
  w_top off
  trivial
local macro_rules | `(tactic| tb_start) => `(tactic| ((have e0 : (PySem.Challenge.rw_rh0161_01, Mine.hd.heap_1_3) = (PySem.Challenge.rw_rh0161_01, Mine.hd.heap_1_3) := rfl); revert e0; k_fill; intro e0; clear e0))
local macro_rules | `(tactic| tb_rel) => `(tactic| ((try simp only [beq_iff_eq, bne_iff_ne, ne_eq, decide_eq_true_eq, decide_eq_false_iff_not, Bool.and_eq_true, Bool.or_eq_true, Bool.not_eq_true', Bool.not_eq_true, Bool.not_eq_false, beq_eq_false_iff_ne, Bool.not_eq_eq_eq_not]); omega))
local macro_rules | `(tactic| walk_at "ite") => `(tactic| (k_here; k_openite; first | (refine ite_pos (by tb_rel) ?_; walk_say "DECIDED") | (refine ite_neg (by tb_rel) ?_; walk_say "DECIDED")))

theorem neTab {h₀ h : Heap} {L t : Addr} {xs : List Value} {ps : Array Value} {led : List (Addr × Obj)} (N : News h₀ L h led) (h1 : (t, tupO xs) ∈ led) (h2 : (278, tabObj ps) ∈ led) : ∀ p ∈ ([(t, tupO xs)] : List (Addr × Obj)), p.1 ≠ 278 := fun p hp e => by
  rcases List.mem_cons.mp hp with rfl | hp
  · have a := (N _ h1).1
    have b := (N _ h2).1
    dsimp only at e
    subst e
    dsimp only at a b
    rw [a] at b
    cases b
  · exact absurd hp List.not_mem_nil

theorem law_holds.tw10007947361888340627 : True := trivial
theorem law_holds.tw10024239376800412576 : True := trivial
theorem law_holds.tw10028117763298573888 : True := trivial
theorem law_holds.tw10242277825702978295 : True := trivial
theorem law_holds.tw10264638600885302300 : True := trivial
theorem law_holds.tw1035469204868569938 : True := trivial
theorem law_holds.tw10368410895845634921 : True := trivial
theorem law_holds.tw10371022188087798493 : True := trivial
theorem law_holds.tw10442559174759676424 : True := trivial
theorem law_holds.tw10465528174321978529 : True := trivial
theorem law_holds.tw10486713781251687710 : True := trivial
theorem law_holds.tw10566571302883470556 : True := trivial
theorem law_holds.tw10609929442622069884 : True := trivial
theorem law_holds.tw10666784280354678857 : True := trivial
theorem law_holds.tw10812634152524527747 : True := trivial
theorem law_holds.tw10817052189556005596 : True := trivial
theorem law_holds.tw10841264019214440115 : True := trivial
theorem law_holds.tw10876394233666535175 : True := trivial
theorem law_holds.tw10958410103948607464 : True := trivial
theorem law_holds.tw10968802771074238664 : True := trivial
theorem law_holds.tw11017292853192552079 : True := trivial
theorem law_holds.tw11097158420108258118 : True := trivial
theorem law_holds.tw11097350217990362986 : True := trivial
theorem law_holds.tw11098625913536864229 : True := trivial
theorem law_holds.tw11099507701935398616 : True := trivial
theorem law_holds.tw11100686419730198450 : True := trivial
theorem law_holds.tw11126432536435168541 : True := trivial
theorem law_holds.tw11133525997344109421 : True := trivial
theorem law_holds.tw11182679623053108816 : True := trivial
theorem law_holds.tw11223184984439025696 : True := trivial
theorem law_holds.tw11289095316329951393 : True := trivial
theorem law_holds.tw11347954631545130290 : True := trivial
theorem law_holds.tw11470271118054631628 : True := trivial
theorem law_holds.tw11484002064277903863 : True := trivial
theorem law_holds.tw11544315989524547432 : True := trivial
theorem law_holds.tw11609493526922420660 : True := trivial
theorem law_holds.tw11625900857008200698 : True := trivial
theorem law_holds.tw11633083819707477107 : True := trivial
theorem law_holds.tw11677100312832694166 : True := trivial
theorem law_holds.tw11690447701083486646 : True := trivial
theorem law_holds.tw11764581739189218997 : True := trivial
theorem law_holds.tw11781800970755023335 : True := trivial
theorem law_holds.tw11803358882649189518 : True := trivial
theorem law_holds.tw11881114122080957857 : True := trivial
theorem law_holds.tw11924911360389889469 : True := trivial
theorem law_holds.tw11966672015165255308 : True := trivial
theorem law_holds.tw12115171985352901274 : True := trivial
theorem law_holds.tw12116493165278983582 : True := trivial
theorem law_holds.tw12134408205421670959 : True := trivial
theorem law_holds.tw12342728606916771844 : True := trivial
theorem law_holds.tw12354676616611035182 : True := trivial
theorem law_holds.tw12419048959643632839 : True := trivial
theorem law_holds.tw12459966957829302596 : True := trivial
theorem law_holds.tw12476058986133298565 : True := trivial
theorem law_holds.tw12622292602297523153 : True := trivial
theorem law_holds.tw12626328134170644701 : True := trivial
theorem law_holds.tw12732824653754844360 : True := trivial
theorem law_holds.tw12780804625047726367 : True := trivial
theorem law_holds.tw12831907817818079685 : True := trivial
theorem law_holds.tw12835091436910803158 : True := trivial
theorem law_holds.tw1285599515219305098 : True := trivial
theorem law_holds.tw12889673554181485818 : True := trivial
theorem law_holds.tw12977093529070104392 : True := trivial
theorem law_holds.tw13028658284911697911 : True := trivial
theorem law_holds.tw13182730311906835528 : True := trivial
theorem law_holds.tw13220211186989608806 : True := trivial
theorem law_holds.tw13250372474279835810 : True := trivial
theorem law_holds.tw13392613628428298086 : True := trivial
theorem law_holds.tw13397297893571687751 : True := trivial
theorem law_holds.tw13402424001964919149 : True := trivial
theorem law_holds.tw1341266762083198811 : True := trivial
theorem law_holds.tw13431030151845061361 : True := trivial
theorem law_holds.tw13478230802861573701 : True := trivial
theorem law_holds.tw13536078969547264968 : True := trivial
theorem law_holds.tw13547915308083711002 : True := trivial
theorem law_holds.tw13650905803964671038 : True := trivial
theorem law_holds.tw13709617746848070560 : True := trivial
theorem law_holds.tw13766487248619392586 : True := trivial
theorem law_holds.tw1377309892636839040 : True := trivial
theorem law_holds.tw13780023080261437657 : True := trivial
theorem law_holds.tw13800757232730249582 : True := trivial
theorem law_holds.tw1385162719727133579 : True := trivial
theorem law_holds.tw13882729330811710610 : True := trivial
theorem law_holds.tw13956741780833797525 : True := trivial
theorem law_holds.tw13958071646730322851 : True := trivial
theorem law_holds.tw14051398506283589457 : True := trivial
theorem law_holds.tw1414043511812021011 : True := trivial
theorem law_holds.tw14160533322030094474 : True := trivial
theorem law_holds.tw14335913921861858828 : True := trivial
theorem law_holds.tw14377833709258309704 : True := trivial
theorem law_holds.tw14385925486924208373 : True := trivial
theorem law_holds.tw14390095281932903014 : True := trivial
theorem law_holds.tw14497384708736915567 : True := trivial
theorem law_holds.tw14498155544194170393 : True := trivial
theorem law_holds.tw14545874151571354728 : True := trivial
theorem law_holds.tw14596297492920191028 : True := trivial
theorem law_holds.tw14779313542999366975 : True := trivial
theorem law_holds.tw14822640431511872941 : True := trivial
theorem law_holds.tw14883556706271630602 : True := trivial
theorem law_holds.tw14904137174637212347 : True := trivial
theorem law_holds.tw14988988175077273356 : True := trivial
theorem law_holds.tw14991590004735058009 : True := trivial
theorem law_holds.tw14997073306097389879 : True := trivial
theorem law_holds.tw15006436103509636135 : True := trivial
theorem law_holds.tw15014403891855920072 : True := trivial
theorem law_holds.tw15154110283740273250 : True := trivial
theorem law_holds.tw15191720212996534143 : True := trivial
theorem law_holds.tw15274831704391544125 : True := trivial
theorem law_holds.tw15352839923633478061 : True := trivial
theorem law_holds.tw15448297888555860652 : True := trivial
theorem law_holds.tw15452448965706171373 : True := trivial
theorem law_holds.tw15472126771306010800 : True := trivial
theorem law_holds.tw15527639110640922598 : True := trivial
theorem law_holds.tw15544829507116839252 : True := trivial
theorem law_holds.tw15609566024721092083 : True := trivial
theorem law_holds.tw15617896438947887921 : True := trivial
theorem law_holds.tw15661869461025623997 : True := trivial
theorem law_holds.tw15694993059591697976 : True := trivial
theorem law_holds.tw15732109348078318572 : True := trivial
theorem law_holds.tw15802469936163623734 : True := trivial
theorem law_holds.tw15829985883664642994 : True := trivial
theorem law_holds.tw15883345262158282383 : True := trivial
theorem law_holds.tw16098122237329998606 : True := trivial
theorem law_holds.tw16099233806120587224 : True := trivial
theorem law_holds.tw16106779387088534511 : True := trivial
theorem law_holds.tw16406091861079842607 : True := trivial
theorem law_holds.tw16461882675039125421 : True := trivial
theorem law_holds.tw16470317323979864763 : True := trivial
theorem law_holds.tw16563099163409725306 : True := trivial
theorem law_holds.tw16614716721108272449 : True := trivial
theorem law_holds.tw1670043908289496885 : True := trivial
theorem law_holds.tw16720094985154256693 : True := trivial
theorem law_holds.tw16760957895259694429 : True := trivial
theorem law_holds.tw16805829885119392726 : True := trivial
theorem law_holds.tw16821238613367971759 : True := trivial
theorem law_holds.tw16836969012518115619 : True := trivial
theorem law_holds.tw16883458599210261866 : True := trivial
theorem law_holds.tw16893121556090616931 : True := trivial
theorem law_holds.tw1689763614830377041 : True := trivial
theorem law_holds.tw16947615914383616782 : True := trivial
theorem law_holds.tw16978406815995349258 : True := trivial
theorem law_holds.tw17027635718292003107 : True := trivial
theorem law_holds.tw17180001009569633970 : True := trivial
theorem law_holds.tw1724926542741425601 : True := trivial
theorem law_holds.tw17253691774821329096 : True := trivial
theorem law_holds.tw17253903310271361901 : True := trivial
theorem law_holds.tw17255088995462705879 : True := trivial
theorem law_holds.tw17499823404086765753 : True := trivial
theorem law_holds.tw1762888911704233025 : True := trivial
theorem law_holds.tw1767730674963353768 : True := trivial
theorem law_holds.tw17713402740875732926 : True := trivial
theorem law_holds.tw17865009358878524859 : True := trivial
theorem law_holds.tw1791086108937442324 : True := trivial
theorem law_holds.tw17911580528928914924 : True := trivial
theorem law_holds.tw179590077315354965 : True := trivial
theorem law_holds.tw17993387198741990920 : True := trivial
theorem law_holds.tw18090433342136740992 : True := trivial
theorem law_holds.tw1819975233463548508 : True := trivial
theorem law_holds.tw18203989763732354715 : True := trivial
theorem law_holds.tw18221428039690301666 : True := trivial
theorem law_holds.tw18234560199702728603 : True := trivial
theorem law_holds.tw18261290160731607033 : True := trivial
theorem law_holds.tw18269650602155537469 : True := trivial
theorem law_holds.tw18326849912455186884 : True := trivial
theorem law_holds.tw18340598423539479173 : True := trivial
theorem law_holds.tw18388893480867403737 : True := trivial
theorem law_holds.tw18430954121086234272 : True := trivial
theorem law_holds.tw1905533677188600702 : True := trivial
theorem law_holds.tw1928719863018725356 : True := trivial
theorem law_holds.tw1973129929022764952 : True := trivial
theorem law_holds.tw1989176631692091739 : True := trivial
theorem law_holds.tw2006301483956418059 : True := trivial
theorem law_holds.tw2043166853727251185 : True := trivial
theorem law_holds.tw2075624079617657780 : True := trivial
theorem law_holds.tw2102315897755806987 : True := trivial
theorem law_holds.tw2124134355350193313 : True := trivial
theorem law_holds.tw2136269947727277649 : True := trivial
theorem law_holds.tw2139172203440323022 : True := trivial
theorem law_holds.tw2143268655074302082 : True := trivial
theorem law_holds.tw2152083551845799040 : True := trivial
theorem law_holds.tw2295933128562542503 : True := trivial
theorem law_holds.tw2322801206320994539 : True := trivial
theorem law_holds.tw2387193687640843687 : True := trivial
theorem law_holds.tw2446358144275080391 : True := trivial
theorem law_holds.tw2503670479209048990 : True := trivial
theorem law_holds.tw2578278018795888234 : True := trivial
theorem law_holds.tw2643271747718453845 : True := trivial
theorem law_holds.tw2842810181116790245 : True := trivial
theorem law_holds.tw2856731137302751260 : True := trivial
theorem law_holds.tw2887050238494874643 : True := trivial
theorem law_holds.tw3005452535816212104 : True := trivial
theorem law_holds.tw3035144380315620824 : True := trivial
theorem law_holds.tw3049941959672503198 : True := trivial
theorem law_holds.tw3186734533307500241 : True := trivial
theorem law_holds.tw3253820488102484341 : True := trivial
theorem law_holds.tw3366817510852727610 : True := trivial
theorem law_holds.tw3426384778480675251 : True := trivial
theorem law_holds.tw3437919841840417490 : True := trivial
theorem law_holds.tw3438298445031660282 : True := trivial
theorem law_holds.tw3494445600050047599 : True := trivial
theorem law_holds.tw3682559726232862161 : True := trivial
theorem law_holds.tw3742325753681652743 : True := trivial
theorem law_holds.tw3756308257209627903 : True := trivial
theorem law_holds.tw3756957479349018193 : True := trivial
theorem law_holds.tw3850334171643177529 : True := trivial
theorem law_holds.tw3850404396616230974 : True := trivial
theorem law_holds.tw3910120701321347557 : True := trivial
theorem law_holds.tw3912811242725288453 : True := trivial
theorem law_holds.tw3943428198234077543 : True := trivial
theorem law_holds.tw3956099054510807996 : True := trivial
theorem law_holds.tw3962998107016518992 : True := trivial
theorem law_holds.tw4023320719750038599 : True := trivial
theorem law_holds.tw4030767218360268280 : True := trivial
theorem law_holds.tw4146061822495498468 : True := trivial
theorem law_holds.tw4273555757443719353 : True := trivial
theorem law_holds.tw4329158554759489670 : True := trivial
theorem law_holds.tw4370086069003782432 : True := trivial
theorem law_holds.tw4441770287765753910 : True := trivial
theorem law_holds.tw445335354869643106 : True := trivial
theorem law_holds.tw4464252984393422682 : True := trivial
theorem law_holds.tw447027507633508388 : True := trivial
theorem law_holds.tw4503035019201841076 : True := trivial
theorem law_holds.tw4515466672771955728 : True := trivial
theorem law_holds.tw4524032621918665186 : True := trivial
theorem law_holds.tw455179833554555240 : True := trivial
theorem law_holds.tw4581845663705801772 : True := trivial
theorem law_holds.tw4593294709026258786 : True := trivial
theorem law_holds.tw4614512636035447770 : True := trivial
theorem law_holds.tw4716974602092875015 : True := trivial
theorem law_holds.tw4781243967656130014 : True := trivial
theorem law_holds.tw4889031023730116350 : True := trivial
theorem law_holds.tw4916342969005030805 : True := trivial
theorem law_holds.tw498061464947678834 : True := trivial
theorem law_holds.tw4995542688137877417 : True := trivial
theorem law_holds.tw5112083995522966620 : True := trivial
theorem law_holds.tw519298541982818421 : True := trivial
theorem law_holds.tw5212653520564569363 : True := trivial
theorem law_holds.tw5274592661964301406 : True := trivial
theorem law_holds.tw5364902710198789758 : True := trivial
theorem law_holds.tw545109181885906688 : True := trivial
theorem law_holds.tw5640673133297012132 : True := trivial
theorem law_holds.tw5731563423909890137 : True := trivial
theorem law_holds.tw575232530192455986 : True := trivial
theorem law_holds.tw576407869801174206 : True := trivial
theorem law_holds.tw5769158387606399586 : True := trivial
theorem law_holds.tw5920216800500632969 : True := trivial
theorem law_holds.tw602461330855297101 : True := trivial
theorem law_holds.tw607667584577438428 : True := trivial
theorem law_holds.tw6159533029260741167 : True := trivial
theorem law_holds.tw6265907326580845545 : True := trivial
theorem law_holds.tw631266038723830076 : True := trivial
theorem law_holds.tw6317479115527610633 : True := trivial
theorem law_holds.tw6507877686720480950 : True := trivial
theorem law_holds.tw653560878884961445 : True := trivial
theorem law_holds.tw6564709946809587534 : True := trivial
theorem law_holds.tw6667284449218939238 : True := trivial
theorem law_holds.tw6709271908398517637 : True := trivial
theorem law_holds.tw6723812968561706957 : True := trivial
theorem law_holds.tw6727219029552735585 : True := trivial
theorem law_holds.tw676263390381983339 : True := trivial
theorem law_holds.tw6765152471904792315 : True := trivial
theorem law_holds.tw6776455111828631412 : True := trivial
theorem law_holds.tw6860709855171689206 : True := trivial
theorem law_holds.tw6861490101519172755 : True := trivial
theorem law_holds.tw6869992995446874880 : True := trivial
theorem law_holds.tw6881874429007886204 : True := trivial
theorem law_holds.tw6894629897728501357 : True := trivial
theorem law_holds.tw6896717019858035522 : True := trivial
theorem law_holds.tw6934448944433832347 : True := trivial
theorem law_holds.tw699380112222796084 : True := trivial
theorem law_holds.tw7019463264422422977 : True := trivial
theorem law_holds.tw718173064312146323 : True := trivial
theorem law_holds.tw7185456241796803578 : True := trivial
theorem law_holds.tw7221428835167493151 : True := trivial
theorem law_holds.tw724200737284857819 : True := trivial
theorem law_holds.tw7304591109411159013 : True := trivial
theorem law_holds.tw7356724547972884604 : True := trivial
theorem law_holds.tw7407239408455114201 : True := trivial
theorem law_holds.tw7408322871517469003 : True := trivial
theorem law_holds.tw745255978533919091 : True := trivial
theorem law_holds.tw7472407996622490835 : True := trivial
theorem law_holds.tw7497986649931050792 : True := trivial
theorem law_holds.tw7636989558263936852 : True := trivial
theorem law_holds.tw7696488724909661519 : True := trivial
theorem law_holds.tw7769649832755249146 : True := trivial
theorem law_holds.tw7820799176418779761 : True := trivial
theorem law_holds.tw784011647948385275 : True := trivial
theorem law_holds.tw7910590604623066228 : True := trivial
theorem law_holds.tw8094923601093572598 : True := trivial
theorem law_holds.tw8176227357466254829 : True := trivial
theorem law_holds.tw8191475993861738794 : True := trivial
theorem law_holds.tw8249079356659094474 : True := trivial
theorem law_holds.tw8266603773606604290 : True := trivial
theorem law_holds.tw8285764192309689115 : True := trivial
theorem law_holds.tw8330938851228082562 : True := trivial
theorem law_holds.tw8441880690091102137 : True := trivial
theorem law_holds.tw8472228645029834797 : True := trivial
theorem law_holds.tw8514742172934523775 : True := trivial
theorem law_holds.tw8549365171731915398 : True := trivial
theorem law_holds.tw8553002610548859549 : True := trivial
theorem law_holds.tw8570087061310353148 : True := trivial
theorem law_holds.tw8652346329174877282 : True := trivial
theorem law_holds.tw8720880381367431298 : True := trivial
theorem law_holds.tw8763168800255643514 : True := trivial
theorem law_holds.tw8785698371604719795 : True := trivial
theorem law_holds.tw8835965917227929528 : True := trivial
theorem law_holds.tw8854015012368427407 : True := trivial
theorem law_holds.tw8909828626151137519 : True := trivial
theorem law_holds.tw8957123355933967898 : True := trivial
theorem law_holds.tw8970147916757833333 : True := trivial
theorem law_holds.tw8984712037535005518 : True := trivial
theorem law_holds.tw9013377322688217293 : True := trivial
theorem law_holds.tw9069877914133315304 : True := trivial
theorem law_holds.tw907578622648922086 : True := trivial
theorem law_holds.tw9168033884955339765 : True := trivial
theorem law_holds.tw9184033795430018204 : True := trivial
theorem law_holds.tw9207643191828677137 : True := trivial
theorem law_holds.tw9255152265573255198 : True := trivial
theorem law_holds.tw926570990666696690 : True := trivial
theorem law_holds.tw9288214680346807717 : True := trivial
theorem law_holds.tw9423440377400516374 : True := trivial
theorem law_holds.tw9552830710289189752 : True := trivial
theorem law_holds.tw9606376775287448836 : True := trivial
theorem law_holds.tw9682718004065560343 : True := trivial
theorem law_holds.tw9843604407834444796 : True := trivial
theorem law_holds.tw9849722394096787677 : True := trivial
theorem law_holds.tw9875236377963488844 : True := trivial
theorem law_holds.tw9889521400790421688 : True := trivial
theorem law_holds.tw9992725586745946429 : True := trivial

set_option Elab.async true in
theorem law_holds : PySem.Challenge.rw_rh0161_01.Holds := by
  w_on
  o_law
  o_head (kmHook Mine.hd.heap_1_3 [nat_lit 2, nat_lit 3, nat_lit 15, nat_lit 22, nat_lit 24, nat_lit 25, nat_lit 27, nat_lit 28, nat_lit 29, nat_lit 30, nat_lit 31, nat_lit 32, nat_lit 35, nat_lit 37, nat_lit 38, nat_lit 40, nat_lit 41, nat_lit 42, nat_lit 44, nat_lit 45, nat_lit 47, nat_lit 48, nat_lit 49, nat_lit 51, nat_lit 52, nat_lit 54, nat_lit 55, nat_lit 56, nat_lit 58, nat_lit 59, nat_lit 61, nat_lit 62, nat_lit 63, nat_lit 65, nat_lit 66, nat_lit 68, nat_lit 69, nat_lit 70, nat_lit 72, nat_lit 73, nat_lit 75, nat_lit 76, nat_lit 77, nat_lit 79, nat_lit 80, nat_lit 82, nat_lit 83, nat_lit 84, nat_lit 86, nat_lit 87, nat_lit 89, nat_lit 90, nat_lit 91, nat_lit 93, nat_lit 94, nat_lit 96, nat_lit 97, nat_lit 105, nat_lit 106, nat_lit 108, nat_lit 109, nat_lit 111, nat_lit 112, nat_lit 113, nat_lit 115, nat_lit 116, nat_lit 118, nat_lit 119, nat_lit 120, nat_lit 122, nat_lit 123, nat_lit 125, nat_lit 126, nat_lit 127, nat_lit 129, nat_lit 130, nat_lit 132, nat_lit 133, nat_lit 134, nat_lit 136, nat_lit 137, nat_lit 139, nat_lit 140, nat_lit 141, nat_lit 143, nat_lit 144, nat_lit 146, nat_lit 147, nat_lit 148, nat_lit 150, nat_lit 151, nat_lit 153, nat_lit 154, nat_lit 155, nat_lit 157, nat_lit 158, nat_lit 160, nat_lit 161, nat_lit 162, nat_lit 164, nat_lit 165, nat_lit 167, nat_lit 168, nat_lit 169, nat_lit 171, nat_lit 172, nat_lit 174, nat_lit 175, nat_lit 176, nat_lit 178, nat_lit 179, nat_lit 181, nat_lit 182, nat_lit 183, nat_lit 185, nat_lit 186, nat_lit 188, nat_lit 189, nat_lit 190, nat_lit 192, nat_lit 193, nat_lit 195, nat_lit 196, nat_lit 197, nat_lit 199, nat_lit 200, nat_lit 202, nat_lit 203, nat_lit 204, nat_lit 206, nat_lit 207, nat_lit 209, nat_lit 210, nat_lit 211, nat_lit 213, nat_lit 214, nat_lit 216, nat_lit 217, nat_lit 218, nat_lit 220, nat_lit 221, nat_lit 223, nat_lit 224, nat_lit 225, nat_lit 227, nat_lit 228, nat_lit 230, nat_lit 231, nat_lit 232, nat_lit 234, nat_lit 235, nat_lit 237, nat_lit 238, nat_lit 239, nat_lit 242, nat_lit 243, nat_lit 244, nat_lit 246, nat_lit 247, nat_lit 249, nat_lit 250, nat_lit 251, nat_lit 252, nat_lit 253, nat_lit 254, nat_lit 255, nat_lit 258, nat_lit 260, nat_lit 261, nat_lit 263, nat_lit 264, nat_lit 265, nat_lit 267, nat_lit 268, nat_lit 270, nat_lit 271, nat_lit 272, nat_lit 275, nat_lit 276, nat_lit 277, nat_lit 279, nat_lit 280, nat_lit 282, nat_lit 283, nat_lit 284, nat_lit 286, nat_lit 287, nat_lit 289, nat_lit 290] (fun _ => by kernel_rfl) [nat_lit 278])
  (case hw => w_witness2)
  k_go0
  all_goals (try k_fold)
  rename_i h₁ X' T' K' F' lifted codeHd N' l0
  repeat ((fail_if_success (with_reducible show wpAny _ _ (call (Value.ref 276) _) _ _ _)); first | (k_unfold; (try dsimp only)) | walk1 | (dsimp only; walk1) | (leave1; walk_say "STEP leave1"; (try dsimp only)))
  rename_i D' ws' h1 hI hC hL l1a l' h2 F2 N2 l1b
  have hws : ws'.length ≤ 63 := by have := hI.length; omega
  k_dflt (refine' c_drawn ?zB ?zF ?zX ?zN hI hws ?hD l1a ?zT ?hk ?hdp ?hun ?ret; (case zB => k_asm); (case zF => k_asm); (case zX => k_asm); (case zN => k_asm); (case hD => exact l1b); (case zT => k_asm); (case hk => exact rfl); (case hdp => (simp only [depth_caller]; decide)); (case hun => (simp only [units_caller]; decide)))
  intro form size many met v t1 t2 t3 h3 tk3 g1 g2 g3 g4 g5 F3 N3
  obtain ⟨r, k, hS0, hS1, hle, hk1, hk2, htx, hpt, hz⟩ := good_at (met := met) g1 g2 g3 g4 g5
  generalize txtOf form size met = txt at N3 hS0 hS1 htx
  generalize patOf form many = pat at N3 hS0 hS1 hpt hz
  generalize leastOf form size many met = least at N3 hle
  clear hI hws F2 N2 l1a l1b hL hC
  (try dsimp only); (try k_fold)
  repeat ((fail_if_success (with_reducible show wpAny _ _ (call (Value.ref 253) _) _ _ _)); first | (k_unfold; (try dsimp only)) | walk1 | (dsimp only; walk1) | (leave1; walk_say "STEP leave1"; (try dsimp only)))
  k_dflt (refine' c_new2 ?k1 ?k2 ?k3 ?k4 ?k5 ?kK ?hdp ?hun hz ?_; (case k1 => k_asm); (case k2 => k_asm); (case k3 => k_asm); (case k4 => k_asm); (case k5 => k_asm); (case kK => exact rfl); (case hdp => (simp only [depth_caller]; decide)); (case hun => (simp only [units_caller]; decide)))
  intro M D κ t4 h4 tk4 hκ hlt hDM F4 N4
  obtain ⟨q1, q2, q3, q4, q5, q6, q7, q8, q9, qa, qb, qc, kt, kst, kle, klv⟩ := κ
  dsimp only at hκ
  subst hκ
  dsimp only [mLed, mEs] at N4
  (try dsimp only); (try k_fold)
  repeat ((fail_if_success (with_reducible show wpAny _ _ (call (Value.ref 250) _) _ _ _)); first | (k_unfold; (try dsimp only)) | walk1 | (dsimp only; walk1) | (leave1; walk_say "STEP leave1"; (try dsimp only)))
  k_dflt (refine' c_search (@count_none _ _ _ _ _ _ _ _ _ _ [(v, tupO [.bytes txt.toArray t1, .bytes pat.toArray t2, .int (least : Int) t3]), (278, tabObj #[])]) (by omega) htx hpt hS0 (κ := ⟨q1, q2, q3, q4, q5, q6, q7, q8, q9, qa, qb, qc, _, kst, kle, klv⟩) (d := 0) (t4 := t4) ?k1 ?k2 ?k3 ?k4 ?k5 ?ykK ?hdp ?hun ?yq0 ?yhc ?yhr ?yhm (Nat.le_refl 0) ?yretT ?yretN ?yrai; (case k1 => k_asm); (case k2 => k_asm); (case k3 => k_asm); (case k4 => exact N4); (case k5 => k_asm); (case ykK => exact rfl); (case hdp => (simp only [depth_caller]; omega)); (case hun => (simp only [units_caller]; omega)); (case yq0 => rfl); (case yhc => exact ⟨rfl, rfl⟩); (case yhr => exact fun p hp => Nat.ne_of_lt (hlt p hp)); (case yhm => exact Nat.ne_of_gt hDM))
  case yrai => intro hlt8; exact absurd hlt8 (by decide)
  case yretN =>
    intro _ hx h5 tk5 rest5 hc5 F5 N5
    obtain ⟨_, hr5⟩ := hc5
    subst hr5
    clear F4 N4 hlt hDM
    (try dsimp only); (try k_fold)
    repeat ((fail_if_success (with_reducible show wpAny _ _ (call (Value.ref 283) _) _ _ _)); first | (k_unfold; (try dsimp only)) | walk1 | (dsimp only; walk1) | (leave1; walk_say "STEP leave1"; (try dsimp only)))
    k_dflt (refine' c_counted (lf := 1000000) (rest := []) ?B6 ?F6 ?X6 ?N6  codeHd ?h2786 ?T6 ?hk6 ?hdp6 ?hun6 hz ?hlf6 hpt htx hS1 ?retT6 ?retN6 ?rai6; (case B6 => k_asm); (case F6 => k_asm); (case X6 => k_asm); (case N6 => exact cb_drop (by assumption) (by (intro q hq; rcases List.mem_cons.mp hq with rfl | hq; (focus repeat (first | exact List.mem_cons_self | apply List.mem_cons_of_mem)); exact absurd hq List.not_mem_nil))); (case h2786 => exact fun p hp => absurd hp List.not_mem_nil); (case T6 => k_asm); (case hk6 => exact rfl); (case hdp6 => (simp only [depth_caller]; decide)); (case hun6 => (simp only [units_caller]; decide)); (case hlf6 => omega))
    case rai6 => intro h6; omega
    case retT6 => intro _ x hx'; rw [hx] at hx'; cases hx'
    intro _ _ v6 c6 oc6 vs6 tq6 tt6 h6 tk6 d6 e6 F6 N6
    (try dsimp only); (try k_fold)
    repeat ((fail_if_success (with_reducible show wpAny _ _ (call (Value.ref 283) _) _ _ _)); first | (k_unfold; (try dsimp only)) | walk1 | (dsimp only; walk1) | (leave1; walk_say "STEP leave1"; (try dsimp only)))
    k_dflt (refine' c_counted2 (lf := k) (rest := []) ?B7 ?F7 ?X7 ?N7 d6 e6 codeHd ?h2787 ?T7 ?hk7 ?hdp7 ?hun7 hz ?hlf7 hpt htx hS1 ?retT7 ?retN7 ?rai7; (case B7 => k_asm); (case F7 => k_asm); (case X7 => k_asm); (case N7 => exact cb_drop (by assumption) (by (intro q hq; rcases List.mem_cons.mp hq with rfl | hq; (focus repeat (first | exact List.mem_cons_self | apply List.mem_cons_of_mem)); rcases List.mem_cons.mp hq with rfl | hq; (focus repeat (first | exact List.mem_cons_self | apply List.mem_cons_of_mem)); exact absurd hq List.not_mem_nil))); (case h2787 => exact fun p hp => absurd hp List.not_mem_nil); (case T7 => k_asm); (case hk7 => exact rfl); (case hdp7 => (simp only [depth_caller]; decide)); (case hun7 => (simp only [units_caller]; decide)); (case hlf7 => omega))
    case rai7 => intro h7; omega
    case retT7 => intro _ x hx'; rw [hx] at hx'; cases hx'
    intro _ _ v7 tt7 h7 tk7 F7 N7
    (try dsimp only); (try k_fold)
    repeat ((fail_if_success (with_reducible show wpAny _ _ (call (Value.ref 283) _) _ _ _)); first | (k_unfold; (try dsimp only)) | walk1 | (dsimp only; walk1) | (leave1; walk_say "STEP leave1"; (try dsimp only)))
    have ek : ((k : Nat) : Int) - 1 = ((k - 1 : Nat) : Int) := by omega
    rw [ek]
    k_dflt (refine' c_counted2 (lf := (k - 1)) (rest := []) ?B8 ?F8 ?X8 ?N8 d6 e6 codeHd ?h2788 ?T8 ?hk8 ?hdp8 ?hun8 hz ?hlf8 hpt htx hS1 ?retT8 ?retN8 ?rai8; (case B8 => k_asm); (case F8 => k_asm); (case X8 => k_asm); (case N8 => exact cb_drop (by assumption) (by (intro q hq; rcases List.mem_cons.mp hq with rfl | hq; (focus repeat (first | exact List.mem_cons_self | apply List.mem_cons_of_mem)); rcases List.mem_cons.mp hq with rfl | hq; (focus repeat (first | exact List.mem_cons_self | apply List.mem_cons_of_mem)); exact absurd hq List.not_mem_nil))); (case h2788 => exact fun p hp => absurd hp List.not_mem_nil); (case T8 => k_asm); (case hk8 => exact rfl); (case hdp8 => (simp only [depth_caller]; decide)); (case hun8 => (simp only [units_caller]; decide)); (case hlf8 => omega))
    case retT8 => intro h8; omega
    case retN8 => intro h8; omega
    intro _ v8 tt8 h8 tk8 F8 N8
    (try dsimp only); (try k_fold)
    k_steps
  case yretT =>
    intro _ x hx t9 ta tb h5 tk5 rest5 hc5 F5 N5
    obtain ⟨_, hr5⟩ := hc5
    subst hr5
    clear F4 N4 hlt hDM
    (try dsimp only); (try k_fold)
    repeat ((fail_if_success (with_reducible show wpAny _ _ (call (Value.ref 283) _) _ _ _)); first | (k_unfold; (try dsimp only)) | walk1 | (dsimp only; walk1) | (leave1; walk_say "STEP leave1"; (try dsimp only)))
    k_dflt (refine' c_counted (lf := 1000000) (rest := [(t9, tupO [.int x.1 ta, .int x.2 tb])]) ?B16 ?F16 ?X16 ?N16  codeHd ?h27816 ?T16 ?hk16 ?hdp16 ?hun16 hz ?hlf16 hpt htx hS1 ?retT16 ?retN16 ?rai16; (case B16 => k_asm); (case F16 => k_asm); (case X16 => k_asm); (case N16 => exact cb_drop (by assumption) (by (intro q hq; rcases List.mem_cons.mp hq with rfl | hq; (focus repeat (first | exact List.mem_cons_self | apply List.mem_cons_of_mem)); rcases List.mem_cons.mp hq with rfl | hq; (focus repeat (first | exact List.mem_cons_self | apply List.mem_cons_of_mem)); exact absurd hq List.not_mem_nil))); (case h27816 => exact neTab (by assumption) (by focus repeat (first | exact List.mem_cons_self | apply List.mem_cons_of_mem)) (by focus repeat (first | exact List.mem_cons_self | apply List.mem_cons_of_mem))); (case T16 => k_asm); (case hk16 => exact rfl); (case hdp16 => (simp only [depth_caller]; decide)); (case hun16 => (simp only [units_caller]; decide)); (case hlf16 => omega))
    case rai16 => intro h6; omega
    case retN16 => intro _ hx'; rw [hx] at hx'; cases hx'
    intro _ x6 hx6 v6 w6 c6 oc6 vs6 tq6 ua6 ub6 tt6 h6 tk6 d6 e6 F6 N6
    obtain rfl : x = x6 := Option.some.inj (hx.symm.trans hx6)
    (try dsimp only); (try k_fold)
    repeat ((fail_if_success (with_reducible show wpAny _ _ (call (Value.ref 283) _) _ _ _)); first | (k_unfold; (try dsimp only)) | walk1 | (dsimp only; walk1) | (leave1; walk_say "STEP leave1"; (try dsimp only)))
    k_dflt (refine' c_counted2 (lf := k) (rest := [(t9, tupO [.int x.1 ta, .int x.2 tb])]) ?B17 ?F17 ?X17 ?N17 d6 e6 codeHd ?h27817 ?T17 ?hk17 ?hdp17 ?hun17 hz ?hlf17 hpt htx hS1 ?retT17 ?retN17 ?rai17; (case B17 => k_asm); (case F17 => k_asm); (case X17 => k_asm); (case N17 => exact cb_drop (by assumption) (by (intro q hq; rcases List.mem_cons.mp hq with rfl | hq; (focus repeat (first | exact List.mem_cons_self | apply List.mem_cons_of_mem)); rcases List.mem_cons.mp hq with rfl | hq; (focus repeat (first | exact List.mem_cons_self | apply List.mem_cons_of_mem)); rcases List.mem_cons.mp hq with rfl | hq; (focus repeat (first | exact List.mem_cons_self | apply List.mem_cons_of_mem)); exact absurd hq List.not_mem_nil))); (case h27817 => exact neTab (by assumption) (by focus repeat (first | exact List.mem_cons_self | apply List.mem_cons_of_mem)) (by focus repeat (first | exact List.mem_cons_self | apply List.mem_cons_of_mem))); (case T17 => k_asm); (case hk17 => exact rfl); (case hdp17 => (simp only [depth_caller]; decide)); (case hun17 => (simp only [units_caller]; decide)); (case hlf17 => omega))
    case rai17 => intro h7; omega
    case retN17 => intro _ hx'; rw [hx] at hx'; cases hx'
    intro _ x7 hx7 v7 w7 ua7 ub7 tt7 h7 tk7 F7 N7
    obtain rfl : x = x7 := Option.some.inj (hx.symm.trans hx7)
    (try dsimp only); (try k_fold)
    repeat ((fail_if_success (with_reducible show wpAny _ _ (call (Value.ref 283) _) _ _ _)); first | (k_unfold; (try dsimp only)) | walk1 | (dsimp only; walk1) | (leave1; walk_say "STEP leave1"; (try dsimp only)))
    have ek : ((k : Nat) : Int) - 1 = ((k - 1 : Nat) : Int) := by omega
    rw [ek]
    k_dflt (refine' c_counted2 (lf := (k - 1)) (rest := [(t9, tupO [.int x.1 ta, .int x.2 tb])]) ?B18 ?F18 ?X18 ?N18 d6 e6 codeHd ?h27818 ?T18 ?hk18 ?hdp18 ?hun18 hz ?hlf18 hpt htx hS1 ?retT18 ?retN18 ?rai18; (case B18 => k_asm); (case F18 => k_asm); (case X18 => k_asm); (case N18 => exact cb_drop (by assumption) (by (intro q hq; rcases List.mem_cons.mp hq with rfl | hq; (focus repeat (first | exact List.mem_cons_self | apply List.mem_cons_of_mem)); rcases List.mem_cons.mp hq with rfl | hq; (focus repeat (first | exact List.mem_cons_self | apply List.mem_cons_of_mem)); rcases List.mem_cons.mp hq with rfl | hq; (focus repeat (first | exact List.mem_cons_self | apply List.mem_cons_of_mem)); exact absurd hq List.not_mem_nil))); (case h27818 => exact neTab (by assumption) (by focus repeat (first | exact List.mem_cons_self | apply List.mem_cons_of_mem)) (by focus repeat (first | exact List.mem_cons_self | apply List.mem_cons_of_mem))); (case T18 => k_asm); (case hk18 => exact rfl); (case hdp18 => (simp only [depth_caller]; decide)); (case hun18 => (simp only [units_caller]; decide)); (case hlf18 => omega))
    case retT18 => intro h8; omega
    case retN18 => intro h8; omega
    intro _ v8 tt8 h8 tk8 F8 N8
    (try dsimp only); (try k_fold)
    k_steps

end L1
end Mine
theorem PySem.Challenge.cw_rh0161_01_holds : PySem.Challenge.rw_rh0161_01.Holds :=
  Mine.law_holds
