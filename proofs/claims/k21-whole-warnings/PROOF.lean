import PyProof.Rows.All
import Wide.All
import OpenK.AllK
import Wide.FinOn
import HandS.Base
import HandS.Call
import HandS.List
import HandS.Ends
import HandS.Words
import HandS.WordsList
import HandS.Comp
import HandS.NoneIn
import HandS.Conv
import HandS.IsInst
import HandS.Codes
import PySem.Challenge.RW_warnloop_k21_whole_warnings_name_askings
set_option Elab.async false
set_option maxRecDepth 100000
set_option maxHeartbeats 4000000
/-! Seekers by marks: the plain mirror of one asking, what stands in the heap, what each def promises. -/
namespace K21
open PySem L2
/-! ### the text by places -/
def top (i : Nat) : Stmt := PySem.Challenge.pw_warnloop_k21_whole_warnings_name_askings.main.body.getD i (.Pass ⟨0, 0, 0, 0⟩)
abbrev sInit : Stmt := inClass (top 4) 0
abbrev sAsk : Stmt := inClass (top 4) 1
abbrev sCount : Stmt := inClass (top 4) 2
abbrev sDrift : Stmt := inClass (top 4) 3
abbrev sReset : Stmt := inClass (top 4) 4
abbrev sBase : Stmt := inClass (top 4) 5
abbrev sWarned : Stmt := inClass (top 4) 6
abbrev sBag : Stmt := top 6
abbrev sTake : Stmt := top 7
abbrev sWhole : Stmt := top 8
abbrev sMarks : Stmt := top 9
abbrev sAre : Stmt := top 10
abbrev sAsked : Stmt := top 11
abbrev sTruth : Stmt := top 12
abbrev sLevel : Stmt := top 13
abbrev sNamed : Stmt := top 14
abbrev sLaw : Stmt := top 15
/-! ### the mirror -/
structure Sk where
  f1 : Int
  dy : Int
  nt : Int
  num : Int
  base : Option Int
  over : Bool
  row : Int
  calm : Int
  warned : Bool
inductive Ev where
  | first (n : Int)
  | warn (n : Int)
  | dirt (b : Int)
def oV : Option Int → V
  | none => .non
  | some b => .int b
def base0 (m : Sk) (lv : Int) : Int := match m.base with
  | none => lv
  | some b => b
def isNew (m : Sk) : Bool := match m.base with
  | none => true
  | some _ => false
def rise (m : Sk) (lv : Int) : Int := lv - base0 m lv
def ovr (m : Sk) (lv : Int) : Bool := decide (m.f1 ≤ rise m lv)
def mkOf (m : Sk) (nt : Bool) : Int := if nt = true then m.nt else m.dy
def abv (m : Sk) (lv : Int) (nt : Bool) : Bool := decide (mkOf m nt ≤ rise m lv)
def rowOf (r : Int) (a : Bool) : Int := if a = true then r + 1 else 0
def row1 (m : Sk) (lv : Int) (nt : Bool) : Int := rowOf m.row (abv m lv nt)
def wrn (m : Sk) (lv : Int) (nt : Bool) : Bool := decide (3 ≤ row1 m lv nt) && !m.warned
def calmOf (c : Int) (ov : Bool) : Int := if ov = true then 0 else if c + 1 < 4 then c + 1 else 0
def baseOf (b c lv : Int) (ov : Bool) : Int := if ov = true then b else if c + 1 < 4 then b else if b < lv then b + 1 else if lv < b then b - 1 else b
def base1 (m : Sk) (lv : Int) : Int := baseOf (base0 m lv) m.calm lv (ovr m lv)
def drt (m : Sk) (lv : Int) : Bool := decide (100 ≤ base1 m lv) && (isNew m || decide (base0 m lv < 100))
def evF (m : Sk) (lv : Int) : List Ev := if (ovr m lv && !m.over) = true then [.first m.num] else []
def evW (m : Sk) (lv : Int) (nt : Bool) : List Ev := if wrn m lv nt = true then [.warn m.num] else []
def evD (m : Sk) (lv : Int) : List Ev := if drt m lv = true then [.dirt (base1 m lv)] else []
def evs (m : Sk) (lv : Int) (nt : Bool) : List Ev := evF m lv ++ evW m lv nt ++ evD m lv
def warn1 (m : Sk) (lv : Int) (nt : Bool) : Bool := m.warned || decide (3 ≤ row1 m lv nt)
def step (m : Sk) (lv : Int) (nt : Bool) : Sk :=
  { f1 := m.f1, dy := m.dy, nt := m.nt, num := m.num + 1, base := some (base1 m lv), over := ovr m lv, row := row1 m lv nt, calm := calmOf m.calm (ovr m lv), warned := warn1 m lv nt }
def resetOf (m : Sk) : Sk := { m with row := 0, warned := false }
/-! ### an object's attributes: the keys once, the values by place -/
def keys : List Str := ["first_mark", "day_mark", "night_mark", "number", "level_base", "over_first", "above_run", "calm_run", "has_warned"]
theorem keys_nd : keys.Nodup := by decide +kernel
def vals (m : Sk) : List V := [.int m.f1, .int m.dy, .int m.nt, .int m.num, oV m.base, .bl m.over, .int m.row, .int m.calm, .bl m.warned]
def flds (m : Sk) : List (Str × V) := keys.zip (vals m)
theorem zip_no : ∀ (ks : List Str) (vs : List V) (f : Str), f ∉ ks → (ks.zip vs).lookup f = none
  | [], _, _, _ => by simp
  | _ :: _, [], _, _ => by simp
  | k :: ks, v :: vs, f, h => by
    have h1 : f ≠ k := fun e => h (e ▸ List.mem_cons_self)
    have h2 : f ∉ ks := fun e => h (List.mem_cons_of_mem _ e)
    have hb : (f == k) = false := beq_eq_false_iff_ne.mpr h1
    simp only [List.zip_cons_cons, List.lookup, hb]
    exact zip_no ks vs f h2
theorem zip_at : ∀ (ks : List Str) (vs : List V) (i : Nat) (f : Str) (v : V), ks.Nodup → ks[i]? = some f → vs[i]? = some v → (ks.zip vs).lookup f = some v
  | [], _, _, _, _, _, h, _ => by simp at h
  | _ :: _, [], _, _, _, _, _, h => by simp at h
  | k :: ks, w :: vs, 0, f, v, _, h, h2 => by
    have e : k = f := by simpa using h
    have e2 : w = v := by simpa using h2
    subst e e2
    simp [List.zip_cons_cons, List.lookup]
  | k :: ks, w :: vs, i + 1, f, v, nd, h, h2 => by
    have hk : ks[i]? = some f := by simpa using h
    have hv : vs[i]? = some v := by simpa using h2
    have nd' := List.nodup_cons.mp nd
    have hm : f ∈ ks := List.mem_of_getElem? hk
    have h1 : f ≠ k := fun e => nd'.1 (e ▸ hm)
    have hb : (f == k) = false := beq_eq_false_iff_ne.mpr h1
    simp only [List.zip_cons_cons, List.lookup, hb]
    exact zip_at ks vs i f v nd'.2 hk hv
theorem zip_put : ∀ (ks : List Str) (vs : List V) (i : Nat) (f : Str) (v : V), ks.Nodup → ks[i]? = some f → i < vs.length → putF f v (ks.zip vs) = ks.zip (vs.set i v)
  | [], _, _, _, _, _, h, _ => by simp at h
  | _ :: _, [], _, _, _, _, _, h => by simp at h
  | k :: ks, w :: vs, 0, f, v, _, h, _ => by
    have e : k = f := by simpa using h
    subst e
    simp [List.zip_cons_cons, putF]
  | k :: ks, w :: vs, i + 1, f, v, nd, h, h2 => by
    have hk : ks[i]? = some f := by simpa using h
    have nd' := List.nodup_cons.mp nd
    have hm : f ∈ ks := List.mem_of_getElem? hk
    have h1 : ¬ k = f := fun e => nd'.1 (e ▸ hm)
    have h3 : i < vs.length := by simpa using h2
    simp only [List.zip_cons_cons, putF, if_neg h1, List.set_cons_succ]
    rw [zip_put ks vs i f v nd'.2 hk h3]
theorem put_new : ∀ (fs : List (Str × V)) (f : Str) (v : V), f ∉ fs.map (·.1) → putF f v fs = fs ++ [(f, v)]
  | [], _, _, _ => rfl
  | (k, w) :: fs, f, v, h => by
    have h1 : ¬ k = f := fun e => h (by simp [e])
    have h2 : f ∉ fs.map (·.1) := fun e => h (by simp only [List.map_cons, List.mem_cons]; exact Or.inr e)
    simp only [putF, if_neg h1, List.cons_append]
    rw [put_new fs f v h2]
theorem flds_len (m : Sk) : (flds m).length < 1000 := by show 9 < 1000; decide
theorem flds_no (m : Sk) {f : Str} (h : f ∉ keys) : (flds m).lookup f = none := zip_no _ _ _ h
theorem flds_at (m : Sk) {f : Str} {v : V} (i : Nat) (h1 : keys[i]? = some f) (h2 : (vals m)[i]? = some v) : (flds m).lookup f = some v := zip_at _ _ i _ _ keys_nd h1 h2
theorem flds_put (m m' : Sk) {f : Str} {v : V} (i : Nat) (h1 : keys[i]? = some f) (hi : i < 9) (h2 : (vals m).set i v = vals m') : putF f v (flds m) = flds m' := by
  unfold flds
  rw [zip_put keys (vals m) i f v keys_nd h1 hi, h2]
theorem at_first (m : Sk) : (flds m).lookup ("first_mark" : Str) = some (.int m.f1) := flds_at m 0 rfl rfl
theorem at_day (m : Sk) : (flds m).lookup ("day_mark" : Str) = some (.int m.dy) := flds_at m 1 rfl rfl
theorem at_night (m : Sk) : (flds m).lookup ("night_mark" : Str) = some (.int m.nt) := flds_at m 2 rfl rfl
theorem at_num (m : Sk) : (flds m).lookup ("number" : Str) = some (.int m.num) := flds_at m 3 rfl rfl
theorem at_base (m : Sk) : (flds m).lookup ("level_base" : Str) = some (oV m.base) := flds_at m 4 rfl rfl
theorem at_over (m : Sk) : (flds m).lookup ("over_first" : Str) = some (.bl m.over) := flds_at m 5 rfl rfl
theorem at_row (m : Sk) : (flds m).lookup ("above_run" : Str) = some (.int m.row) := flds_at m 6 rfl rfl
theorem at_calm (m : Sk) : (flds m).lookup ("calm_run" : Str) = some (.int m.calm) := flds_at m 7 rfl rfl
theorem at_warned (m : Sk) : (flds m).lookup ("has_warned" : Str) = some (.bl m.warned) := flds_at m 8 rfl rfl
theorem put_num (m : Sk) (z : Int) : putF ("number" : Str) (.int z) (flds m) = flds { m with num := z } := flds_put m _ 3 rfl (by decide) rfl
theorem put_base (m : Sk) (z : Int) : putF ("level_base" : Str) (.int z) (flds m) = flds { m with base := some z } := flds_put m _ 4 rfl (by decide) rfl
theorem put_over (m : Sk) (b : Bool) : putF ("over_first" : Str) (.bl b) (flds m) = flds { m with over := b } := flds_put m _ 5 rfl (by decide) rfl
theorem put_row (m : Sk) (z : Int) : putF ("above_run" : Str) (.int z) (flds m) = flds { m with row := z } := flds_put m _ 6 rfl (by decide) rfl
theorem put_calm (m : Sk) (z : Int) : putF ("calm_run" : Str) (.int z) (flds m) = flds { m with calm := z } := flds_put m _ 7 rfl (by decide) rfl
theorem put_warned (m : Sk) (b : Bool) : putF ("has_warned" : Str) (.bl b) (flds m) = flds { m with warned := b } := flds_put m _ 8 rfl (by decide) rfl
def sk0 (f d n : Int) : Sk := { f1 := f, dy := d, nt := n, num := 0, base := none, over := false, row := 0, calm := 0, warned := false }
/-! ### what is kept -/
/-- all that was tracked stands as it was, but what is at p -/
def Kp (H H' : Hp) (p : Addr) : Prop := ∀ b o, H b = some o → b ≠ p → H' b = some o
theorem Kp.refl (H : Hp) (p : Addr) : Kp H H p := fun _ _ h _ => h
theorem Kp.trans {H H1 H2 : Hp} {p : Addr} (a : Kp H H1 p) (b : Kp H1 H2 p) : Kp H H2 p := fun c o h n => b c o (a c o h n) n
theorem Kp.of {H H' : Hp} {p : Addr} (a : Same H H') : Kp H H' p := fun c o h _ => a c o h
theorem Kp.upd (H : Hp) (p : Addr) (o : HO) : Kp H (L2.upd H p o) p := fun c u h n => by rw [upd_ne n]; exact h
theorem Kp.new {H : Hp} {p q : Addr} {o : HO} (h : H q = none) : Kp H (L2.upd H q o) p := fun c u e _ => by rw [upd_ne (ne_of_none e h)]; exact e
theorem Same.new {H : Hp} {q : Addr} {o : HO} (h : H q = none) : Same H (L2.upd H q o) := fun c u e => by rw [upd_ne (ne_of_none e h)]; exact e
/-- a new object that is changed later: what stood before stands -/
theorem Same.mut {H H' : Hp} {q : Addr} {o : HO} (s : Same H H') (h : H q = none) : Same H (L2.upd H' q o) := fun c u e => by rw [upd_ne (ne_of_none e h)]; exact s c u e
theorem Kp.mut {H H' : Hp} {p q : Addr} {o : HO} (s : Kp H H' p) (h : H q = none) : Kp H (L2.upd H' q o) p := fun c u e n => by rw [upd_ne (ne_of_none e h)]; exact s c u e n
theorem Kp.free {H H' : Hp} {p q : Addr} {o : HO} (s : Kp H H' p) (hp : H' p = some o) (h : H' q = none) : H q = none := by
  have n : q ≠ p := fun e => by rw [e, hp] at h; cases h
  cases e : H q with
  | none => rfl
  | some u => rw [s q u e n] at h; cases h
/-! ### what is told -/
inductive EvAt (H : Hp) : V → Ev → Prop
  | first {a : Addr} {n : Int} : H a = some (.tup [.str "first", .int n]) → EvAt H (.ref a) (.first n)
  | warn {a b : Addr} {n : Int} : H a = some (.tup [.str "warning", .ref b]) → H b = some (.tup [.int (n - 2), .int (n - 1), .int n]) → EvAt H (.ref a) (.warn n)
  | dirt {a : Addr} {n : Int} : H a = some (.tup [.str "dirt", .int n]) → EvAt H (.ref a) (.dirt n)
theorem EvAt.same {H H' : Hp} {v : V} {e : Ev} (s : ∀ b xs, H b = some (.tup xs) → H' b = some (.tup xs)) (h : EvAt H v e) : EvAt H' v e := by
  cases h with
  | first h => exact .first (s _ _ h)
  | warn h g => exact .warn (s _ _ h) (s _ _ g)
  | dirt h => exact .dirt (s _ _ h)
inductive EvsAt (H : Hp) : List V → List Ev → Prop
  | nil : EvsAt H [] []
  | cons {v : V} {vs : List V} {e : Ev} {es : List Ev} : EvAt H v e → EvsAt H vs es → EvsAt H (v :: vs) (e :: es)
theorem EvsAt.same {H H' : Hp} (s : ∀ b xs, H b = some (.tup xs) → H' b = some (.tup xs)) : ∀ {vs : List V} {es : List Ev}, EvsAt H vs es → EvsAt H' vs es
  | _, _, .nil => .nil
  | _, _, .cons h t => .cons (h.same s) (EvsAt.same s t)
theorem EvsAt.snoc {H : Hp} {v : V} {e : Ev} (h : EvAt H v e) : ∀ {vs : List V} {es : List Ev}, EvsAt H vs es → EvsAt H (vs ++ [v]) (es ++ [e])
  | _, _, .nil => .cons h .nil
  | _, _, .cons g t => .cons g (EvsAt.snoc h t)
theorem EvsAt.length {H : Hp} : ∀ {vs : List V} {es : List Ev}, EvsAt H vs es → vs.length = es.length
  | _, _, .nil => rfl
  | _, _, .cons _ t => by rw [List.length_cons, List.length_cons, EvsAt.length t]
def ToldAt (H : Hp) (t : Addr) (es : List Ev) : Prop := ∃ xs, H t = some (.lst xs) ∧ EvsAt H xs es
theorem ToldAt.same {H H' : Hp} {t : Addr} {es : List Ev} (s : Same H H') (h : ToldAt H t es) : ToldAt H' t es := by
  obtain ⟨xs, h1, h2⟩ := h
  exact ⟨xs, s _ _ h1, h2.same fun b ys e => s _ _ e⟩
/-- what is at p is no list and no tuple, or not the told list: a change there leaves what is told -/
theorem ToldAt.kp {H H' : Hp} {t p : Addr} {es : List Ev} (s : Kp H H' p) (h : ToldAt H t es) (ht : t ≠ p) (hp : ∀ xs, H p ≠ some (.tup xs)) : ToldAt H' t es := by
  obtain ⟨xs, h1, h2⟩ := h
  refine ⟨xs, s _ _ h1 ht, h2.same fun b ys e => s _ _ e fun q => ?_⟩
  rw [q] at e
  exact hp _ e
theorem evs_len (m : Sk) (lv : Int) (nt : Bool) : (evs m lv nt).length ≤ 3 := by
  unfold evs evF evW evD
  split <;> split <;> split <;> simp
end K21

namespace K21
open PySem L2
/-! ### the class as the top has made it -/
structure Txt (K : PySem.W.Frag) (mg : Str → Option Value) (C : Addr) : Prop where
  cl : Cls K C
  nFirst : NoAttr K C "first_mark"
  nDay : NoAttr K C "day_mark"
  nNight : NoAttr K C "night_mark"
  nNum : NoAttr K C "number"
  nBase : NoAttr K C "level_base"
  nOver : NoAttr K C "over_first"
  nRow : NoAttr K C "above_run"
  nCalm : NoAttr K C "calm_run"
  nWarned : NoAttr K C "has_warned"
  mgC : mg "Seeker" = some (.ref C)
  gA : ∃ t, mg "ROW_ABOVE" = some (.int 3 t)
  gC : ∃ t, mg "ROW_CALM" = some (.int 4 t)
  gD : ∃ t, mg "DIRTY" = some (.int 100 t)
  len : mg "len" = none
  abs : mg "abs" = none
  int : mg "int" = none
  bool : mg "bool" = none
  isi : mg "isinstance" = none
  tuple : mg "tuple" = none
  list : mg "list" = none
  range : mg "range" = none
  max : mg "max" = none
  min : mg "min" = none
/-- a seeker m stands at p -/
def SkAt (C : Addr) (H : Hp) (p : Addr) (m : Sk) : Prop := ∃ dx, H p = some (.ins C dx (flds m))
/-! ### promises -/
def spInit (C : Addr) : Sp := fun vs H Q _ => ∃ (p dx q : Addr) (f d n : Int), vs = [.ref p, .ref q] ∧ H p = some (.ins C dx []) ∧ H q = some (.tup [.int f, .int d, .int n]) ∧
  ∀ H' : Hp, Kp H H' p → SkAt C H' p (sk0 f d n) → Q .non H'
def spCount (C : Addr) : Sp := fun vs H Q _ => ∃ (p : Addr) (m : Sk) (a : Bool), vs = [.ref p, .bl a] ∧ SkAt C H p m ∧
  ∀ H' : Hp, Kp H H' p → SkAt C H' p { m with row := rowOf m.row a } → Q .non H'
def spDrift (C : Addr) : Sp := fun vs H Q _ => ∃ (p : Addr) (m : Sk) (b lv : Int) (ov : Bool), vs = [.ref p, .int lv, .bl ov] ∧ SkAt C H p m ∧ m.base = some b ∧
  ∀ H' : Hp, Kp H H' p → SkAt C H' p { m with base := some (baseOf b m.calm lv ov), calm := calmOf m.calm ov } → Q .non H'
def spReset (C : Addr) : Sp := fun vs H Q _ => ∃ (p : Addr) (m : Sk), vs = [.ref p] ∧ SkAt C H p m ∧ ∀ H' : Hp, Kp H H' p → SkAt C H' p (resetOf m) → Q .non H'
def spBase (C : Addr) : Sp := fun vs H Q _ => ∃ (p : Addr) (m : Sk), vs = [.ref p] ∧ SkAt C H p m ∧ Q (oV m.base) H
def spWarned (C : Addr) : Sp := fun vs H Q _ => ∃ (p : Addr) (m : Sk), vs = [.ref p] ∧ SkAt C H p m ∧ Q (.bl m.warned) H

section
variable {P : Program} {w : World} {K : PySem.W.Frag} {mg : Str → Option Value} {base : Heap}
theorem scBase : FnScope ["self"] ["self"] (defScope sBase) := ⟨rfl, rfl, rfl, by decide +kernel, rfl, by decide +kernel, by decide +kernel⟩
theorem ok_base {f C : Addr} {fd : FuncData} (F : Fun K "base" "Seeker.base" sBase f fd) (T : Txt K mg C) : FnOk P w K mg base CX0 1 f fd ["self"] (spBase C) := by
  refine F.ok scBase (fun vs H Q E h => ?_) (fun cdv A outer s H vs Q E hr h => ?_)
  · obtain ⟨p, m, rfl, _⟩ := h
    rfl
  · obtain ⟨p, m, rfl, ⟨dx, hp⟩, k⟩ := h
    refine ⟨_, pss_one (ps_ret (pe_fld (pv 0) rfl)), ?_⟩
    exact ⟨_, rfl, p, C, dx, _, _, rfl, hp, T.cl, T.nBase, at_base m, k⟩
theorem scWarned : FnScope ["self"] ["self"] (defScope sWarned) := ⟨rfl, rfl, rfl, by decide +kernel, rfl, by decide +kernel, by decide +kernel⟩
theorem ok_warned {f C : Addr} {fd : FuncData} (F : Fun K "warned" "Seeker.warned" sWarned f fd) (T : Txt K mg C) : FnOk P w K mg base CX0 1 f fd ["self"] (spWarned C) := by
  refine F.ok scWarned (fun vs H Q E h => ?_) (fun cdv A outer s H vs Q E hr h => ?_)
  · obtain ⟨p, m, rfl, _⟩ := h
    rfl
  · obtain ⟨p, m, rfl, ⟨dx, hp⟩, k⟩ := h
    refine ⟨_, pss_one (ps_ret (pe_fld (pv 0) rfl)), ?_⟩
    exact ⟨_, rfl, p, C, dx, _, _, rfl, hp, T.cl, T.nWarned, at_warned m, k⟩
theorem scReset : FnScope ["self"] ["self"] (defScope sReset) := ⟨rfl, rfl, rfl, by decide +kernel, rfl, by decide +kernel, by decide +kernel⟩
theorem ok_reset {f C : Addr} {fd : FuncData} (F : Fun K "reset" "Seeker.reset" sReset f fd) (T : Txt K mg C) : FnOk P w K mg base CX0 1 f fd ["self"] (spReset C) := by
  refine F.ok scReset (fun vs H Q E h => ?_) (fun cdv A outer s H vs Q E hr h => ?_)
  · obtain ⟨p, m, rfl, _⟩ := h
    rfl
  · obtain ⟨p, m, rfl, ⟨dx, hp⟩, k⟩ := h
    refine ⟨_, pss_cons (ps_fld (pv 0) pe_int rfl) (pss_one (ps_fld (pv 0) pe_bl rfl)), ?_⟩
    refine ⟨_, rfl, p, C, dx, _, rfl, hp, T.cl, T.nRow, flds_len m, ?_⟩
    rw [put_row]
    refine ⟨_, rfl, p, C, dx, _, rfl, upd_same, T.cl, T.nWarned, flds_len _, ?_⟩
    rw [put_warned]
    exact k _ ((Kp.upd _ _ _).trans (Kp.upd _ _ _)) ⟨dx, upd_same⟩
theorem scCount : FnScope ["self", "above"] ["self", "above"] (defScope sCount) := ⟨rfl, rfl, rfl, by decide +kernel, rfl, by decide +kernel, by decide +kernel⟩
theorem ok_count {f C : Addr} {fd : FuncData} (F : Fun K "count_above" "Seeker.count_above" sCount f fd) (T : Txt K mg C) : FnOk P w K mg base CX0 1 f fd ["self", "above"] (spCount C) := by
  refine F.ok scCount (fun vs H Q E h => ?_) (fun cdv A outer s H vs Q E hr h => ?_)
  · obtain ⟨p, m, a, rfl, _⟩ := h
    rfl
  · obtain ⟨p, m, a, rfl, ⟨dx, hp⟩, k⟩ := h
    refine ⟨_, pss_one (ps_if (pt_val (pv 1)) (pss_one (ps_fldaug (pv 0) pe_int in_add)) (pss_one (ps_fld (pv 0) pe_int rfl))), ?_⟩
    refine ⟨_, rfl, a, rfl, ?_⟩
    cases a with
    | true =>
      refine iteT ?_
      refine ⟨_, rfl, p, C, dx, _, _, rfl, hp, T.cl, T.nRow, at_row m, _, _, rfl, rfl, dx, _, hp, flds_len m, ?_⟩
      rw [put_row]
      exact k _ (Kp.upd _ _ _) ⟨dx, upd_same⟩
    | false =>
      refine iteF ?_
      refine ⟨_, rfl, p, C, dx, _, rfl, hp, T.cl, T.nRow, flds_len m, ?_⟩
      rw [put_row]
      exact k _ (Kp.upd _ _ _) ⟨dx, upd_same⟩
theorem scDrift : FnScope ["self", "level", "over"] ["self", "level", "over"] (defScope sDrift) := ⟨rfl, rfl, rfl, by decide +kernel, rfl, by decide +kernel, by decide +kernel⟩
theorem ok_drift {f C : Addr} {fd : FuncData} (F : Fun K "drift" "Seeker.drift" sDrift f fd) (T : Txt K mg C) : FnOk P w K mg base CX0 1 f fd ["self", "level", "over"] (spDrift C) := by
  refine F.ok scDrift (fun vs H Q E h => ?_) (fun cdv A outer s H vs Q E hr h => ?_)
  · obtain ⟨p, m, b, lv, ov, rfl, _⟩ := h
    rfl
  · obtain ⟨p, m, b, lv, ov, rfl, ⟨dx, hp⟩, hb, k⟩ := h
    obtain ⟨tC, gC⟩ := T.gC
    refine ⟨_, pss_cons (ps_if (pt_val (pv 2)) (pss_cons (ps_fld (pv 0) pe_int rfl) (pss_one ps_retN)) pss_nil)
      (pss_cons (ps_fldaug (pv 0) pe_int in_add)
      (pss_cons (ps_if (pt_cmpR op_lt (pe_fld (pv 0) rfl) (pe_glob (v := .int 4) rfl gC ⟨_, rfl⟩) (nomark _)) (pss_one ps_retN) pss_nil)
      (pss_cons (ps_fld (pv 0) pe_int rfl)
      (pss_one (ps_if (pt_cmpR op_gt (pv 1) (pe_fld (pv 0) rfl) (nomark _)) (pss_one (ps_fldaug (pv 0) pe_int in_add))
        (pss_one (ps_if (pt_cmpR op_lt (pv 1) (pe_fld (pv 0) rfl) (nomark _)) (pss_one (ps_fldaug (pv 0) pe_int in_sub)) pss_nil))))))), ?_⟩
    refine ⟨_, rfl, ov, rfl, ?_⟩
    cases ov with
    | true =>
      refine iteT ?_
      refine ⟨_, rfl, p, C, dx, _, rfl, hp, T.cl, T.nCalm, flds_len m, ?_⟩
      rw [put_calm]
      refine k _ (Kp.upd _ _ _) ⟨dx, ?_⟩
      rw [upd_same]
      unfold baseOf calmOf
      rw [if_pos rfl, if_pos rfl, ← hb]
    | false =>
      refine iteF ?_
      have e1 : ∀ b' c', baseOf b m.calm lv false = b' → calmOf m.calm false = c' → ∀ H', Kp H H' p → SkAt C H' p { m with base := some b', calm := c' } → Q .non H' := fun b' c' h1 h2 => by
        rw [← h1, ← h2]
        exact k
      refine ⟨_, rfl, p, C, dx, _, _, rfl, hp, T.cl, T.nCalm, at_calm m, _, _, rfl, rfl, dx, _, hp, flds_len m, ?_⟩
      rw [put_calm]
      refine ⟨_, rfl, p, C, dx, _, _, rfl, upd_same, T.cl, T.nCalm, at_calm _, _, _, rfl, rfl, _, rfl, ?_⟩
      by_cases hc : m.calm + 1 < 4
      · rw [show decide (({ m with calm := m.calm + 1 } : Sk).calm < 4) = true from decide_eq_true hc]
        refine iteT ?_
        refine e1 b (m.calm + 1) ?_ ?_ _ (Kp.upd _ _ _) ⟨dx, ?_⟩
        · unfold baseOf
          rw [if_neg Bool.false_ne_true, if_pos hc]
        · unfold calmOf
          rw [if_neg Bool.false_ne_true, if_pos hc]
        · rw [upd_same, ← hb]
      · rw [show decide (({ m with calm := m.calm + 1 } : Sk).calm < 4) = false from decide_eq_false hc]
        refine iteF ?_
        have ec : calmOf m.calm false = 0 := by
          unfold calmOf
          rw [if_neg Bool.false_ne_true, if_neg hc]
        have eb : baseOf b m.calm lv false = if b < lv then b + 1 else if lv < b then b - 1 else b := by
          unfold baseOf
          rw [if_neg Bool.false_ne_true, if_neg hc]
        refine ⟨_, rfl, p, C, dx, _, rfl, upd_same, T.cl, T.nCalm, flds_len _, ?_⟩
        rw [put_calm, upd_upd]
        refine ⟨_, rfl, _, rfl, p, C, dx, _, _, rfl, upd_same, T.cl, T.nBase, (at_base _).trans (congrArg (fun o => some (oV o)) hb), _, _, rfl, rfl, _, rfl, ?_⟩
        by_cases h1 : b < lv
        · rw [show decide (b < lv) = true from decide_eq_true h1]
          refine iteT ?_
          refine ⟨_, rfl, p, C, dx, _, _, rfl, upd_same, T.cl, T.nBase, (at_base _).trans (congrArg (fun o => some (oV o)) hb), _, _, rfl, rfl, dx, _, upd_same, flds_len _, ?_⟩
          rw [put_base, upd_upd]
          refine e1 (b + 1) 0 ?_ ec _ (Kp.upd _ _ _) ⟨dx, upd_same⟩
          rw [eb, if_pos h1]
        · rw [show decide (b < lv) = false from decide_eq_false h1]
          refine iteF ?_
          refine ⟨_, rfl, _, rfl, p, C, dx, _, _, rfl, upd_same, T.cl, T.nBase, (at_base _).trans (congrArg (fun o => some (oV o)) hb), _, _, rfl, rfl, _, rfl, ?_⟩
          by_cases h2 : lv < b
          · rw [show decide (lv < b) = true from decide_eq_true h2]
            refine iteT ?_
            refine ⟨_, rfl, p, C, dx, _, _, rfl, upd_same, T.cl, T.nBase, (at_base _).trans (congrArg (fun o => some (oV o)) hb), _, _, rfl, rfl, dx, _, upd_same, flds_len _, ?_⟩
            rw [put_base, upd_upd]
            refine e1 (b - 1) 0 ?_ ec _ (Kp.upd _ _ _) ⟨dx, upd_same⟩
            rw [eb, if_neg h1, if_pos h2]
          · rw [show decide (lv < b) = false from decide_eq_false h2]
            refine iteF ?_
            refine e1 b 0 ?_ ec _ (Kp.upd _ _ _) ⟨dx, ?_⟩
            · rw [eb, if_neg h1, if_neg h2]
            · rw [upd_same, ← hb]
end
end K21

namespace K21
open PySem L2
/-- one attribute more -/
theorem put_next : ∀ (ks : List Str) (vs : List V) (f : Str) (v : V), ks.Nodup → ks[vs.length]? = some f → putF f v (ks.zip vs) = ks.zip (vs ++ [v])
  | [], _, _, _, _, h => by simp at h
  | k :: ks, [], f, v, _, h => by
    have e : k = f := by simpa using h
    subst e
    simp [putF]
  | k :: ks, w :: vs, f, v, nd, h => by
    have hk : ks[vs.length]? = some f := by simpa using h
    have nd' := List.nodup_cons.mp nd
    have hm : f ∈ ks := List.mem_of_getElem? hk
    have h1 : ¬ k = f := fun e => nd'.1 (e ▸ hm)
    simp only [List.zip_cons_cons, List.cons_append, putF, if_neg h1]
    rw [put_next ks vs f v nd'.2 hk]
theorem part_len (vs : List V) : (keys.zip vs).length < 1000 := by
  have h : (keys.zip vs).length = min keys.length vs.length := List.length_zip
  have h2 : keys.length = 9 := rfl
  omega
theorem put_part (vs : List V) {f : Str} {v : V} (h : keys[vs.length]? = some f) : putF f v (keys.zip vs) = keys.zip (vs ++ [v]) := put_next keys vs f v keys_nd h
section
variable {P : Program} {w : World} {K : PySem.W.Frag} {mg : Str → Option Value} {base : Heap}
theorem scInit : FnScope ["self", "marks", "first", "day", "night"] ["self", "marks"] (defScope sInit) := ⟨rfl, rfl, rfl, by decide +kernel, rfl, by decide +kernel, by decide +kernel⟩
theorem ok_init {f C : Addr} {fd : FuncData} (F : Fun K "__init__" "Seeker.__init__" sInit f fd) (T : Txt K mg C) : FnOk P w K mg base CX0 1 f fd ["self", "marks"] (spInit C) := by
  refine F.ok scInit (fun vs H Q E h => ?_) (fun cdv A outer s H vs Q E hr h => ?_)
  · obtain ⟨p, dx, q, x, y, z, rfl, _⟩ := h
    rfl
  · obtain ⟨p, dx, q, x, y, z, rfl, hp, hq, k⟩ := h
    refine ⟨_, pss_cons (ps_asg (pv 1) (pg_tup rfl (pgs_cons (pg_name (i := 2) scInit.nd rfl (.inl rfl)) (pgs_cons (pg_name (i := 3) scInit.nd rfl (.inl rfl)) (pgs_cons (pg_name (i := 4) scInit.nd rfl (.inl rfl)) pgs_nil)))))
      (pss_cons (ps_fld (pv 0) (pv 2) rfl) (pss_cons (ps_fld (pv 0) (pv 3) rfl) (pss_cons (ps_fld (pv 0) (pv 4) rfl) (pss_cons (ps_fld (pv 0) pe_int rfl) (pss_cons (ps_fld (pv 0) pe_non rfl)
      (pss_cons (ps_fld (pv 0) pe_bl rfl) (pss_cons (ps_fld (pv 0) pe_int rfl) (pss_cons (ps_fld (pv 0) pe_int rfl) (pss_one (ps_fld (pv 0) pe_bl rfl)))))))))), ?_⟩
    refine ⟨_, rfl, q, _, rfl, SqT.of hq, rfl, _, _, rfl, _, _, rfl, _, _, rfl, rfl, ?_⟩
    have hp0 : H p = some (.ins C dx (keys.zip [])) := hp
    refine ⟨_, rfl, _, rfl, p, C, dx, _, rfl, hp0, T.cl, T.nFirst, part_len _, ?_⟩
    rw [put_part [] rfl, List.nil_append]
    refine ⟨_, rfl, _, rfl, p, C, dx, _, rfl, upd_same, T.cl, T.nDay, part_len _, ?_⟩
    rw [put_part [.int x] rfl, List.cons_append, List.nil_append, upd_upd]
    refine ⟨_, rfl, _, rfl, p, C, dx, _, rfl, upd_same, T.cl, T.nNight, part_len _, ?_⟩
    rw [put_part [.int x, .int y] rfl, List.cons_append, List.cons_append, List.nil_append, upd_upd]
    refine ⟨_, rfl, p, C, dx, _, rfl, upd_same, T.cl, T.nNum, part_len _, ?_⟩
    rw [put_part [.int x, .int y, .int z] rfl, List.cons_append, List.cons_append, List.cons_append, List.nil_append, upd_upd]
    refine ⟨_, rfl, p, C, dx, _, rfl, upd_same, T.cl, T.nBase, part_len _, ?_⟩
    rw [put_part [.int x, .int y, .int z, .int 0] rfl, List.cons_append, List.cons_append, List.cons_append, List.cons_append, List.nil_append, upd_upd]
    refine ⟨_, rfl, p, C, dx, _, rfl, upd_same, T.cl, T.nOver, part_len _, ?_⟩
    rw [put_part [.int x, .int y, .int z, .int 0, .non] rfl, List.cons_append, List.cons_append, List.cons_append, List.cons_append, List.cons_append, List.nil_append, upd_upd]
    refine ⟨_, rfl, p, C, dx, _, rfl, upd_same, T.cl, T.nRow, part_len _, ?_⟩
    rw [put_part [.int x, .int y, .int z, .int 0, .non, .bl false] rfl, List.cons_append, List.cons_append, List.cons_append, List.cons_append, List.cons_append, List.cons_append, List.nil_append, upd_upd]
    refine ⟨_, rfl, p, C, dx, _, rfl, upd_same, T.cl, T.nCalm, part_len _, ?_⟩
    rw [put_part [.int x, .int y, .int z, .int 0, .non, .bl false, .int 0] rfl, List.cons_append, List.cons_append, List.cons_append, List.cons_append, List.cons_append, List.cons_append, List.cons_append, List.nil_append, upd_upd]
    refine ⟨_, rfl, p, C, dx, _, rfl, upd_same, T.cl, T.nWarned, part_len _, ?_⟩
    rw [put_part [.int x, .int y, .int z, .int 0, .non, .bl false, .int 0, .int 0] rfl, List.cons_append, List.cons_append, List.cons_append, List.cons_append, List.cons_append, List.cons_append, List.cons_append, List.cons_append, List.nil_append, upd_upd]
    exact k _ (Kp.upd _ _ _) ⟨dx, upd_same⟩
end
end K21

namespace K21
open PySem L2
/-! ### draws -/
def BagAt (H : Hp) (a : Addr) (n : Nat) : Prop := ∃ b0 b1 b2 : Int, H a = some (.lst [.int b0, .int b1, .int b2]) ∧ 0 ≤ b1 ∧ b1 < 4294967296 ∧ 0 ≤ b2 ∧ b2 ≤ (n : Int)
theorem BagAt.le {H : Hp} {a : Addr} {n m : Nat} (h : BagAt H a n) (l : n ≤ m) : BagAt H a m := by
  obtain ⟨b0, b1, b2, e, h1, h2, h3, h4⟩ := h
  exact ⟨b0, b1, b2, e, h1, h2, h3, by omega⟩
theorem BagAt.kp {H H' : Hp} {a p : Addr} {n : Nat} (h : BagAt H a n) (s : Kp H H' p) (ne : a ≠ p) : BagAt H' a n := by
  obtain ⟨b0, b1, b2, e, h⟩ := h
  exact ⟨b0, b1, b2, s _ _ e ne, h⟩
theorem BagAt.same {H H' : Hp} {a : Addr} {n : Nat} (h : BagAt H a n) (s : Same H H') : BagAt H' a n := by
  obtain ⟨b0, b1, b2, e, h⟩ := h
  exact ⟨b0, b1, b2, s _ _ e, h⟩
def primes : List V := [.int 2147483629, .int 2147483587, .int 2147483579, .int 2147483563, .int 2147483549, .int 2147483543, .int 2147483497]
theorem primes_at {i : Int} (h0 : 0 ≤ i) (h1 : i < 7) : ∃ v : Int, atI primes i = some (.int v) ∧ 0 < v ∧ v < 2147483648 := by
  have h : i = 0 ∨ i = 1 ∨ i = 2 ∨ i = 3 ∨ i = 4 ∨ i = 5 ∨ i = 6 := by omega
  rcases h with rfl | rfl | rfl | rfl | rfl | rfl | rfl
  · exact ⟨_, rfl, by decide, by decide⟩
  · exact ⟨_, rfl, by decide, by decide⟩
  · exact ⟨_, rfl, by decide, by decide⟩
  · exact ⟨_, rfl, by decide, by decide⟩
  · exact ⟨_, rfl, by decide, by decide⟩
  · exact ⟨_, rfl, by decide, by decide⟩
  · exact ⟨_, rfl, by decide, by decide⟩
def spTake : Sp := fun vs H Q _ => ∃ (a : Addr) (k : Int) (n : Nat), vs = [.ref a, .int k] ∧ BagAt H a n ∧ n < 100000 ∧ 0 < k ∧ k < 100000 ∧
  ∀ (r : Int) (H' : Hp), 0 ≤ r → r < k → Kp H H' a → BagAt H' a (n + 1) → Q (.int r) H'
/-- a product of a small number that is not below 0 and another -/
theorem mul_box {x y b c : Int} (h0 : 0 ≤ x) (h1 : x ≤ b) (g0 : 0 ≤ y) (g1 : y ≤ c) : 0 ≤ x * y ∧ x * y ≤ b * c :=
  ⟨Int.mul_nonneg h0 g0, Int.mul_le_mul h1 g1 g0 (Int.le_trans h0 h1)⟩
section
variable {P : Program} {w : World} {K : PySem.W.Frag} {mg : Str → Option Value} {base : Heap}
theorem scTake : FnScope ["_law_bag_here", "_law_many", "_law_digit", "_law_primes", "_law_step", "_law_base", "_law_found"] ["_law_bag_here", "_law_many"] (defScope sTake) := ⟨rfl, rfl, rfl, by decide +kernel, rfl, by decide +kernel, by decide +kernel⟩
theorem ok_take {f : Addr} {fd : FuncData} (F : Fun K "_law_take" "_law_take" sTake f fd) : FnOk P w K mg base CX0 1 f fd ["_law_bag_here", "_law_many"] spTake := by
  refine F.ok scTake (fun vs H Q E h => ?_) (fun cdv A outer s H vs Q E hr h => ?_)
  · obtain ⟨a, k, n, rfl, _⟩ := h
    rfl
  · obtain ⟨a, mny, n, rfl, ⟨b0, b1, b2, hb, h1, h2, h3, h4⟩, hn, hk0, hk1, k⟩ := h
    refine ⟨_, (pss_cons (ps_if (pt_cmpR op_gt (pe_ix ix_list (pv 0) pe_int (fun _ _ => rfl)) pe_int (nomark _)) (pss_cons (ps_set (i := 2) scTake.nd rfl (.inl rfl) (pe_op op_mod (pe_ix ix_list (pv 0) pe_int (fun _ _ => rfl)) (pv 1)))
      (pss_cons (ps_asg (pe_op op_fdiv (pe_ix ix_list (pv 0) pe_int (fun _ _ => rfl)) (pv 1)) (pg_sub (pv 0) pe_int set_list))
      (pss_one (ps_ret (pv 2))))) pss_nil)
      (pss_cons (ps_set (i := 3) scTake.nd rfl (.inl rfl) (pe_tup (pa_cons pe_int (pa_cons pe_int (pa_cons pe_int (pa_cons pe_int (pa_cons pe_int (pa_cons pe_int (pa_cons pe_int pa_nil)))))))))
      (pss_cons (ps_asg (pe_op op_add (pe_ix ix_list (pv 0) pe_int (fun _ _ => rfl)) pe_int) (pg_sub (pv 0) pe_int set_list))
      (pss_cons (ps_set (i := 4) scTake.nd rfl (.inl rfl) (pe_ix ix_list (pv 0) pe_int (fun _ _ => rfl)))
      (pss_cons (ps_set (i := 5) scTake.nd rfl (.inl rfl) (pe_op op_add (pe_op op_add (pe_op op_mul (pe_ix ix_list (pv 0) pe_int (fun _ _ => rfl)) (pe_op op_add (pe_op op_mul pe_int (pv 4)) pe_int)) (pe_op op_mul (pe_op op_mul pe_int (pv 4)) (pv 4))) pe_int))
      (pss_cons (ps_set (i := 6) scTake.nd rfl (.inl rfl) (pe_op op_mod (pe_op op_pow (pv 5) pe_int) (pe_ix ix_tup (pv 3) (pe_op op_mod (pv 4) pe_int) (fun _ _ => rfl))))
      (pss_one (ps_ret (pe_op op_mod (pe_op op_fdiv (pe_op op_mod (pe_op op_mul (pv 6) (pe_op op_add (pe_op op_fdiv (pv 6) pe_int) pe_int)) (pe_ix ix_tup (pv 3) (pe_op op_mod (pe_op op_add (pv 4) pe_int) pe_int) (fun _ _ => rfl))) pe_int) (pv 1)))))))))), ?_⟩
    -- the first cell's digits
    refine ⟨_, rfl, a, _, _, _, rfl, rfl, SqL.of hb, rfl, _, _, rfl, rfl, _, rfl, ?_⟩
    refine ite2 (fun _ => ?_) (fun _ => ?_)
    · refine ⟨_, rfl, a, _, _, _, rfl, rfl, SqL.of hb, rfl, _, rfl, _, _, rfl, rfl, hk0, ?_⟩
      refine ⟨_, rfl, a, _, _, _, rfl, rfl, SqL.of hb, rfl, _, rfl, _, _, rfl, rfl, ⟨hk0, by omega⟩, _, rfl, a, _, _, _, rfl, rfl, hb, rfl, ?_⟩
      refine ⟨_, rfl, ?_⟩
      exact k _ _ (Int.emod_nonneg _ (by omega)) (Int.emod_lt_of_pos _ hk0) (Kp.upd _ _ _) ⟨_, b1, b2, upd_same, h1, h2, h3, by omega⟩
    · refine ⟨by show 7 ≤ sizeLine; decide, fun t ht => ?_⟩
      have nat : a ≠ t := ne_of_none hb ht
      refine ⟨_, rfl, a, _, _, _, rfl, rfl, SqL.of ((upd_ne nat).trans hb), rfl, _, _, rfl, rfl, _, rfl, a, _, _, _, rfl, rfl, (upd_ne nat).trans hb, rfl, ?_⟩
      have hT : (L2.upd (L2.upd H t (.tup primes)) a (.lst [.int b0, .int b1, .int (b2 + 1)])) t = some (.tup primes) := (upd_ne nat.symm).trans upd_same
      have hB : (L2.upd (L2.upd H t (.tup primes)) a (.lst [.int b0, .int b1, .int (b2 + 1)])) a = some (.lst [.int b0, .int b1, .int (b2 + 1)]) := upd_same
      refine ⟨_, rfl, a, _, _, _, rfl, rfl, SqL.of hB, rfl, ?_⟩
      have s1 : b2 + 1 ≤ 100000 := by omega
      have s0 : 0 ≤ b2 + 1 := by omega
      refine ⟨_, rfl, a, _, _, _, rfl, rfl, SqL.of hB, rfl, _, rfl, _, _, rfl, rfl, .inl ⟨by decide, by decide⟩, _, _, rfl, rfl, _, _, rfl, rfl, .inl ⟨by omega, by omega⟩,
        _, rfl, _, _, rfl, rfl, .inl ⟨by decide, by decide⟩, _, rfl, _, _, rfl, rfl, .inr ⟨by omega, by omega⟩, _, _, rfl, rfl, _, _, rfl, rfl, ?_⟩
      have p1 := mul_box (x := b1) (y := 2 * (b2 + 1) + 1) (b := 4294967296) (c := 200001) h1 (by omega) (by omega) (by omega)
      have p2 := mul_box (x := 6007 * (b2 + 1)) (y := b2 + 1) (b := 600700000) (c := 100000) (by omega) (by omega) s0 s1
      obtain ⟨q1, e1, q1p, q1l⟩ := primes_at (i := (b2 + 1) % 7) (Int.emod_nonneg _ (by decide)) (Int.emod_lt_of_pos _ (by decide))
      obtain ⟨q2, e2, q2p, q2l⟩ := primes_at (i := (b2 + 1 + 3) % 7) (Int.emod_nonneg _ (by decide)) (Int.emod_lt_of_pos _ (by decide))
      refine ⟨_, rfl, _, _, rfl, rfl, ⟨by decide, by decide, by omega⟩, _, rfl, _, rfl, _, _, rfl, rfl, (show (0 : Int) < 7 by decide), t, _, _, _, rfl, rfl, SqT.of hT, e1, _, _, rfl, rfl, q1p, ?_⟩
      have f0 : 0 ≤ (b1 * (2 * (b2 + 1) + 1) + 6007 * (b2 + 1) * (b2 + 1) + 29) ^ (3 : Int).toNat % q1 := Int.emod_nonneg _ (by omega)
      have f1 : (b1 * (2 * (b2 + 1) + 1) + 6007 * (b2 + 1) * (b2 + 1) + 29) ^ (3 : Int).toNat % q1 < q1 := Int.emod_lt_of_pos _ q1p
      refine ⟨_, rfl, _, rfl, _, _, rfl, rfl, ⟨by decide, by decide⟩, _, _, rfl, rfl, _, _, rfl, rfl, .inl ⟨by omega, by omega⟩, _, rfl, _, rfl, _, _, rfl, rfl, _, _, rfl, rfl, (show (0 : Int) < 7 by decide), t, _, _, _, rfl, rfl, SqT.of hT, e2,
        _, _, rfl, rfl, q2p, _, _, rfl, rfl, ⟨by decide, by decide⟩, _, rfl, _, _, rfl, rfl, hk0, ?_⟩
      exact k _ _ (Int.emod_nonneg _ (by omega)) (Int.emod_lt_of_pos _ hk0) ((Kp.new ht).trans (Kp.upd _ _ _)) ⟨_, b1, b2 + 1, upd_same, h1, h2, s0, by omega⟩
end
end K21

namespace K21
open PySem L2
def spBag (K : PySem.W.Frag) : Sp := fun vs H Q _ => ∃ (a : Addr) (ns : List Int) (k : Int), vs = [.ref a, .int k] ∧ SqL K H a (ns.map V.int) ∧ 0 ≤ k ∧ k < 3 ∧
  ∀ (p : Addr) (H' : Hp), H p = none → Same H H' → BagAt H' p 0 → Q (.ref p) H'
def spWhole : Sp := fun vs H Q _ => ∃ i : Int, vs = [.int i] ∧ Q (.bl true) H
def spTruth : Sp := fun vs H Q _ => ∃ b : Bool, vs = [.bl b, .bl b] ∧ Q (.bl true) H
def spMarks : Sp := fun vs H Q _ => ∃ (a : Addr) (n : Nat), vs = [.ref a] ∧ BagAt H a n ∧ n < 90000 ∧
  ∀ (q : Addr) (H' : Hp) (f d t : Int), H q = none → Kp H H' a → BagAt H' a (n + 4) → H' q = some (.tup [.int f, .int d, .int t]) → Q (.ref q) H'
def spLevel : Sp := fun vs H Q _ => ∃ (a : Addr) (o : Option Int) (n : Nat), vs = [.ref a, oV o] ∧ BagAt H a n ∧ n < 90000 ∧
  ∀ (r : Int) (H' : Hp), Kp H H' a → BagAt H' a (n + 2) → Q (.int r) H'
theorem two_at {i : Int} (h0 : 0 ≤ i) (h1 : i < 2) : ∃ v : Int, atI [V.int 8, V.int 200] i = some (.int v) ∧ 0 < v ∧ v ≤ 200 := by
  have h : i = 0 ∨ i = 1 := by omega
  rcases h with rfl | rfl
  · exact ⟨_, rfl, by decide, by decide⟩
  · exact ⟨_, rfl, by decide, by decide⟩
theorem seven_at {a b c d e f g : Int} {i : Int} (h0 : 0 ≤ i) (h1 : i < 7) : ∃ v : Int, atI [V.int a, V.int b, V.int c, V.int d, V.int e, V.int f, V.int g] i = some (.int v) := by
  have h : i = 0 ∨ i = 1 ∨ i = 2 ∨ i = 3 ∨ i = 4 ∨ i = 5 ∨ i = 6 := by omega
  rcases h with rfl | rfl | rfl | rfl | rfl | rfl | rfl
  · exact ⟨_, rfl⟩
  · exact ⟨_, rfl⟩
  · exact ⟨_, rfl⟩
  · exact ⟨_, rfl⟩
  · exact ⟨_, rfl⟩
  · exact ⟨_, rfl⟩
  · exact ⟨_, rfl⟩
theorem ints_at {ns : List Int} {i : Int} (h0 : 0 ≤ i) (h1 : i < ((ns.map V.int).length : Int)) : ∃ v : Int, atI (ns.map V.int) i = some (.int v) := by
  rw [List.length_map] at h1
  obtain ⟨j, rfl⟩ := Int.eq_ofNat_of_zero_le h0
  have hj : j < ns.length := by omega
  exact ⟨ns[j], atI_nat (by rw [List.getElem?_map, List.getElem?_eq_getElem hj]; rfl)⟩
theorem ite01 (b : Bool) : -(2 ^ 64) < (if b = true then (1 : Int) else 0) ∧ (if b = true then (1 : Int) else 0) < 2 ^ 64 := by cases b <;> decide
section
variable {P : Program} {w : World} {K : PySem.W.Frag} {mg : Str → Option Value} {base : Heap}
theorem scBag : FnScope ["_law_script", "_law_k", "_law_cell"] ["_law_script", "_law_k"] (defScope sBag) := ⟨rfl, rfl, rfl, by decide +kernel, rfl, by decide +kernel, by decide +kernel⟩
theorem ok_bag {f C : Addr} {fd : FuncData} (F : Fun K "_law_bag" "_law_bag" sBag f fd) (T : Txt K mg C) : FnOk P w K mg base CX0 1 f fd ["_law_script", "_law_k"] (spBag K) := by
  refine F.ok scBag (fun vs H Q E h => ?_) (fun cdv A outer s H vs Q E hr h => ?_)
  · obtain ⟨a, ns, k, rfl, _⟩ := h
    rfl
  · obtain ⟨a, ns, k, rfl, hS, k0, k3, kq⟩ := h
    refine ⟨_, (pss_cons (ps_set (i := 2) scBag.nd rfl (.inl rfl) (pe_op op_add (pe_op op_add (pe_op op_mul (pe_op op_mul pe_int (pv 1)) (pv 1)) (pe_op op_mul pe_int (pv 1))) pe_int))
      (pss_cons (ps_if (pt_cmpR op_lt (pv 1) (pe_callB call_len_seq (by rfl) T.len PySem.boot_len (pa_cons (pv 0) pa_nil)) (nomark _)) (pss_one (ps_set (i := 2) scBag.nd rfl (.inl rfl) (pe_ix ix_list (pv 0) (pv 1) (fun _ _ => rfl)))) pss_nil)
      (pss_one (ps_ret (pe_lst (pa_cons (pe_op op_mul (pe_callB call_abs (by rfl) T.abs (by decide +kernel) (pa_cons (pv 2) pa_nil)) (pe_callTy call_int1 (by rfl) T.int (by decide +kernel) (pa_cons (pe_cmpR op_ge (pe_callB call_abs (by rfl) T.abs (by decide +kernel) (pa_cons (pv 2) pa_nil)) (pe_op op_pow pe_int pe_int) (nomark _)) pa_nil))) (pa_cons (pe_op op_add (pe_op op_mod (pv 2) pe_int) (pe_op op_mul pe_int (pv 1))) (pa_cons pe_int pa_nil)))))))), ?_⟩
    refine ⟨_, rfl, _, _, rfl, rfl, .inl ⟨by decide, by decide⟩, _, rfl, _, _, rfl, rfl, .inr ⟨by omega, by omega⟩, _, rfl, _, _, rfl, rfl, .inl ⟨by decide, by decide⟩, _, _, rfl, rfl, _, _, rfl, rfl, ?_⟩
    -- what is given back, whatever the cell
    have fin : ∀ c : Int, ∀ (b : Bool) (y : Int), 0 ≤ c % 2147483647 + 37 * k ∧ c % 2147483647 + 37 * k < 4294967296 ∧ (∀ p, H p = none → Q (.ref p) (L2.upd H p (.lst [.int (y * (if b = true then 1 else 0)), .int (c % 2147483647 + 37 * k), .int 0]))) := fun c b y => by
      have m0 := Int.emod_nonneg c (show (2147483647 : Int) ≠ 0 by decide)
      have m1 := Int.emod_lt_of_pos c (show (0 : Int) < 2147483647 by decide)
      exact ⟨by omega, by omega, fun p hp => kq p _ hp (Same.new hp) ⟨_, _, _, upd_same, by omega, by omega, by decide, by decide⟩⟩
    refine ⟨_, rfl, _, rfl, a, _, rfl, .inl hS, _, _, rfl, rfl, _, rfl, ?_⟩
    refine ite2 (fun hk => ?_) (fun hk => ?_)
    · obtain ⟨v, hv⟩ := ints_at (ns := ns) k0 (of_decide_eq_true hk)
      refine ⟨_, rfl, _, rfl, a, _, _, _, rfl, rfl, hS, hv, ?_⟩
      refine ⟨_, rfl, _, rfl, _, rfl, _, rfl, _, _, rfl, rfl, ⟨by decide, by decide, by decide⟩, _, _, rfl, rfl, .inr ⟨_, rfl, _, _, rfl, rfl, .inr (ite01 _), _, rfl, _, _, rfl, rfl, (show (0 : Int) < 2147483647 by decide), _, rfl, _, _, rfl, rfl, .inl ⟨by decide, by decide⟩, _, _, rfl, rfl, ?_⟩⟩
      exact ⟨by show 3 ≤ sizeLine; decide, (fin _ _ _).2.2⟩
    · refine ⟨_, rfl, _, rfl, _, rfl, _, rfl, _, _, rfl, rfl, ⟨by decide, by decide, by decide⟩, _, _, rfl, rfl, .inr ⟨_, rfl, _, _, rfl, rfl, .inr (ite01 _), _, rfl, _, _, rfl, rfl, (show (0 : Int) < 2147483647 by decide), _, rfl, _, _, rfl, rfl, .inl ⟨by decide, by decide⟩, _, _, rfl, rfl, ?_⟩⟩
      exact ⟨by show 3 ≤ sizeLine; decide, (fin _ _ _).2.2⟩
theorem scWhole : FnScope ["_law_thing"] ["_law_thing"] (defScope sWhole) := ⟨rfl, rfl, rfl, by decide +kernel, rfl, by decide +kernel, by decide +kernel⟩
theorem ok_whole {f C : Addr} {fd : FuncData} (F : Fun K "_law_whole" "_law_whole" sWhole f fd) (T : Txt K mg C) : FnOk P w K mg base CX0 1 f fd ["_law_thing"] spWhole := by
  refine F.ok scWhole (fun vs H Q E h => ?_) (fun cdv A outer s H vs Q E hr h => ?_)
  · obtain ⟨i, rfl, _⟩ := h
    rfl
  · obtain ⟨i, rfl, k⟩ := h
    refine ⟨_, (pss_one (ps_ret (pe_and (pe_callB call_isi (by rfl) T.isi (by decide +kernel) (pa_cons (pv 0) (pa_cons (pe_bltn (v := .ty "int") (by rfl) T.int (by decide +kernel) rfl) pa_nil))) (pe_one (pe_not (pe_callB call_isi (by rfl) T.isi (by decide +kernel) (pa_cons (pv 0) (pa_cons (pe_bltn (v := .ty "bool") (by rfl) T.bool (by decide +kernel) rfl) pa_nil)))))))), ?_⟩
    refine ⟨_, rfl, _, _, _, _, true, rfl, .ty _, .base (.int _), kit_ty (by decide +kernel), true, rfl, ?_⟩
    refine iteT ?_
    exact ⟨_, rfl, _, _, _, _, false, rfl, .ty _, .base (.int _), kit_ty (by decide +kernel), false, rfl, k⟩
theorem scTruth : FnScope ["_law_told", "_law_due"] ["_law_told", "_law_due"] (defScope sTruth) := ⟨rfl, rfl, rfl, by decide +kernel, rfl, by decide +kernel, by decide +kernel⟩
theorem ok_truth {f C : Addr} {fd : FuncData} (F : Fun K "_law_is_truth" "_law_is_truth" sTruth f fd) (T : Txt K mg C) : FnOk P w K mg base CX0 1 f fd ["_law_told", "_law_due"] spTruth := by
  refine F.ok scTruth (fun vs H Q E h => ?_) (fun cdv A outer s H vs Q E hr h => ?_)
  · obtain ⟨b, rfl, _⟩ := h
    rfl
  · obtain ⟨b, rfl, k⟩ := h
    refine ⟨_, (pss_one (ps_ret (pe_and (pe_callB call_isi (by rfl) T.isi (by decide +kernel) (pa_cons (pv 0) (pa_cons (pe_bltn (v := .ty "bool") (by rfl) T.bool (by decide +kernel) rfl) pa_nil))) (pe_one (pe_cmpR op_eq (pv 0) (pv 1) (nomark _)))))), ?_⟩
    refine ⟨_, rfl, _, _, _, _, true, rfl, .ty _, .base (.bl _), kit_ty (by decide +kernel), true, rfl, ?_⟩
    refine iteT ?_
    refine ⟨_, rfl, _, rfl, by cases b <;> rfl, ?_⟩
    rw [decide_eq_true (rfl : V.bl b = V.bl b)]
    exact k
theorem scMarks : FnScope ["_law_bag_here", "_law_first"] ["_law_bag_here"] (defScope sMarks) := ⟨rfl, rfl, rfl, by decide +kernel, rfl, by decide +kernel, by decide +kernel⟩
theorem ok_marks {f fT : Addr} {fd fdT : FuncData} (F : Fun K "_law_marks" "_law_marks" sMarks f fd) (FT : Fun K "_law_take" "_law_take" sTake fT fdT) (bT : Binds K fdT ["_law_bag_here", "_law_many"] []) (mT : mg "_law_take" = some (.ref fT)) :
    FnOk P w K mg base CX0 2 f fd ["_law_bag_here"] spMarks := by
  have GT : FnOk P w K mg base CX0 1 fT fdT ["_law_bag_here", "_law_many"] spTake := ok_take FT
  refine F.ok scMarks (fun vs H Q E h => ?_) (fun cdv A outer s H vs Q E hr h => ?_)
  · obtain ⟨a, n, rfl, _⟩ := h
    rfl
  · obtain ⟨a, n, rfl, hB, hn, k⟩ := h
    have hr1 : Room 1 _ := hr
    refine ⟨_, (pss_cons (ps_set (i := 1) scMarks.nd rfl (.inl rfl) (pe_op op_add pe_int (pe_call GT hr1 rfl mT FT.kp bT .nil pass0 (pa_cons (pv 0) (pa_cons (pe_ix ix_list (pe_lst (pa_cons pe_int (pa_cons pe_int pa_nil))) (pe_call GT hr1 rfl mT FT.kp bT .nil pass0 (pa_cons (pv 0) (pa_cons pe_int pa_nil))) (fun _ _ => rfl)) pa_nil)))))
      (pss_one (ps_ret (pe_tup (pa_cons (pv 1) (pa_cons (pe_op op_add (pv 1) (pe_call GT hr1 rfl mT FT.kp bT .nil pass0 (pa_cons (pv 0) (pa_cons (pe_op op_sub pe_int (pv 1)) pa_nil)))) (pa_cons (pe_op op_add (pv 1) (pe_call GT hr1 rfl mT FT.kp bT .nil pass0 (pa_cons (pv 0) (pa_cons (pe_op op_sub pe_int (pv 1)) pa_nil)))) pa_nil))))))), ?_⟩
    refine ⟨_, rfl, by show 2 ≤ sizeLine; decide, fun p hp => ?_⟩
    have hB0 : BagAt (L2.upd H p (.lst [.int 8, .int 200])) a n := hB.same (Same.new hp)
    refine ⟨_, rfl, a, 2, n, rfl, hB0, by omega, by decide, by decide, fun r H1 r0 r1 s1 B1 => ?_⟩
    have nap : p ≠ a := fun e => by
      obtain ⟨_, _, _, q, _⟩ := hB
      rw [← e, hp] at q
      cases q
    obtain ⟨v, hv, v0, v1⟩ := two_at r0 r1
    refine ⟨p, _, _, _, rfl, rfl, SqL.of (s1 _ _ upd_same nap), hv, ?_⟩
    refine ⟨a, v, n + 1, rfl, B1, by omega, v0, by omega, fun r2 H2 r20 r21 s2 B2 => ?_⟩
    refine ⟨_, _, rfl, rfl, ?_⟩
    refine ⟨_, rfl, _, rfl, _, rfl, _, rfl, _, _, rfl, rfl, ?_⟩
    refine ⟨a, 201 - (1 + r2), n + 2, rfl, B2, by omega, by omega, by omega, fun r3 H3 _ _ s3 B3 => ?_⟩
    refine ⟨_, _, rfl, rfl, _, rfl, _, rfl, _, rfl, _, _, rfl, rfl, ?_⟩
    refine ⟨a, 201 - (1 + r2), n + 3, rfl, B3, by omega, by omega, by omega, fun r4 H4 _ _ s4 B4 => ?_⟩
    refine ⟨_, _, rfl, rfl, by show 3 ≤ sizeLine; decide, fun q hq => ?_⟩
    have sAll : Kp H H4 a := (((Kp.new hp).trans s1).trans s2).trans (s3.trans s4)
    obtain ⟨_, _, _, eB, _⟩ := id B4
    exact k q _ _ _ _ (sAll.free eB hq) (sAll.trans (Kp.new hq)) (B4.same (Same.new hq)) upd_same
theorem scLevel : FnScope ["_law_bag_here", "_law_last", "_law_way"] ["_law_bag_here", "_law_last"] (defScope sLevel) := ⟨rfl, rfl, rfl, by decide +kernel, rfl, by decide +kernel, by decide +kernel⟩
theorem ok_level {f fT C : Addr} {fd fdT : FuncData} (F : Fun K "_law_level" "_law_level" sLevel f fd) (T : Txt K mg C) (FT : Fun K "_law_take" "_law_take" sTake fT fdT) (bT : Binds K fdT ["_law_bag_here", "_law_many"] []) (mT : mg "_law_take" = some (.ref fT)) :
    FnOk P w K mg base CX0 2 f fd ["_law_bag_here", "_law_last"] spLevel := by
  have GT : FnOk P w K mg base CX0 1 fT fdT ["_law_bag_here", "_law_many"] spTake := ok_take FT
  refine F.ok scLevel (fun vs H Q E h => ?_) (fun cdv A outer s H vs Q E hr h => ?_)
  · obtain ⟨a, o, n, rfl, _⟩ := h
    rfl
  · obtain ⟨a, o, n, rfl, hB, hn, k⟩ := h
    have hr1 : Room 1 _ := hr
    refine ⟨_, (pss_cons (ps_set (i := 2) scLevel.nd rfl (.inl rfl) (pe_call GT hr1 rfl mT FT.kp bT .nil pass0 (pa_cons (pv 0) (pa_cons pe_int pa_nil))))
      (pss_cons (ps_if (PW.pt (pw_or (pt_cmpR op_eq (pv 2) pe_int (nomark _)) (pw_or1 (pt_cmpR op_isN (pv 1) pe_non (nomark _))))) (pss_one (ps_ret (pe_call GT hr1 rfl mT FT.kp bT .nil pass0 (pa_cons (pv 0) (pa_cons pe_int pa_nil))))) pss_nil)
      (pss_one (ps_ret (pe_callB (call_max2 rfl) (by rfl) T.max (by decide +kernel) (pa_cons pe_int (pa_cons (pe_callB (call_min2 rfl) (by rfl) T.min (by decide +kernel) (pa_cons pe_int (pa_cons (pe_op op_add (pv 1) (pe_ix ix_list (pe_lst (pa_cons pe_int (pa_cons pe_int (pa_cons pe_int (pa_cons (pe_un un_neg pe_int) (pa_cons pe_int (pa_cons (pe_un un_neg pe_int) (pa_cons pe_int pa_nil)))))))) (pv 2) (fun _ _ => rfl))) pa_nil))) pa_nil))))))), ?_⟩
    refine ⟨_, rfl, a, 7, n, rfl, hB, by omega, by decide, by decide, fun r H1 r0 r1 s1 B1 => ?_⟩
    refine ⟨_, rfl, rfl, _, rfl, ?_⟩
    refine ite2 (fun _ => ?_) (fun _ => ?_)
    · refine iteT ?_
      exact ⟨_, rfl, a, 256, n + 1, rfl, B1, by omega, by decide, by decide, fun r2 H2 _ _ s2 B2 => k r2 _ (s1.trans s2) B2⟩
    · cases o with
      | none =>
        refine ⟨_, rfl, rfl, true, rfl, ?_⟩
        refine iteT ?_
        exact ⟨_, rfl, a, 256, n + 1, rfl, B1, by omega, by decide, by decide, fun r2 H2 _ _ s2 B2 => k r2 _ (s1.trans s2) B2⟩
      | some z =>
        refine ⟨_, rfl, rfl, false, rfl, ?_⟩
        refine iteF ?_
        obtain ⟨v, hv⟩ := seven_at (a := 0) (b := 0) (c := 1) (d := -1) (e := 30) (f := -30) (g := 90) r0 r1
        refine ⟨_, rfl, _, rfl, _, rfl, by show 7 ≤ sizeLine; decide, fun p hp => ⟨_, rfl, p, _, _, _, rfl, rfl, SqL.of upd_same, hv, ?_⟩⟩
        refine ⟨_, _, rfl, rfl, _, _, rfl, _, _, rfl, ?_⟩
        exact k _ _ (s1.trans (Kp.new hp)) ((B1.same (Same.new hp)).le (Nat.le_succ _))
end
end K21

namespace K21
open PySem L2
theorem told_add {H H' : Hp} {t q : Addr} {xs : List V} {es : List Ev} {e : Ev} (h : H t = some (.lst xs)) (hx : EvsAt H xs es) (s : Same H H') (he : EvAt H' (.ref q) e) : ToldAt (L2.upd H' t (.lst (xs ++ [.ref q]))) t (es ++ [e]) := by
  have ht : ∀ b ys, H' b = some (.tup ys) → (L2.upd H' t (.lst (xs ++ [.ref q]))) b = some (.tup ys) := fun b ys hb => by
    have n : b ≠ t := ne_of hb (s _ _ h) (by intro z; cases z)
    rw [upd_ne n]
    exact hb
  exact ⟨_, upd_same, EvsAt.snoc (he.same ht) (hx.same fun b ys hb => ht b ys (s _ _ hb))⟩
theorem isN_eq (m : Sk) : decide (oV m.base = V.non) = isNew m := by
  unfold isNew
  cases m.base with
  | none => rfl
  | some b => rfl
theorem base0_new {m : Sk} {lv : Int} (h : isNew m = true) : base0 m lv = lv := by
  cases m with
  | mk f1 dy nt num base over row calm warned =>
    cases base with
    | none => rfl
    | some b => cases h
theorem base0_old {m : Sk} {lv : Int} (h : ¬ isNew m = true) : some (base0 m lv) = m.base := by
  cases m with
  | mk f1 dy nt num base over row calm warned =>
    cases base with
    | none => exact absurd rfl h
    | some b => rfl
theorem SkAt.kp {C : Addr} {H H' : Hp} {p q : Addr} {m : Sk} (h : SkAt C H p m) (s : Kp H H' q) (n : p ≠ q) : SkAt C H' p m := by
  obtain ⟨dx, e⟩ := h
  exact ⟨dx, s _ _ e n⟩
theorem SkAt.same {C : Addr} {H H' : Hp} {p : Addr} {m : Sk} (h : SkAt C H p m) (s : Same H H') : SkAt C H' p m := by
  obtain ⟨dx, e⟩ := h
  exact ⟨dx, s _ _ e⟩
theorem SkAt.notup {C : Addr} {H : Hp} {p : Addr} {m : Sk} (h : SkAt C H p m) : ∀ xs, H p ≠ some (.tup xs) := fun xs e => by
  obtain ⟨dx, e2⟩ := h
  rw [e2] at e
  cases e
theorem SkAt.nolst {C : Addr} {H : Hp} {p t : Addr} {m : Sk} {es : List Ev} (h : SkAt C H p m) (ht : ToldAt H t es) : t ≠ p := by
  obtain ⟨dx, e2⟩ := h
  obtain ⟨xs, e, _⟩ := ht
  exact ne_of e e2 (by intro z; cases z)
theorem Kp.fresh {C : Addr} {H H' : Hp} {p q : Addr} {m : Sk} (s : Kp H H' p) (h : SkAt C H' p m) (e : H' q = none) : H q = none := by
  obtain ⟨dx, e2⟩ := h
  exact s.free e2 e
def spAsk (C : Addr) : Sp := fun vs H Q _ => ∃ (p : Addr) (m : Sk) (lv : Int) (nt : Bool), vs = [.ref p, .int lv, .bl nt] ∧ SkAt C H p m ∧
  ∀ (t : Addr) (H' : Hp), H t = none → Kp H H' p → SkAt C H' p (step m lv nt) → ToldAt H' t (evs m lv nt) → Q (.ref t) H'
section
variable {P : Program} {w : World} {K : PySem.W.Frag} {mg : Str → Option Value} {base : Heap}
theorem scAsk : FnScope ["self", "level", "night", "new", "rise", "over", "found", "before"] ["self", "level", "night"] (defScope sAsk) := ⟨rfl, rfl, rfl, by decide +kernel, rfl, by decide +kernel, by decide +kernel⟩
theorem ok_ask {f C fC fD : Addr} {fd fdC fdD : FuncData} (F : Fun K "ask" "Seeker.ask" sAsk f fd) (T : Txt K mg C) (FC : Fun K "count_above" "Seeker.count_above" sCount fC fdC) (bC : Binds K fdC ["self", "above"] []) (mC : Meth K C "count_above" fC)
    (FD : Fun K "drift" "Seeker.drift" sDrift fD fdD) (bD : Binds K fdD ["self", "level", "over"] []) (mD : Meth K C "drift" fD) : FnOk P w K mg base CX0 2 f fd ["self", "level", "night"] (spAsk C) := by
  have GC : FnOk P w K mg base CX0 1 fC fdC ["self", "above"] (spCount C) := ok_count FC T
  have GD : FnOk P w K mg base CX0 1 fD fdD ["self", "level", "over"] (spDrift C) := ok_drift FD T
  refine F.ok scAsk (fun vs H Q E h => ?_) (fun cdv A outer s H vs Q E hr h => ?_)
  · obtain ⟨p, m, lv, nt, rfl, _⟩ := h
    rfl
  · obtain ⟨p, m, lv, nt, rfl, S0, k⟩ := h
    have hr1 : Room 1 _ := hr
    obtain ⟨tA, gA⟩ := T.gA
    obtain ⟨tD, gD⟩ := T.gD
    obtain ⟨dx, hp⟩ := id S0
    refine ⟨_, (pss_cons (ps_set (i := 3) scAsk.nd rfl (.inl rfl) (pe_cmpR op_isN (pe_fld (pv 0) rfl) pe_non (nomark _)))
      (C8.pss_cut (ps_if (pt_val (pv 3)) (pss_one (ps_fld (pv 0) (pv 1) rfl)) pss_nil)
      (pss_cons (ps_set (i := 4) scAsk.nd rfl (.inl rfl) (pe_op op_sub (pv 1) (pe_fld (pv 0) rfl)))
      (pss_cons (ps_set (i := 5) scAsk.nd rfl (.inl rfl) (pe_cmpR op_ge (pv 4) (pe_fld (pv 0) rfl) (nomark _)))
      (pss_cons (ps_set (i := 6) scAsk.nd rfl (.inl rfl) (pe_lst pa_nil))
      (C8.pss_cut (ps_if (PW.pt (pw_and (pt_val (pv 5)) (pw_and1 (pt_not (pt_val (pe_fld (pv 0) rfl)))))) (pss_one (ps_expr (pe_bm PySem.F.plainAttrs_list PySem.F.slot_list_append PySem.F.type_list_append mt_append (pv 6) (pa_cons (pe_tup (pa_cons pe_str (pa_cons (pe_fld (pv 0) rfl) pa_nil))) pa_nil)))) pss_nil)
      (pss_cons (ps_fld (pv 0) (pv 5) rfl)
      (C8.pss_cut (ps_expr (pe_meth (pv 0) T.cl mC GC hr1 bC .nil pass0 (pa_cons (pe_cmpR op_ge (pv 4) (pe_ifExp (pt_val (pv 2)) (pe_fld (pv 0) rfl) (pe_fld (pv 0) rfl)) (nomark _)) pa_nil)))
      (C8.pss_cut (ps_if (PW.pt (pw_and (pt_cmpR op_ge (pe_fld (pv 0) rfl) (pe_glob (v := .int 3) rfl gA ⟨_, rfl⟩) (nomark _)) (pw_and1 (pt_not (pt_val (pe_fld (pv 0) rfl)))))) (pss_cons (ps_fld (pv 0) pe_bl rfl)
      (pss_one (ps_expr (pe_bm PySem.F.plainAttrs_list PySem.F.slot_list_append PySem.F.type_list_append mt_append (pv 6) (pa_cons (pe_tup (pa_cons pe_str (pa_cons (pe_tup (pa_cons (pe_op op_sub (pe_fld (pv 0) rfl) pe_int) (pa_cons (pe_op op_sub (pe_fld (pv 0) rfl) pe_int) (pa_cons (pe_fld (pv 0) rfl) pa_nil)))) pa_nil))) pa_nil))))) pss_nil)
      (pss_cons (ps_set (i := 7) scAsk.nd rfl (.inl rfl) (pe_fld (pv 0) rfl))
      (pss_cons (ps_expr (pe_meth (pv 0) T.cl mD GD hr1 bD .nil pass0 (pa_cons (pv 1) (pa_cons (pv 5) pa_nil))))
      (C8.pss_cut (ps_if (PW.pt (pw_and (pt_cmpR op_ge (pe_fld (pv 0) rfl) (pe_glob (v := .int 100) rfl gD ⟨_, rfl⟩) (nomark _)) (pw_and1 (PW.pt (pw_or (pt_val (pv 3)) (pw_or1 (pt_cmpR op_lt (pv 7) (pe_glob (v := .int 100) rfl gD ⟨_, rfl⟩) (nomark _)))))))) (pss_one (ps_expr (pe_bm PySem.F.plainAttrs_list PySem.F.slot_list_append PySem.F.type_list_append mt_append (pv 6) (pa_cons (pe_tup (pa_cons pe_str (pa_cons (pe_fld (pv 0) rfl) pa_nil))) pa_nil)))) pss_nil)
      (pss_cons (ps_fldaug (pv 0) pe_int in_add)
      (pss_one (ps_ret (pv 6)))))))))))))))), ?_⟩
    -- new
    refine ⟨_, rfl, p, C, dx, _, _, rfl, hp, T.cl, T.nBase, at_base m, rfl, ?_⟩
    rw [isN_eq]
    -- if new
    refine ⟨fun σ H1 => σ = [some (.ref p), some (.int lv), some (.bl nt), some (.bl (isNew m)), none, none, none, none] ∧ Kp H H1 p ∧ SkAt C H1 p { m with base := some (base0 m lv) }, ?_, ?_⟩
    · refine ⟨_, rfl, isNew m, rfl, ?_⟩
      refine ite2 (fun hn => ?_) (fun hn => ?_)
      · refine ⟨_, rfl, _, rfl, p, C, dx, _, rfl, hp, T.cl, T.nBase, flds_len m, ?_⟩
        refine ⟨rfl, Kp.upd _ _ _, dx, ?_⟩
        rw [upd_same, put_base, base0_new hn]
      · refine ⟨rfl, Kp.refl _ _, dx, ?_⟩
        rw [base0_old hn]
        exact hp
    rintro σ H1 ⟨rfl, k1, S1⟩
    obtain ⟨dx1, hp1⟩ := id S1
    -- rise, over, found
    refine ⟨_, rfl, _, rfl, p, C, dx1, _, _, rfl, hp1, T.cl, T.nBase, at_base _, _, _, rfl, rfl, ?_⟩
    refine ⟨_, rfl, _, rfl, p, C, dx1, _, _, rfl, hp1, T.cl, T.nFirst, at_first _, _, _, rfl, rfl, ?_⟩
    refine ⟨Nat.zero_le _, fun t ht => ?_⟩
    have ht0 : H t = none := k1.fresh S1 ht
    -- the first word
    refine ⟨fun σ H2 => σ = [some (.ref p), some (.int lv), some (.bl nt), some (.bl (isNew m)), some (.int (rise m lv)), some (.bl (ovr m lv)), some (.ref t), none] ∧ Kp H H2 p ∧ SkAt C H2 p { m with base := some (base0 m lv) } ∧ ToldAt H2 t (evF m lv), ?_, ?_⟩
    · have S2 := S1.same (Same.new (o := .lst []) ht)
      obtain ⟨dx2, hp2⟩ := id S2
      refine ⟨_, rfl, ovr m lv, rfl, ?_⟩
      refine ite2 (fun ho => ?_) (fun ho => ?_)
      · refine ⟨_, rfl, p, C, dx2, _, _, rfl, hp2, T.cl, T.nOver, at_over _, m.over, rfl, ?_⟩
        refine ite2 (fun hv => ?_) (fun hv => ?_)
        · refine ⟨_, rfl, .inl ⟨rfl, _, SqL.of upd_same⟩, _, rfl, p, C, dx2, _, _, rfl, hp2, T.cl, T.nNum, at_num _, by show 2 ≤ sizeLine; decide, fun q hq => ?_⟩
          have nqt : t ≠ q := ne_of_none upd_same hq
          refine ⟨t, [], _, rfl, rfl, (upd_ne nqt).trans upd_same, by show 0 < sizeLine; decide, ?_⟩
          refine ⟨rfl, ((k1.trans (Kp.new ht)).trans (Kp.new hq)).mut ht0, ?_, ?_⟩
          · exact (S2.same (Same.new hq)).kp (Kp.upd _ t _) (S2.nolst ⟨[], upd_same, .nil⟩).symm
          · have e : evF m lv = [] ++ [.first m.num] := by
              unfold evF
              rw [ho, hv]
              rfl
            rw [e]
            exact told_add upd_same .nil (Same.new hq) (.first upd_same)
        · refine ⟨rfl, k1.trans (Kp.new ht), S2, ?_⟩
          have e : evF m lv = [] := by
            unfold evF
            rw [ho]
            exact if_neg hv
          rw [e]
          exact ⟨[], upd_same, .nil⟩
      · refine iteF ?_
        refine ⟨rfl, k1.trans (Kp.new ht), S2, ?_⟩
        have e : evF m lv = [] := by
          unfold evF
          rw [Bool.eq_false_iff.mpr ho]
          rfl
        rw [e]
        exact ⟨[], upd_same, .nil⟩
    rintro σ H2 ⟨rfl, k2, S2, T2⟩
    obtain ⟨dx2, hp2⟩ := id S2
    -- over_first
    refine ⟨_, rfl, _, rfl, p, C, dx2, _, rfl, hp2, T.cl, T.nOver, flds_len _, ?_⟩
    rw [put_over]
    have T3 : ToldAt (L2.upd H2 p (.ins C dx2 (flds { m with base := some (base0 m lv), over := ovr m lv }))) t (evF m lv) := T2.kp (Kp.upd _ _ _) (S2.nolst T2) S2.notup
    have k3 := k2.trans (Kp.upd H2 p (.ins C dx2 (flds { m with base := some (base0 m lv), over := ovr m lv })))
    have S3 : SkAt C (L2.upd H2 p (.ins C dx2 (flds { m with base := some (base0 m lv), over := ovr m lv }))) p { m with base := some (base0 m lv), over := ovr m lv } := ⟨dx2, upd_same⟩
    generalize L2.upd H2 p (.ins C dx2 (flds { m with base := some (base0 m lv), over := ovr m lv })) = H3 at T3 k3 S3 ⊢
    obtain ⟨dx3, hp3⟩ := id S3
    -- count_above
    refine ⟨fun σ H4 => σ = [some (.ref p), some (.int lv), some (.bl nt), some (.bl (isNew m)), some (.int (rise m lv)), some (.bl (ovr m lv)), some (.ref t), none] ∧ Kp H H4 p ∧ SkAt C H4 p { m with base := some (base0 m lv), over := ovr m lv, row := row1 m lv nt } ∧ ToldAt H4 t (evF m lv), ?_, ?_⟩
    · refine ⟨_, rfl, p, dx3, _, rfl, hp3, flds_no _ (by decide +kernel), _, rfl, _, rfl, nt, rfl, ?_⟩
      refine ite2 (fun hn => ?_) (fun hn => ?_)
      · refine ⟨_, rfl, p, C, dx3, _, _, rfl, hp3, T.cl, T.nNight, at_night _, _, _, rfl, rfl, ?_⟩
        refine ⟨p, _, _, rfl, S3, fun H4 k4 S4 => ⟨rfl, k3.trans k4, ?_, T3.kp k4 (S3.nolst T3) S3.notup⟩⟩
        have e : row1 m lv nt = rowOf m.row (decide (m.nt ≤ rise m lv)) := by
          unfold row1 abv mkOf
          rw [if_pos hn]
        rw [e]
        exact S4
      · refine ⟨_, rfl, p, C, dx3, _, _, rfl, hp3, T.cl, T.nDay, at_day _, _, _, rfl, rfl, ?_⟩
        refine ⟨p, _, _, rfl, S3, fun H4 k4 S4 => ⟨rfl, k3.trans k4, ?_, T3.kp k4 (S3.nolst T3) S3.notup⟩⟩
        have e : row1 m lv nt = rowOf m.row (decide (m.dy ≤ rise m lv)) := by
          unfold row1 abv mkOf
          rw [if_neg hn]
        rw [e]
        exact S4
    rintro σ H4 ⟨rfl, k4, S4, T4⟩
    obtain ⟨dx4, hp4⟩ := id S4
    -- the warning
    refine ⟨fun σ H5 => σ = [some (.ref p), some (.int lv), some (.bl nt), some (.bl (isNew m)), some (.int (rise m lv)), some (.bl (ovr m lv)), some (.ref t), none] ∧ Kp H H5 p ∧ SkAt C H5 p { m with base := some (base0 m lv), over := ovr m lv, row := row1 m lv nt, warned := warn1 m lv nt } ∧ ToldAt H5 t (evF m lv ++ evW m lv nt), ?_, ?_⟩
    · refine ⟨_, rfl, p, C, dx4, _, _, rfl, hp4, T.cl, T.nRow, at_row _, _, _, rfl, rfl, decide (3 ≤ row1 m lv nt), rfl, ?_⟩
      refine ite2 (fun h3 => ?_) (fun h3 => ?_)
      · refine ⟨_, rfl, p, C, dx4, _, _, rfl, hp4, T.cl, T.nWarned, at_warned _, m.warned, rfl, ?_⟩
        refine ite2 (fun hv => ?_) (fun hv => ?_)
        · refine ⟨_, rfl, p, C, dx4, _, rfl, hp4, T.cl, T.nWarned, flds_len _, ?_⟩
          rw [put_warned]
          have T5 : ToldAt (L2.upd H4 p (.ins C dx4 (flds { m with base := some (base0 m lv), over := ovr m lv, row := row1 m lv nt, warned := true }))) t (evF m lv) := T4.kp (Kp.upd _ _ _) (S4.nolst T4) S4.notup
          have k5 := k4.trans (Kp.upd H4 p (.ins C dx4 (flds { m with base := some (base0 m lv), over := ovr m lv, row := row1 m lv nt, warned := true })))
          have hp5 : (L2.upd H4 p (.ins C dx4 (flds { m with base := some (base0 m lv), over := ovr m lv, row := row1 m lv nt, warned := true }))) p = some (.ins C dx4 (flds { m with base := some (base0 m lv), over := ovr m lv, row := row1 m lv nt, warned := true })) := upd_same
          have S5 : SkAt C (L2.upd H4 p (.ins C dx4 (flds { m with base := some (base0 m lv), over := ovr m lv, row := row1 m lv nt, warned := true }))) p { m with base := some (base0 m lv), over := ovr m lv, row := row1 m lv nt, warned := true } := ⟨dx4, hp5⟩
          generalize L2.upd H4 p (.ins C dx4 (flds { m with base := some (base0 m lv), over := ovr m lv, row := row1 m lv nt, warned := true })) = H5 at T5 k5 hp5 S5 ⊢
          obtain ⟨xs, hL, hX⟩ := id T5
          have hlen : xs.length ≤ 1 := by
            rw [hX.length]
            unfold evF
            split <;> simp
          refine ⟨_, rfl, .inl ⟨rfl, _, SqL.of hL⟩, _, rfl, p, C, dx4, _, _, rfl, hp5, T.cl, T.nNum, at_num _, _, _, rfl, rfl, _, rfl, p, C, dx4, _, _, rfl, hp5, T.cl, T.nNum, at_num _, _, _, rfl, rfl,
            _, rfl, p, C, dx4, _, _, rfl, hp5, T.cl, T.nNum, at_num _, by show 3 ≤ sizeLine; decide, fun q hq => ?_⟩
          refine ⟨by show 2 ≤ sizeLine; decide, fun r hr' => ?_⟩
          have s6 : Same H5 (L2.upd (L2.upd H5 q (.tup [.int (m.num - 2), .int (m.num - 1), .int m.num])) r (.tup [.str "warning", .ref q])) := (Same.new hq).trans (Same.new hr')
          refine ⟨t, xs, _, rfl, rfl, s6 _ _ hL, small1000 (by omega), ?_⟩
          refine ⟨rfl, (k5.trans (Kp.of s6)).mut ht0, ?_, ?_⟩
          · have ew : warn1 m lv nt = true := by
              unfold warn1
              rw [h3, Bool.or_true]
            rw [ew]
            exact (S5.same s6).kp (Kp.upd _ t _) (S5.nolst T5).symm
          · have e : evW m lv nt = [.warn m.num] := by
              unfold evW wrn
              rw [h3, hv]
              rfl
            rw [e]
            exact told_add hL hX s6 (.warn upd_same ((upd_ne (ne_of_none upd_same hr')).trans upd_same))
        · refine ⟨rfl, k4, ?_, ?_⟩
          · have hw : m.warned = true := by
              cases e : m.warned with
              | true => rfl
              | false => rw [e] at hv; exact absurd rfl hv
            have ew : warn1 m lv nt = m.warned := by
              unfold warn1
              rw [hw, Bool.true_or]
            rw [ew]
            exact S4
          · have e : evW m lv nt = [] := by
              unfold evW wrn
              rw [h3]
              exact if_neg hv
            rw [e, List.append_nil]
            exact T4
      · refine iteF ?_
        have h3' : decide (3 ≤ row1 m lv nt) = false := Bool.eq_false_iff.mpr h3
        refine ⟨rfl, k4, ?_, ?_⟩
        · have ew : warn1 m lv nt = m.warned := by
            unfold warn1
            rw [h3', Bool.or_false]
          rw [ew]
          exact S4
        · have e : evW m lv nt = [] := by
            unfold evW wrn
            rw [h3']
            rfl
          rw [e, List.append_nil]
          exact T4
    rintro σ H5 ⟨rfl, k5, S5, T5⟩
    obtain ⟨dx5, hp5⟩ := id S5
    -- before; drift
    refine ⟨_, rfl, p, C, dx5, _, _, rfl, hp5, T.cl, T.nBase, at_base _, ?_⟩
    refine ⟨_, rfl, p, dx5, _, rfl, hp5, flds_no _ (by decide +kernel), _, rfl, _, rfl, ?_⟩
    refine ⟨p, _, base0 m lv, lv, ovr m lv, rfl, S5, rfl, fun H6 k6 S6 => ?_⟩
    have T6 := T5.kp k6 (S5.nolst T5) S5.notup
    have k6' := k5.trans k6
    obtain ⟨dx6, hp6⟩ := id S6
    -- dirt
    refine ⟨fun σ H7 => σ = [some (.ref p), some (.int lv), some (.bl nt), some (.bl (isNew m)), some (.int (rise m lv)), some (.bl (ovr m lv)), some (.ref t), some (.int (base0 m lv))] ∧ Kp H H7 p ∧
      SkAt C H7 p { m with base := some (base1 m lv), over := ovr m lv, row := row1 m lv nt, calm := calmOf m.calm (ovr m lv), warned := warn1 m lv nt } ∧ ToldAt H7 t (evs m lv nt), ?_, ?_⟩
    · have yes : drt m lv = true → ToldAt H6 t (evF m lv ++ evW m lv nt) := fun _ => T6
      have no : drt m lv = false → ToldAt H6 t (evs m lv nt) := fun e => by
        unfold evs evD
        rw [e, if_neg Bool.false_ne_true, List.append_nil]
        exact T6
      refine ⟨_, rfl, p, C, dx6, _, _, rfl, hp6, T.cl, T.nBase, at_base _, _, _, rfl, rfl, decide (100 ≤ base1 m lv), rfl, ?_⟩
      -- the word itself
      have put : drt m lv = true → ∀ q : Addr, H6 q = none → ∀ xs, H6 t = some (.lst xs) → EvsAt H6 xs (evF m lv ++ evW m lv nt) →
          ToldAt (L2.upd (L2.upd H6 q (.tup [.str "dirt", .int (base1 m lv)])) t (.lst (xs ++ [.ref q]))) t (evs m lv nt) := fun hd q hq xs hL hX => by
        unfold evs evD
        rw [hd, if_pos rfl]
        exact told_add hL hX (Same.new hq) (.dirt upd_same)
      obtain ⟨xs, hL, hX⟩ := id T6
      have hlen : xs.length ≤ 2 := by
        rw [hX.length, List.length_append]
        unfold evF evW
        split <;> split <;> simp
      refine ite2 (fun h1 => ?_) (fun h1 => ?_)
      · refine ⟨_, rfl, isNew m, rfl, ?_⟩
        refine ite2 (fun hn => ?_) (fun hn => ?_)
        · have hd : drt m lv = true := by
            unfold drt
            rw [h1, hn]
            rfl
          refine iteT ?_
          refine ⟨_, rfl, .inl ⟨rfl, _, SqL.of hL⟩, _, rfl, p, C, dx6, _, _, rfl, hp6, T.cl, T.nBase, at_base _, by show 2 ≤ sizeLine; decide, fun q hq => ?_⟩
          refine ⟨t, xs, _, rfl, rfl, Same.new hq _ _ hL, small1000 (by omega), ?_⟩
          exact ⟨rfl, (k6'.trans (Kp.new hq)).mut ht0, (S6.same (Same.new hq)).kp (Kp.upd _ t _) (S6.nolst T6).symm, put hd q hq xs hL hX⟩
        · refine ⟨_, rfl, _, _, rfl, rfl, decide (base0 m lv < 100), rfl, ?_⟩
          refine ite2 (fun h2 => ?_) (fun h2 => ?_)
          · have hd : drt m lv = true := by
              unfold drt
              rw [h1, h2, Bool.or_true]
              rfl
            refine ⟨_, rfl, .inl ⟨rfl, _, SqL.of hL⟩, _, rfl, p, C, dx6, _, _, rfl, hp6, T.cl, T.nBase, at_base _, by show 2 ≤ sizeLine; decide, fun q hq => ?_⟩
            refine ⟨t, xs, _, rfl, rfl, Same.new hq _ _ hL, small1000 (by omega), ?_⟩
            exact ⟨rfl, (k6'.trans (Kp.new hq)).mut ht0, (S6.same (Same.new hq)).kp (Kp.upd _ t _) (S6.nolst T6).symm, put hd q hq xs hL hX⟩
          · refine ⟨rfl, k6', S6, no ?_⟩
            unfold drt
            rw [Bool.eq_false_iff.mpr hn, Bool.eq_false_iff.mpr h2, Bool.or_false, Bool.and_false]
      · refine iteF ?_
        refine ⟨rfl, k6', S6, no ?_⟩
        unfold drt
        rw [Bool.eq_false_iff.mpr h1, Bool.false_and]
    rintro σ H7 ⟨rfl, k7, S7, T7⟩
    obtain ⟨dx7, hp7⟩ := id S7
    refine ⟨_, rfl, p, C, dx7, _, _, rfl, hp7, T.cl, T.nNum, at_num _, _, _, rfl, rfl, dx7, _, hp7, flds_len _, ?_⟩
    rw [put_num]
    refine ⟨_, rfl, ?_⟩
    exact k t _ ht0 (k7.trans (Kp.upd _ _ _)) ⟨dx7, upd_same⟩ (T7.kp (Kp.upd _ _ _) (S7.nolst T7) S7.notup)
end
end K21

namespace K21
open PySem L2
def stV (m : Sk) : List V := [.int m.num, oV m.base, .bl m.over, .int m.row, .int m.calm, .bl m.warned]
def marksV (m : Sk) : List V := [.int m.f1, .int m.dy, .int m.nt]
def calmL (m : Sk) (lv : Int) : Int := if ovr m lv = true then 0 else m.calm + 1
def spAsked : Sp := fun vs H Q _ => ∃ (a q : Addr) (m : Sk) (lv : Int) (nt : Bool), vs = [.ref a, .ref q, .int lv, .bl nt] ∧ H a = some (.lst (stV m)) ∧ H q = some (.tup (marksV m)) ∧ m.calm < 4 ∧
  ∀ (r b t : Addr) (H' : Hp), H r = none → H b = none → H t = none → Same H H' → H' r = some (.tup [.ref b, .ref t]) → H' b = some (.lst (stV (step m lv nt))) → ToldAt H' t (evs m lv nt) → Q (.ref r) H'
theorem mark_at (m : Sk) (nt : Bool) : atI (marksV m) (1 + (if nt = true then 1 else 0)) = some (.int (mkOf m nt)) := by
  cases nt with
  | true => rfl
  | false => rfl
theorem three_le (r : Int) : decide (2 < r) = decide (3 ≤ r) := by
  by_cases h : 3 ≤ r
  · rw [decide_eq_true h, decide_eq_true (by omega : 2 < r)]
  · rw [decide_eq_false h, decide_eq_false (by omega : ¬ 2 < r)]
theorem hund_le (r : Int) : decide (99 < r) = decide (100 ≤ r) := by
  by_cases h : 100 ≤ r
  · rw [decide_eq_true h, decide_eq_true (by omega : 99 < r)]
  · rw [decide_eq_false h, decide_eq_false (by omega : ¬ 99 < r)]
/-- the calm row came to four -/
theorem calm_four {m : Sk} {lv : Int} (hc : m.calm < 4) (h : calmL m lv = 4) : calmOf m.calm (ovr m lv) = 0 ∧
    base1 m lv = base0 m lv + (if decide (base0 m lv < lv) = true then 1 else 0) - (if decide (lv < base0 m lv) = true then 1 else 0) := by
  unfold calmL at h
  by_cases ho : ovr m lv = true
  · rw [if_pos ho] at h
    exact absurd h (by decide)
  · rw [if_neg ho] at h
    have h4 : ¬ m.calm + 1 < 4 := by omega
    refine ⟨?_, ?_⟩
    · unfold calmOf
      rw [if_neg ho, if_neg h4]
    · unfold base1 baseOf
      rw [if_neg ho, if_neg h4]
      by_cases h1 : base0 m lv < lv
      · have d1 := decide_eq_true h1
        have d2 := decide_eq_false (show ¬ lv < base0 m lv by omega)
        rw [if_pos h1, d1, d2, if_pos rfl, if_neg Bool.false_ne_true]
        omega
      · have d1 := decide_eq_false h1
        rw [if_neg h1, d1, if_neg Bool.false_ne_true]
        by_cases h2 : lv < base0 m lv
        · have d2 := decide_eq_true h2
          rw [if_pos h2, d2, if_pos rfl]
          omega
        · have d2 := decide_eq_false h2
          rw [if_neg h2, d2, if_neg Bool.false_ne_true]
          omega
theorem calm_less {m : Sk} {lv : Int} (hc : m.calm < 4) (h : ¬ calmL m lv = 4) : calmOf m.calm (ovr m lv) = calmL m lv ∧ base1 m lv = base0 m lv := by
  unfold calmL at h ⊢
  by_cases ho : ovr m lv = true
  · unfold calmOf base1 baseOf
    rw [if_pos ho, if_pos ho, if_pos ho]
    exact ⟨rfl, rfl⟩
  · rw [if_neg ho] at h
    have h4 : m.calm + 1 < 4 := by omega
    unfold calmOf base1 baseOf
    rw [if_neg ho, if_neg ho, if_neg ho, if_pos h4, if_pos h4]
    exact ⟨rfl, rfl⟩
section
variable {P : Program} {w : World} {K : PySem.W.Frag} {mg : Str → Option Value} {base : Heap}
theorem scAsked : FnScope ["_law_state", "_law_marks_here", "_law_level_here", "_law_night", "_law_number", "_law_base", "_law_over", "_law_row", "_law_calm", "_law_warned", "_law_new", "_law_rise", "_law_found", "_law_now"]
    ["_law_state", "_law_marks_here", "_law_level_here", "_law_night"] (defScope sAsked) := ⟨rfl, rfl, rfl, by decide +kernel, rfl, by decide +kernel, by decide +kernel⟩
theorem ok_asked {f C : Addr} {fd : FuncData} (F : Fun K "_law_asked" "_law_asked" sAsked f fd) (T : Txt K mg C) : FnOk P w K mg base CX0 1 f fd ["_law_state", "_law_marks_here", "_law_level_here", "_law_night"] spAsked := by
  refine F.ok scAsked (fun vs H Q E h => ?_) (fun cdv A outer s H vs Q E hr h => ?_)
  · obtain ⟨a, q, m, lv, nt, rfl, _⟩ := h
    rfl
  · obtain ⟨a, q, m, lv, nt, rfl, ha, hq, hc, k⟩ := h
    refine ⟨_, (pss_cons (ps_asg (pv 0) (pg_unl rfl (pgs_cons (pg_name (i := 4) scAsked.nd rfl (.inl rfl)) (pgs_cons (pg_name (i := 5) scAsked.nd rfl (.inl rfl)) (pgs_cons (pg_name (i := 6) scAsked.nd rfl (.inl rfl)) (pgs_cons (pg_name (i := 7) scAsked.nd rfl (.inl rfl)) (pgs_cons (pg_name (i := 8) scAsked.nd rfl (.inl rfl)) (pgs_cons (pg_name (i := 9) scAsked.nd rfl (.inl rfl)) pgs_nil))))))))
      (pss_cons (ps_set (i := 10) scAsked.nd rfl (.inl rfl) (pe_cmpR op_isN (pv 5) pe_non (nomark _)))
      (C8.pss_cut (ps_if (pt_val (pv 10)) (pss_one (ps_set (i := 5) scAsked.nd rfl (.inl rfl) (pv 2))) pss_nil)
      (pss_cons (ps_set (i := 11) scAsked.nd rfl (.inl rfl) (pe_op op_sub (pv 2) (pv 5)))
      (pss_cons (ps_set (i := 12) scAsked.nd rfl (.inl rfl) (pe_lst pa_nil))
      (C8.pss_cut (ps_if (PW.pt (pw_and (pt_cmpR op_ge (pv 11) (pe_ix ix_tup (pv 1) pe_int (fun _ _ => rfl)) (nomark _)) (pw_and1 (pt_not (pt_val (pv 6)))))) (pss_one (ps_expr (pe_bm PySem.F.plainAttrs_list PySem.F.slot_list_append PySem.F.type_list_append mt_append (pv 12) (pa_cons (pe_tup (pa_cons pe_str (pa_cons (pv 4) pa_nil))) pa_nil)))) pss_nil)
      (C8.pss_cut (ps_set (i := 7) scAsked.nd rfl (.inl rfl) (pe_ifExp (pt_cmpR op_ge (pv 11) (pe_ix ix_tup (pv 1) (pe_op op_add pe_int (pe_callTy call_int1 (by rfl) T.int (by decide +kernel) (pa_cons (pv 3) pa_nil))) (fun _ _ => rfl)) (nomark _)) (pe_op op_add (pv 7) pe_int) pe_int))
      (C8.pss_cut (ps_if (PW.pt (pw_and (pt_cmpR op_gt (pv 7) pe_int (nomark _)) (pw_and1 (pt_not (pt_val (pv 9)))))) (pss_one (ps_expr (pe_bm PySem.F.plainAttrs_list PySem.F.slot_list_append PySem.F.type_list_append mt_append (pv 12) (pa_cons (pe_tup (pa_cons pe_str (pa_cons (pe_tup (pa_cons (pe_op op_sub (pv 4) pe_int) (pa_cons (pe_op op_sub (pv 4) pe_int) (pa_cons (pv 4) pa_nil)))) pa_nil))) pa_nil)))) pss_nil)
      (C8.pss_cut (ps_set (i := 8) scAsked.nd rfl (.inl rfl) (pe_ifExp (pt_cmpR op_ge (pv 11) (pe_ix ix_tup (pv 1) pe_int (fun _ _ => rfl)) (nomark _)) pe_int (pe_op op_add (pv 8) pe_int)))
      (pss_cons (ps_set (i := 13) scAsked.nd rfl (.inl rfl) (pv 5))
      (C8.pss_cut (ps_if (pt_cmpR op_eq (pv 8) pe_int (nomark _)) (pss_cons (ps_set (i := 8) scAsked.nd rfl (.inl rfl) pe_int)
      (pss_one (ps_set (i := 13) scAsked.nd rfl (.inl rfl) (pe_op op_sub (pe_op op_add (pv 5) (pe_callTy call_int1 (by rfl) T.int (by decide +kernel) (pa_cons (pe_cmpR op_gt (pv 2) (pv 5) (nomark _)) pa_nil))) (pe_callTy call_int1 (by rfl) T.int (by decide +kernel) (pa_cons (pe_cmpR op_lt (pv 2) (pv 5) (nomark _)) pa_nil)))))) pss_nil)
      (C8.pss_cut (ps_if (PW.pt (pw_and (pt_cmpR op_gt (pv 13) pe_int (nomark _)) (pw_and1 (PW.pt (pw_or (pt_val (pv 10)) (pw_or1 (pt_cmpR op_lt (pv 5) pe_int (nomark _)))))))) (pss_one (ps_expr (pe_bm PySem.F.plainAttrs_list PySem.F.slot_list_append PySem.F.type_list_append mt_append (pv 12) (pa_cons (pe_tup (pa_cons pe_str (pa_cons (pv 13) pa_nil))) pa_nil)))) pss_nil)
      (pss_one (ps_ret (pe_tup (pa_cons (pe_lst (pa_cons (pe_op op_add (pv 4) pe_int) (pa_cons (pv 13) (pa_cons (pe_cmpR op_ge (pv 11) (pe_ix ix_tup (pv 1) pe_int (fun _ _ => rfl)) (nomark _)) (pa_cons (pv 7) (pa_cons (pv 8) (pa_cons (pe_or (pv 9) (pe_one (pe_cmpR op_gt (pv 7) pe_int (nomark _)))) pa_nil))))))) (pa_cons (pv 12) pa_nil))))))))))))))))), ?_⟩
    refine ⟨_, rfl, a, _, rfl, SqL.of ha, rfl, _, _, rfl, _, _, rfl, _, _, rfl, _, _, rfl, _, _, rfl, _, _, rfl, rfl, ?_⟩
    refine ⟨_, rfl, rfl, ?_⟩
    rw [isN_eq]
    -- new
    refine ⟨fun σ H1 => σ = [some (.ref a), some (.ref q), some (.int lv), some (.bl nt), some (.int m.num), some (.int (base0 m lv)), some (.bl m.over), some (.int m.row), some (.int m.calm), some (.bl m.warned), some (.bl (isNew m)), none, none, none] ∧ H1 = H, ?_, ?_⟩
    · refine ⟨_, rfl, isNew m, rfl, ?_⟩
      refine ite2 (fun hn => ?_) (fun hn => ?_)
      · refine ⟨_, rfl, ?_, rfl⟩
        rw [base0_new hn]
        rfl
      · refine ⟨?_, rfl⟩
        have e : oV m.base = .int (base0 m lv) := by rw [← base0_old (lv := lv) hn]; rfl
        show [some (V.ref a), some (V.ref q), some (V.int lv), some (V.bl nt), some (V.int m.num), some (oV m.base), some (V.bl m.over), some (V.int m.row), some (V.int m.calm), some (V.bl m.warned), some (V.bl (isNew m)), none, none, none] = _
        rw [e]
    rintro σ H1 ⟨rfl, e1⟩
    subst H1
    -- rise, found
    refine ⟨_, rfl, _, rfl, _, _, rfl, rfl, Nat.zero_le _, fun t ht => ?_⟩
    -- the first word
    refine ⟨fun σ H2 => σ = [some (.ref a), some (.ref q), some (.int lv), some (.bl nt), some (.int m.num), some (.int (base0 m lv)), some (.bl m.over), some (.int m.row), some (.int m.calm), some (.bl m.warned), some (.bl (isNew m)), some (.int (rise m lv)), some (.ref t), none] ∧ Same H H2 ∧ ToldAt H2 t (evF m lv), ?_, ?_⟩
    · have s2 : Same H (L2.upd H t (.lst [])) := Same.new ht
      refine ⟨_, rfl, _, rfl, q, _, _, _, rfl, rfl, SqT.of (s2 _ _ hq), rfl, _, _, rfl, rfl, ovr m lv, rfl, ?_⟩
      refine ite2 (fun ho => ?_) (fun ho => ?_)
      · refine ⟨_, rfl, m.over, rfl, ?_⟩
        refine ite2 (fun hv => ?_) (fun hv => ?_)
        · refine ⟨_, rfl, .inl ⟨rfl, _, SqL.of upd_same⟩, _, rfl, by show 2 ≤ sizeLine; decide, fun p hp => ?_⟩
          refine ⟨t, [], _, rfl, rfl, Same.new hp _ _ upd_same, by show 0 < sizeLine; decide, ?_⟩
          refine ⟨rfl, Same.mut (s2.trans (Same.new hp)) ht, ?_⟩
          have e : evF m lv = [] ++ [.first m.num] := by
            unfold evF
            rw [ho, hv]
            rfl
          rw [e]
          exact told_add upd_same .nil (Same.new hp) (.first upd_same)
        · refine ⟨rfl, s2, ?_⟩
          have e : evF m lv = [] := by
            unfold evF
            rw [ho]
            exact if_neg hv
          rw [e]
          exact ⟨[], upd_same, .nil⟩
      · refine iteF ?_
        refine ⟨rfl, s2, ?_⟩
        have e : evF m lv = [] := by
          unfold evF
          rw [Bool.eq_false_iff.mpr ho]
          rfl
        rw [e]
        exact ⟨[], upd_same, .nil⟩
    rintro σ H2 ⟨rfl, s2, T2⟩
    -- the row
    refine ⟨fun σ H3 => σ = [some (.ref a), some (.ref q), some (.int lv), some (.bl nt), some (.int m.num), some (.int (base0 m lv)), some (.bl m.over), some (.int (row1 m lv nt)), some (.int m.calm), some (.bl m.warned), some (.bl (isNew m)), some (.int (rise m lv)), some (.ref t), none] ∧ H3 = H2, ?_, ?_⟩
    · refine ⟨_, rfl, _, rfl, _, rfl, .inr ⟨nt, rfl, _, _, rfl, rfl, q, _, _, _, rfl, rfl, SqT.of (s2 _ _ hq), mark_at m nt, _, _, rfl, rfl, abv m lv nt, rfl, ?_⟩⟩
      refine ite2 (fun ho => ?_) (fun ho => ?_)
      · refine ⟨_, rfl, _, _, rfl, rfl, ?_, rfl⟩
        have e : row1 m lv nt = m.row + 1 := by
          unfold row1 rowOf
          rw [if_pos ho]
        rw [e]
        rfl
      · refine ⟨?_, rfl⟩
        have e : row1 m lv nt = 0 := by
          unfold row1 rowOf
          rw [if_neg ho]
        rw [e]
        rfl
    rintro σ H3 ⟨rfl, e3⟩
    subst H3
    -- the warning
    refine ⟨fun σ H4 => σ = [some (.ref a), some (.ref q), some (.int lv), some (.bl nt), some (.int m.num), some (.int (base0 m lv)), some (.bl m.over), some (.int (row1 m lv nt)), some (.int m.calm), some (.bl m.warned), some (.bl (isNew m)), some (.int (rise m lv)), some (.ref t), none] ∧ Same H H4 ∧ ToldAt H4 t (evF m lv ++ evW m lv nt), ?_, ?_⟩
    · refine ⟨_, rfl, _, _, rfl, rfl, decide (2 < row1 m lv nt), rfl, ?_⟩
      rw [three_le]
      refine ite2 (fun h3 => ?_) (fun h3 => ?_)
      · refine ⟨_, rfl, m.warned, rfl, ?_⟩
        refine ite2 (fun hv => ?_) (fun hv => ?_)
        · obtain ⟨xs, hL, hX⟩ := id T2
          have hlen : xs.length ≤ 1 := by
            rw [hX.length]
            unfold evF
            split <;> simp
          refine ⟨_, rfl, .inl ⟨rfl, _, SqL.of hL⟩, _, rfl, _, _, rfl, rfl, _, rfl, _, _, rfl, rfl, _, rfl, by show 3 ≤ sizeLine; decide, fun p hp => ?_⟩
          refine ⟨by show 2 ≤ sizeLine; decide, fun r hr' => ?_⟩
          have s6 : Same H2 (L2.upd (L2.upd H2 p (.tup [.int (m.num - 2), .int (m.num - 1), .int m.num])) r (.tup [.str "warning", .ref p])) := (Same.new hp).trans (Same.new hr')
          refine ⟨t, xs, _, rfl, rfl, s6 _ _ hL, small1000 (by omega), ?_⟩
          refine ⟨rfl, Same.mut (s2.trans s6) ht, ?_⟩
          have e : evW m lv nt = [.warn m.num] := by
            unfold evW wrn
            rw [h3, hv]
            rfl
          rw [e]
          exact told_add hL hX s6 (.warn upd_same ((upd_ne (ne_of_none upd_same hr')).trans upd_same))
        · refine ⟨rfl, s2, ?_⟩
          have e : evW m lv nt = [] := by
            unfold evW wrn
            rw [h3]
            exact if_neg hv
          rw [e, List.append_nil]
          exact T2
      · refine iteF ?_
        refine ⟨rfl, s2, ?_⟩
        have e : evW m lv nt = [] := by
          unfold evW wrn
          rw [Bool.eq_false_iff.mpr h3]
          rfl
        rw [e, List.append_nil]
        exact T2
    rintro σ H4 ⟨rfl, s4, T4⟩
    -- the calm row
    refine ⟨fun σ H5 => σ = [some (.ref a), some (.ref q), some (.int lv), some (.bl nt), some (.int m.num), some (.int (base0 m lv)), some (.bl m.over), some (.int (row1 m lv nt)), some (.int (calmL m lv)), some (.bl m.warned), some (.bl (isNew m)), some (.int (rise m lv)), some (.ref t), none] ∧ H5 = H4, ?_, ?_⟩
    · refine ⟨_, rfl, _, rfl, q, _, _, _, rfl, rfl, SqT.of (s4 _ _ hq), rfl, _, _, rfl, rfl, ovr m lv, rfl, ?_⟩
      refine ite2 (fun ho => ?_) (fun ho => ?_)
      · refine ⟨?_, rfl⟩
        have e : calmL m lv = 0 := if_pos ho
        rw [e]
        rfl
      · refine ⟨_, rfl, _, _, rfl, rfl, ?_, rfl⟩
        have e : calmL m lv = m.calm + 1 := if_neg ho
        rw [e]
        rfl
    rintro σ H5 ⟨rfl, e5⟩
    subst H5
    -- now; the base moves
    refine ⟨_, rfl, ?_⟩
    refine ⟨fun σ H6 => σ = [some (.ref a), some (.ref q), some (.int lv), some (.bl nt), some (.int m.num), some (.int (base0 m lv)), some (.bl m.over), some (.int (row1 m lv nt)), some (.int (calmOf m.calm (ovr m lv))), some (.bl m.warned), some (.bl (isNew m)), some (.int (rise m lv)), some (.ref t), some (.int (base1 m lv))] ∧ H6 = H4, ?_, ?_⟩
    · refine ⟨_, rfl, rfl, decide (V.int (calmL m lv) = V.int 4), rfl, ?_⟩
      refine ite2 (fun h4 => ?_) (fun h4 => ?_)
      · have e4 : calmL m lv = 4 := V.int.inj (of_decide_eq_true h4)
        obtain ⟨f1, f2⟩ := calm_four hc e4
        refine ⟨_, rfl, _, rfl, _, rfl, _, _, rfl, rfl, .inr ⟨decide (base0 m lv < lv), rfl, _, _, rfl, rfl, _, rfl, _, rfl, _, _, rfl, rfl, .inr ⟨decide (lv < base0 m lv), rfl, _, _, rfl, rfl, ?_, rfl⟩⟩⟩
        rw [f1, f2]
        rfl
      · have e4 : ¬ calmL m lv = 4 := fun e => h4 (decide_eq_true (congrArg V.int e))
        obtain ⟨f1, f2⟩ := calm_less hc e4
        refine ⟨?_, rfl⟩
        rw [f1, f2]
        rfl
    rintro σ H6 ⟨rfl, e6⟩
    subst H6
    -- dirt
    refine ⟨fun σ H7 => σ = [some (.ref a), some (.ref q), some (.int lv), some (.bl nt), some (.int m.num), some (.int (base0 m lv)), some (.bl m.over), some (.int (row1 m lv nt)), some (.int (calmOf m.calm (ovr m lv))), some (.bl m.warned), some (.bl (isNew m)), some (.int (rise m lv)), some (.ref t), some (.int (base1 m lv))] ∧ Same H H7 ∧ ToldAt H7 t (evs m lv nt), ?_, ?_⟩
    · have no : drt m lv = false → ToldAt H4 t (evs m lv nt) := fun e => by
        unfold evs evD
        rw [e, if_neg Bool.false_ne_true, List.append_nil]
        exact T4
      have put : drt m lv = true → ∀ p : Addr, H4 p = none → ∀ xs, H4 t = some (.lst xs) → EvsAt H4 xs (evF m lv ++ evW m lv nt) →
          ToldAt (L2.upd (L2.upd H4 p (.tup [.str "dirt", .int (base1 m lv)])) t (.lst (xs ++ [.ref p]))) t (evs m lv nt) := fun hd p hp xs hL hX => by
        unfold evs evD
        rw [hd, if_pos rfl]
        exact told_add hL hX (Same.new hp) (.dirt upd_same)
      obtain ⟨xs, hL, hX⟩ := id T4
      have hlen : xs.length ≤ 2 := by
        rw [hX.length, List.length_append]
        unfold evF evW
        split <;> split <;> simp
      refine ⟨_, rfl, _, _, rfl, rfl, decide (99 < base1 m lv), rfl, ?_⟩
      rw [hund_le]
      refine ite2 (fun h1 => ?_) (fun h1 => ?_)
      · refine ⟨_, rfl, isNew m, rfl, ?_⟩
        refine ite2 (fun hn => ?_) (fun hn => ?_)
        · have hd : drt m lv = true := by
            unfold drt
            rw [h1, hn]
            rfl
          refine iteT ?_
          refine ⟨_, rfl, .inl ⟨rfl, _, SqL.of hL⟩, _, rfl, by show 2 ≤ sizeLine; decide, fun p hp => ?_⟩
          refine ⟨t, xs, _, rfl, rfl, Same.new hp _ _ hL, small1000 (by omega), ?_⟩
          exact ⟨rfl, Same.mut (s4.trans (Same.new hp)) ht, put hd p hp xs hL hX⟩
        · refine ⟨_, rfl, _, _, rfl, rfl, decide (base0 m lv < 100), rfl, ?_⟩
          refine ite2 (fun h2 => ?_) (fun h2 => ?_)
          · have hd : drt m lv = true := by
              unfold drt
              rw [h1, h2, Bool.or_true]
              rfl
            refine ⟨_, rfl, .inl ⟨rfl, _, SqL.of hL⟩, _, rfl, by show 2 ≤ sizeLine; decide, fun p hp => ?_⟩
            refine ⟨t, xs, _, rfl, rfl, Same.new hp _ _ hL, small1000 (by omega), ?_⟩
            exact ⟨rfl, Same.mut (s4.trans (Same.new hp)) ht, put hd p hp xs hL hX⟩
          · refine ⟨rfl, s4, no ?_⟩
            unfold drt
            rw [Bool.eq_false_iff.mpr hn, Bool.eq_false_iff.mpr h2, Bool.or_false, Bool.and_false]
      · refine iteF ?_
        refine ⟨rfl, s4, no ?_⟩
        unfold drt
        rw [Bool.eq_false_iff.mpr h1, Bool.false_and]
    rintro σ H7 ⟨rfl, s7, T7⟩
    -- what is handed back
    have fin : ∀ w' : Bool, w' = warn1 m lv nt → ∀ b, H7 b = none → ∀ r, (L2.upd H7 b (.lst [.int (m.num + 1), .int (base1 m lv), .bl (ovr m lv), .int (row1 m lv nt), .int (calmOf m.calm (ovr m lv)), .bl w'])) r = none →
        Q (.ref r) (L2.upd (L2.upd H7 b (.lst [.int (m.num + 1), .int (base1 m lv), .bl (ovr m lv), .int (row1 m lv nt), .int (calmOf m.calm (ovr m lv)), .bl w'])) r (.tup [.ref b, .ref t])) := fun w' ew b hb r hr' => by
      subst ew
      have s8 := s7.trans (Same.new (o := .lst [.int (m.num + 1), .int (base1 m lv), .bl (ovr m lv), .int (row1 m lv nt), .int (calmOf m.calm (ovr m lv)), .bl (warn1 m lv nt)]) hb)
      exact k r b t _ (s8.free hr') (s7.free hb) ht (s8.trans (Same.new hr')) upd_same ((Same.new hr') _ _ upd_same) ((T7.same (Same.new hb)).same (Same.new hr'))
    refine ⟨_, rfl, _, _, rfl, rfl, _, rfl, _, rfl, _, rfl, q, _, _, _, rfl, rfl, SqT.of (s7 _ _ hq), rfl, _, _, rfl, rfl, _, rfl, _, rfl, _, rfl, m.warned, rfl, ?_⟩
    refine ite2 (fun hw => ?_) (fun hw => ?_)
    · exact ⟨by show 6 ≤ sizeLine; decide, fun b hb => ⟨_, rfl, by show 2 ≤ sizeLine; decide, fun r hr' => fin true (by unfold warn1; rw [hw, Bool.true_or]) b hb r hr'⟩⟩
    · refine ⟨_, rfl, _, _, rfl, rfl, ?_⟩
      exact ⟨by show 6 ≤ sizeLine; decide, fun b hb => ⟨_, rfl, by show 2 ≤ sizeLine; decide, fun r hr' => fin (decide (2 < row1 m lv nt)) (by unfold warn1; rw [Bool.eq_false_iff.mpr hw, Bool.false_or, three_le]) b hb r hr'⟩⟩
end
end K21

namespace K21
open PySem L2
theorem EvsAt.get {H : Hp} : ∀ {vs : List V} {es : List Ev} {i : Nat} {v : V}, EvsAt H vs es → vs[i]? = some v → ∃ e, e ∈ es ∧ EvAt H v e
  | _, _, _, _, .nil, h => by simp at h
  | _, _, 0, v, .cons g t, h => by
    have e := Option.some.inj h
    subst e
    exact ⟨_, List.mem_cons_self, g⟩
  | _, _, i + 1, v, .cons g t, h => by
    obtain ⟨e, h1, h2⟩ := EvsAt.get (i := i) (v := v) t h
    exact ⟨e, List.mem_cons_of_mem _ h1, h2⟩
def nameV : List V := [.str "first", .str "warning", .str "dirt"]
theorem in_first : inV (.str "first") nameV = true := by decide +kernel
theorem in_warning : inV (.str "warning") nameV = true := by decide +kernel
theorem in_dirt : inV (.str "dirt") nameV = true := by decide +kernel
theorem ne_first : ¬ (V.str "first" = V.str "warning") := by decide +kernel
theorem ne_dirt : ¬ (V.str "dirt" = V.str "warning") := by decide +kernel
theorem EvAt.shape {H : Hp} {v : V} {e : Ev} (h : EvAt H v e) : ∃ (a : Addr) (nm : Str) (x : V), v = .ref a ∧ H a = some (.tup [.str nm, x]) ∧ inV (.str nm) nameV = true := by
  cases h with
  | first h => exact ⟨_, _, _, rfl, h, in_first⟩
  | warn h g => exact ⟨_, _, _, rfl, h, in_warning⟩
  | dirt h => exact ⟨_, _, _, rfl, h, in_dirt⟩
theorem flat_rep : ∀ n : Nat, (List.replicate n (V.bl true)).all flatV = true
  | 0 => rfl
  | n + 1 => by
    rw [List.replicate_succ, List.all_cons, flat_rep n]
    rfl
theorem in_rep : ∀ n : Nat, inV (V.bl false) (List.replicate n (V.bl true)) = false
  | 0 => rfl
  | n + 1 => by
    have ih := in_rep n
    unfold inV at ih ⊢
    rw [List.replicate_succ, List.any_cons, ih]
    rfl
def spAre : Sp := fun vs H Q _ => ∃ (t : Addr) (es : List Ev), vs = [.ref t] ∧ ToldAt H t es ∧ ∀ H', Same H H' → Q (.bl true) H'
/-- a warning n of so many heights, behind a reset at sc -/
def WarnOk (hs : List Int) (sc n : Int) : Prop := (hs.length : Int) = n + 1 ∧ 2 ≤ n ∧ sc ≤ n - 2 ∧ ∃ x y z : Int, atI (hs.map V.int) (n - 2) = some (.int x) ∧ atI (hs.map V.int) (n - 1) = some (.int y) ∧ atI (hs.map V.int) n = some (.int z) ∧ 0 ≤ x ∧ 0 ≤ y ∧ 0 ≤ z
def spNamed : Sp := fun vs H Q _ => ∃ (t h : Addr) (es : List Ev) (hs : List Int) (sc : Int), vs = [.ref t, .ref h, .int sc] ∧ ToldAt H t es ∧ H h = some (.lst (hs.map V.int)) ∧ hs.length ≤ 1000 ∧ (∀ n, Ev.warn n ∈ es → WarnOk hs sc n) ∧
  ∀ H', Same H H' → Q (.bl true) H'
theorem rg_three {n : Int} (h : 2 ≤ n) : rgV (n + 1 - 3) (n + 1) = [V.int (n - 2), V.int (n - 1), V.int n] := by
  unfold rgV
  rw [show (n + 1 - (n + 1 - 3)).toNat = 3 by omega]
  show [V.int (n + 1 - 3 + ((0 : Nat) : Int)), V.int (n + 1 - 3 + ((1 : Nat) : Int)), V.int (n + 1 - 3 + ((2 : Nat) : Int))] = _
  rw [show n + 1 - 3 + ((0 : Nat) : Int) = n - 2 by omega, show n + 1 - 3 + ((1 : Nat) : Int) = n - 1 by omega, show n + 1 - 3 + ((2 : Nat) : Int) = n by omega]
section
variable {P : Program} {w : World} {K : PySem.W.Frag} {mg : Str → Option Value} {base : Heap}
theorem scAre : FnScope ["_law_told", "_law_event", "_law_some", "_law_one"] ["_law_told"] (defScope sAre) := ⟨rfl, rfl, rfl, by decide +kernel, rfl, by decide +kernel, by decide +kernel⟩
theorem ok_are {f fW C : Addr} {fd fdW : FuncData} (F : Fun K "_law_are_events" "_law_are_events" sAre f fd) (T : Txt K mg C) (FW : Fun K "_law_whole" "_law_whole" sWhole fW fdW) (bW : Binds K fdW ["_law_thing"] []) (mW : mg "_law_whole" = some (.ref fW)) :
    FnOk P w K mg base CX0 2 f fd ["_law_told"] spAre := by
  have GW : FnOk P w K mg base CX0 1 fW fdW ["_law_thing"] spWhole := ok_whole FW T
  refine F.ok scAre (fun vs H Q E h => ?_) (fun cdv A outer s H vs Q E hr h => ?_)
  · obtain ⟨t, es, rfl, _⟩ := h
    rfl
  · obtain ⟨t, es, rfl, TT, k⟩ := h
    have hr1 : Room 1 _ := hr
    obtain ⟨xs, hL, hX⟩ := id TT
    refine ⟨_, (pss_cons (ps_if (pt_not (pt_val (pe_callB call_isi (by rfl) T.isi (by decide +kernel) (pa_cons (pv 0) (pa_cons (pe_bltn (v := .ty "list") (by rfl) T.list (by decide +kernel) rfl) pa_nil))))) (pss_one (ps_ret pe_bl)) pss_nil)
      (pss_cons (ps_for PassesOwn.never rfl (pi_list (pv 0)) (pg_name (i := 1) scAre.nd rfl (.inl rfl)) (pss_cons (ps_if (PW.pt (pw_or (pt_not (pt_val (pe_callB call_isi (by rfl) T.isi (by decide +kernel) (pa_cons (pv 1) (pa_cons (pe_bltn (v := .ty "tuple") (by rfl) T.tuple (by decide +kernel) rfl) pa_nil))))) (pw_or (pt_cmpR op_ne (pe_callB call_len_seq (by rfl) T.len PySem.boot_len (pa_cons (pv 1) pa_nil)) pe_int (nomark _)) (pw_or1 (pt_cmpR op_notIn_seq (pe_ix ix_tup (pv 1) pe_int (fun _ _ => rfl)) (pe_tup (pa_cons pe_str (pa_cons pe_str (pa_cons pe_str pa_nil)))) (by rfl)))))) (pss_one (ps_ret pe_bl)) pss_nil)
      (C8.pss_cut (ps_set (i := 2) scAre.nd rfl (.inl rfl) (pe_ifExp (pt_cmpR op_eq (pe_ix ix_tup (pv 1) pe_int (fun _ _ => rfl)) pe_str (nomark _)) (pe_ix ix_tup (pv 1) pe_int (fun _ _ => rfl)) (pe_tup (pa_cons (pe_ix ix_tup (pv 1) pe_int (fun _ _ => rfl)) pa_nil))))
      (pss_one (ps_if (PW.pt (pw_or (pt_not (pt_val (pe_callB call_isi (by rfl) T.isi (by decide +kernel) (pa_cons (pv 2) (pa_cons (pe_bltn (v := .ty "tuple") (by rfl) T.tuple (by decide +kernel) rfl) pa_nil))))) (pw_or1 (pt_cmpR op_in_seq pe_bl (pe_lc (own := [("_law_one", 3)]) (g := gName 3) (tt := tYes) rfl scAre.nd (pi_tup (pv 2)) (blkOk_by (own := [("_law_one", 3)]) (N := ["_law_told", "_law_event", "_law_some", "_law_one"]) (sc := defScope sAre) (by decide +kernel)) (fun _ _ _ _ _ => pg_name (i := 3) scAre.nd rfl (Or.inl rfl)) (fun _ _ _ _ _ => pts_nil) (fun _ _ _ _ _ => (pe_call GW hr1 rfl mW FW.kp bW .nil pass0 (pa_cons (pv 3) pa_nil)))) (by rfl))))) (pss_one (ps_ret pe_bl)) pss_nil)))))
      (pss_one (ps_ret pe_bl)))), ?_⟩
    refine ⟨_, rfl, _, _, _, _, true, rfl, .ty _, .base (.lst hL), kit_ty (by decide +kernel), true, rfl, ?_⟩
    refine iteF ?_
    refine ⟨_, rfl, t, rfl, ⟨_, SqL.of hL⟩, for_list (K := K) (a := t) (xs := xs) (fun i σ H' => ∃ v1 v2, σ = [some (.ref t), v1, v2, none] ∧ Same H H')
      ⟨none, none, rfl, Same.refl H⟩ (fun i σ H' _ ⟨_, _, _, s1⟩ => SqL.of (s1 _ _ hL)) ?_ ?_⟩
    · rintro i x σ H' hi ⟨v1, v2, rfl, s1⟩
      obtain ⟨e, _, hE⟩ := EvsAt.get (hX.same fun b ys q => s1 _ _ q) hi
      obtain ⟨a, nm, x2, rfl, ha, hin⟩ := hE.shape
      refine ⟨_, rfl, _, _, _, _, true, rfl, .ty _, .base (.tup ha), kit_ty (by decide +kernel), true, rfl, ?_⟩
      refine iteF ?_
      refine ⟨_, rfl, _, _, rfl, .inr (SqT.of ha), rfl, _, rfl, ?_⟩
      refine iteNS rfl ?_
      refine ⟨_, rfl, a, _, _, _, rfl, rfl, SqT.of ha, rfl, by show 3 ≤ sizeLine; decide, fun p hp => ?_⟩
      refine ⟨p, _, rfl, .inr (SqT.of upd_same), rfl, rfl, false, ?_, ?_⟩
      · show V.bl (if true = true then !inV (V.str nm) nameV else inV (V.str nm) nameV) = V.bl false
        rw [if_pos rfl, hin]
        rfl
      refine iteF ?_
      have s2 := s1.trans (Same.new (o := .tup [.str "first", .str "warning", .str "dirt"]) hp)
      have hE2 := hE.same fun b ys q => (Same.new (o := .tup [.str "first", .str "warning", .str "dirt"]) hp) _ _ q
      generalize L2.upd H' p (.tup [.str "first", .str "warning", .str "dirt"]) = H2 at s2 hE2 ⊢
      -- the numbers of the word
      refine ⟨fun σ H3 => ∃ v u ns, σ = [some (.ref t), v, some (.ref u), none] ∧ Same H H3 ∧ H3 u = some (.tup (List.map V.int ns)) ∧ ns.length ≤ 3, ?_, ?_⟩
      · cases hE2 with
        | @first _ n h1 =>
          refine ⟨_, rfl, a, _, _, _, rfl, rfl, SqT.of h1, rfl, rfl, _, rfl, ?_⟩
          refine ite2 (fun q => absurd (of_decide_eq_true q) ne_first) (fun _ => ?_)
          refine ⟨_, rfl, a, _, _, _, rfl, rfl, SqT.of h1, rfl, by show 1 ≤ sizeLine; decide, fun u hu => ?_⟩
          exact ⟨_, u, [n], rfl, s2.trans (Same.new hu), upd_same, by show 1 ≤ 3; decide⟩
        | @warn _ b n h1 h2 =>
          refine ⟨_, rfl, a, _, _, _, rfl, rfl, SqT.of h1, rfl, rfl, _, rfl, ?_⟩
          refine ite2 (fun _ => ?_) (fun q => absurd (decide_eq_true rfl) q)
          refine ⟨_, rfl, a, _, _, _, rfl, rfl, SqT.of h1, rfl, ?_⟩
          exact ⟨_, b, [n - 2, n - 1, n], rfl, s2, h2, by show 3 ≤ 3; decide⟩
        | @dirt _ n h1 =>
          refine ⟨_, rfl, a, _, _, _, rfl, rfl, SqT.of h1, rfl, rfl, _, rfl, ?_⟩
          refine ite2 (fun q => absurd (of_decide_eq_true q) ne_dirt) (fun _ => ?_)
          refine ⟨_, rfl, a, _, _, _, rfl, rfl, SqT.of h1, rfl, by show 1 ≤ sizeLine; decide, fun u hu => ?_⟩
          exact ⟨_, u, [n], rfl, s2.trans (Same.new hu), upd_same, by show 1 ≤ 3; decide⟩
      rintro σ H3 ⟨v, u, ns, rfl, s3, hu, hn⟩
      refine ⟨_, rfl, _, _, _, _, true, rfl, .ty _, .base (.tup hu), kit_ty (by decide +kernel), true, rfl, ?_⟩
      refine iteF ?_
      refine ⟨_, rfl, u, rfl, ⟨_, SqT.of hu⟩, fun D hD => lc_tup (K := K) (a := u) (xs := ns.map V.int) (fun i H' => Same H3 H' ∧ H' D = some (.lst (List.replicate i (.bl true))))
        ⟨Same.new hD, upd_same⟩ (fun i H' _ ⟨s4, _⟩ => SqT.of (s4 _ _ hu)) ?_ ?_⟩
      · rintro j y H4 hj ⟨s4, hD4⟩
        have hjl : j < ns.length := by
          have q := (List.getElem?_eq_some_iff.mp hj).1
          rw [List.length_map] at q
          exact q
        obtain ⟨z, rfl⟩ : ∃ z, y = V.int z := by
          rw [List.getElem?_map] at hj
          cases e : ns[j]? with
          | none => rw [e] at hj; cases hj
          | some z => rw [e] at hj; exact ⟨z, (Option.some.inj hj).symm⟩
        refine ⟨rfl, ?_⟩
        refine ⟨_, rfl, z, rfl, _, hD4, by rw [List.length_replicate]; exact small1000 (by omega), Same.mut s4 hD, ?_⟩
        rw [upd_same, ← List.replicate_succ']
      · rintro H4 ⟨s4, hD4⟩
        refine ⟨D, _, rfl, .inl (SqL.of hD4), rfl, flat_rep _, false, ?_, ?_⟩
        · show V.bl (if false = true then !inV (V.bl false) (List.replicate (ns.map V.int).length (V.bl true)) else inV (V.bl false) (List.replicate (ns.map V.int).length (V.bl true))) = V.bl false
          rw [if_neg Bool.false_ne_true, in_rep]
        refine iteF ?_
        exact ⟨v, _, rfl, s3.trans s4⟩
    · rintro σ H' ⟨v1, v2, rfl, s1⟩
      exact k _ s1
theorem scNamed : FnScope ["_law_told", "_law_heights", "_law_since", "_law_word", "_law_numbers", "_law_number"] ["_law_told", "_law_heights", "_law_since"] (defScope sNamed) := ⟨rfl, rfl, rfl, by decide +kernel, rfl, by decide +kernel, by decide +kernel⟩
theorem ok_named {f C : Addr} {fd : FuncData} (F : Fun K "_law_named_right" "_law_named_right" sNamed f fd) (T : Txt K mg C) : FnOk P w K mg base CX0 1 f fd ["_law_told", "_law_heights", "_law_since"] spNamed := by
  refine F.ok scNamed (fun vs H Q E h => ?_) (fun cdv A outer s H vs Q E hr h => ?_)
  · obtain ⟨t, h, es, hs, sc, rfl, _⟩ := h
    rfl
  · obtain ⟨t, h, es, hs, sc, rfl, TT, hh, hlen, hW, k⟩ := h
    have hu : (A.deeper (PyProof.Rows.envOfC "_law_named_right" (defScope sNamed) s.heap.objs.size f cdv)).units + 64 < cLine := by
      have := hr.un
      omega
    obtain ⟨xs, hL, hX⟩ := id TT
    refine ⟨_, (pss_cons (ps_for PassesOwn.never rfl (pi_list (pv 0)) (pg_tup rfl (pgs_cons (pg_name (i := 3) scNamed.nd rfl (.inl rfl)) (pgs_cons (pg_name (i := 4) scNamed.nd rfl (.inl rfl)) pgs_nil))) (pss_one (ps_if (pt_cmpR op_eq (pv 3) pe_str (nomark _)) (pss_cons (ps_if (PW.pt (pw_or (pt_cmpR (op_neD hu) (pv 4) (pe_tupRg rfl rfl T.tuple (prg_2 rfl T.range (pe_op op_sub (pe_callB call_len_seq (by rfl) T.len PySem.boot_len (pa_cons (pv 1) pa_nil)) pe_int) (pe_callB call_len_seq (by rfl) T.len PySem.boot_len (pa_cons (pv 1) pa_nil)))) (nomark _)) (pw_or1 (pt_cmpR op_lt (pe_ix ix_tup (pv 4) pe_int (fun _ _ => rfl)) (pv 2) (nomark _))))) (pss_one (ps_ret pe_bl)) pss_nil)
      (pss_one (ps_if (pt_cmpR op_lt (pe_callB (cr_min rfl) (by rfl) T.min (by decide +kernel) (pa_cons (pe_lc (own := [("_law_number", 5)]) (g := gName 5) (tt := tYes) rfl scNamed.nd (pi_tup (pv 4)) (blkOk_by (own := [("_law_number", 5)]) (N := ["_law_told", "_law_heights", "_law_since", "_law_word", "_law_numbers", "_law_number"]) (sc := defScope sNamed) (by decide +kernel)) (fun _ _ _ _ _ => pg_name (i := 5) scNamed.nd rfl (Or.inl rfl)) (fun _ _ _ _ _ => pts_nil) (fun _ _ _ _ _ => (pe_ix (r := rIxL K) ix_list (pv 1) (pv 5) (fun _ _ => rfl)))) pa_nil)) pe_int (nomark _)) (pss_one (ps_ret pe_bl)) pss_nil))) pss_nil)))
      (pss_one (ps_ret pe_bl))), ?_⟩
    refine ⟨_, rfl, t, rfl, ⟨_, SqL.of hL⟩, for_list (K := K) (a := t) (xs := xs) (fun i σ H' => ∃ v1 v2, σ = [some (.ref t), some (.ref h), some (.int sc), v1, v2, none] ∧ Same H H')
      ⟨none, none, rfl, Same.refl H⟩ (fun i σ H' _ ⟨_, _, _, s1⟩ => SqL.of (s1 _ _ hL)) ?_ ?_⟩
    · rintro i x σ H' hi ⟨v1, v2, rfl, s1⟩
      obtain ⟨e, he, hE⟩ := EvsAt.get (hX.same fun b ys q => s1 _ _ q) hi
      cases hE with
      | @first a n h1 =>
        refine ⟨a, _, rfl, SqT.of h1, rfl, _, _, rfl, _, _, rfl, rfl, ?_⟩
        refine ⟨_, rfl, rfl, _, rfl, ?_⟩
        refine ite2 (fun q => absurd (of_decide_eq_true q) ne_first) (fun _ => ?_)
        exact ⟨_, _, rfl, s1⟩
      | @dirt a n h1 =>
        refine ⟨a, _, rfl, SqT.of h1, rfl, _, _, rfl, _, _, rfl, rfl, ?_⟩
        refine ⟨_, rfl, rfl, _, rfl, ?_⟩
        refine ite2 (fun q => absurd (of_decide_eq_true q) ne_dirt) (fun _ => ?_)
        exact ⟨_, _, rfl, s1⟩
      | @warn a b n h1 h2 =>
        obtain ⟨w1, w2, w3, x, y, z, ex, ey, ez, x0, y0, z0⟩ := hW n he
        refine ⟨a, _, rfl, SqT.of h1, rfl, _, _, rfl, _, _, rfl, rfl, ?_⟩
        refine ⟨_, rfl, rfl, _, rfl, ?_⟩
        refine ite2 (fun _ => ?_) (fun q => absurd (decide_eq_true rfl) q)
        have hh1 := s1 _ _ hh
        have ll : ((hs.map V.int).length : Int) = n + 1 := by rw [List.length_map]; exact w1
        -- the three numbers
        refine ⟨_, rfl, _, rfl, h, _, rfl, .inl (SqL.of hh1), _, _, rfl, rfl, _, rfl, h, _, rfl, .inl (SqL.of hh1), _, _, rfl, rfl, ⟨by omega, by omega, by omega, by omega, by omega⟩, fun q hq => ?_⟩
        have eR : rgV (((hs.map V.int).length : Int) - 3) ((hs.map V.int).length : Int) = [V.int (n - 2), V.int (n - 1), V.int n] := by
          rw [ll]
          exact rg_three w2
        rw [eR]
        have s2 : Same H' (L2.upd H' q (.tup [V.int (n - 2), V.int (n - 1), V.int n])) := Same.new hq
        refine ⟨.tuple [.int (n - 2), .int (n - 1), .int n], .tuple [.int (n - 2), .int (n - 1), .int n], .tup (SqT.of (s2 _ _ h2)) (.cons (.int _) (.cons (.int _) (.cons (.int _) .nil))),
          .tup (SqT.of upd_same) (.cons (.int _) (.cons (.int _) (.cons (.int _) .nil))), rfl, rfl, false, ?_, ?_⟩
        · rw [PySem.SeqAt.eqv_refl _ rfl]
          rfl
        refine iteF ?_
        refine ⟨_, rfl, b, _, _, _, rfl, rfl, SqT.of (s2 _ _ h2), rfl, _, rfl, _, _, rfl, rfl, decide (n - 2 < sc), rfl, ?_⟩
        rw [decide_eq_false (show ¬ n - 2 < sc by omega)]
        refine iteF ?_
        have s3 := s1.trans s2
        have h23 := s2 _ _ h2
        generalize L2.upd H' q (.tup [V.int (n - 2), V.int (n - 1), V.int n]) = H3 at s3 h23 ⊢
        -- the least of the three heights
        refine ⟨_, rfl, b, rfl, ⟨_, SqT.of h23⟩, fun D hD => lc_tup (K := K) (a := b) (xs := [V.int (n - 2), V.int (n - 1), V.int n]) (fun i H' => Same H3 H' ∧ H' D = some (.lst (([x, y, z].take i).map V.int)))
          ⟨Same.new hD, upd_same⟩ (fun i H' _ ⟨s4, _⟩ => SqT.of (s4 _ _ h23)) ?_ ?_⟩
        · rintro j v H4 hj ⟨s4, hD4⟩
          have hh4 := s4 _ _ (s3 _ _ hh)
          match j, hj with
          | 0, hj =>
            have ev := Option.some.inj hj
            subst ev
            refine ⟨rfl, ?_⟩
            exact ⟨_, rfl, _, rfl, h, _, _, _, rfl, rfl, SqL.of hh4, ex, _, hD4, small1000 (by rw [List.length_map, List.length_take]; show min _ 3 ≤ 1000; omega), Same.mut s4 hD, upd_same⟩
          | 1, hj =>
            have ev := Option.some.inj hj
            subst ev
            refine ⟨rfl, ?_⟩
            exact ⟨_, rfl, _, rfl, h, _, _, _, rfl, rfl, SqL.of hh4, ey, _, hD4, small1000 (by rw [List.length_map, List.length_take]; show min _ 3 ≤ 1000; omega), Same.mut s4 hD, upd_same⟩
          | 2, hj =>
            have ev := Option.some.inj hj
            subst ev
            refine ⟨rfl, ?_⟩
            exact ⟨_, rfl, _, rfl, h, _, _, _, rfl, rfl, SqL.of hh4, ez, _, hD4, small1000 (by rw [List.length_map, List.length_take]; show min _ 3 ≤ 1000; omega), Same.mut s4 hD, upd_same⟩
          | j + 3, hj => simp at hj
        · rintro H4 ⟨s4, hD4⟩
          refine ⟨D, [x, y, z], rfl, SqL.of hD4, by show 0 < 3; decide, fun m hm hmin => ?_⟩
          have hm0 : 0 ≤ m := by
            simp only [List.mem_cons, List.not_mem_nil, or_false] at hm
            rcases hm with rfl | rfl | rfl <;> assumption
          refine ⟨_, _, rfl, rfl, decide (m < 0), rfl, ?_⟩
          rw [decide_eq_false (show ¬ m < 0 by omega)]
          refine iteF ?_
          exact ⟨_, _, rfl, s3.trans s4⟩
    · rintro σ H' ⟨v1, v2, rfl, s1⟩
      exact k _ s1
end
end K21

namespace K21
open PySem L2
/-! ### the two seekers' things: what stands where -/
structure Cell where
  a : Addr
  ms : Sk
  ml : Sk
  hs : List Int
  sc : Int
  lo : Option Int
def upc (c : Nat → Cell) (i : Nat) (x : Cell) : Nat → Cell := fun j => if j = i then x else c j
theorem upc_same (c : Nat → Cell) (i : Nat) (x : Cell) : upc c i x i = x := if_pos rfl
theorem upc_ne (c : Nat → Cell) {i j : Nat} (x : Cell) (h : j ≠ i) : upc c i x j = c j := if_neg h
def pair (f : Nat → V) : List V := [f 0, f 1]
theorem pair_at {f : Nat → V} {i : Nat} (h : i < 2) : atI (pair f) (i : Int) = some (f i) := by
  have e : i = 0 ∨ i = 1 := by omega
  rcases e with rfl | rfl
  · rfl
  · rfl
theorem pair_ix {f : Nat → V} {i : Nat} (h : i < 2) : ixN (pair f).length (i : Int) = some i := by
  have e : i = 0 ∨ i = 1 := by omega
  rcases e with rfl | rfl
  · rfl
  · rfl
theorem pair_set {f g : Nat → V} {i : Nat} {v : V} (h : i < 2) (h1 : g i = v) (h2 : ∀ j, j ≠ i → g j = f j) : (pair f).set i v = pair g := by
  have e : i = 0 ∨ i = 1 := by omega
  rcases e with rfl | rfl
  · show [v, f 1] = [g 0, g 1]
    rw [h1, h2 1 (by decide)]
  · show [f 0, v] = [g 0, g 1]
    rw [h1, h2 0 (by decide)]
theorem pair_eq {f g : Nat → V} (h : ∀ j, g j = f j) : pair f = pair g := by
  show [f 0, f 1] = [g 0, g 1]
  rw [h 0, h 1]
/-- the places: 0 lasts, 1 since, 2 heights, 3 and 4 the heights of seekers 1 and 0, 5 states, 8 seekers, 9 and 10 the seekers, 11 marks, 12 and 13 each one's, 14 the bag -/
structure Hold (C : Addr) (H0 H : Hp) (ad : Nat → Addr) (c : Nat → Cell) (n : Nat) : Prop where
  bag : BagAt H (ad 14) n
  mr : H (ad 11) = some (.lst (pair fun j => .ref (ad (13 - j))))
  sk : H (ad 8) = some (.lst (pair fun j => .ref (ad (10 - j))))
  st : H (ad 5) = some (.lst (pair fun j => .ref (c j).a))
  hg : H (ad 2) = some (.lst (pair fun j => .ref (ad (4 - j))))
  sc : H (ad 1) = some (.lst (pair fun j => .int (c j).sc))
  ls : H (ad 0) = some (.lst (pair fun j => oV (c j).lo))
  q : ∀ j, j < 2 → H (ad (13 - j)) = some (.tup (marksV (c j).ms))
  s : ∀ j, j < 2 → SkAt C H (ad (10 - j)) (c j).ms
  a : ∀ j, j < 2 → H (c j).a = some (.lst (stV (c j).ml))
  g : ∀ j, j < 2 → H (ad (4 - j)) = some (.lst ((c j).hs.map V.int))
  na : ∀ j, j < 2 → ∀ l, l < 15 → l ≠ 6 → l ≠ 7 → (c j).a ≠ ad l
  inj : ∀ i j, i < 15 → j < 15 → i ≠ j → ad i ≠ ad j
  old : Same H0 H
  new : ∀ l, l < 15 → H0 (ad l) = none
section
variable {C : Addr} {H0 H H' : Hp} {ad : Nat → Addr} {c : Nat → Cell} {n n' : Nat}
theorem old_kp {p : Addr} (s : Same H0 H) (k : Kp H H' p) (h : H0 p = none) : Same H0 H' := fun b o e => k b o (s b o e) (ne_of_none e h)
theorem Hold.le (h : Hold C H0 H ad c n) (l : n ≤ n') : Hold C H0 H ad c n' := { h with bag := h.bag.le l }
theorem Hold.same (h : Hold C H0 H ad c n) (k : Same H H') : Hold C H0 H' ad c n where
  bag := h.bag.same k
  mr := k _ _ h.mr
  sk := k _ _ h.sk
  st := k _ _ h.st
  hg := k _ _ h.hg
  sc := k _ _ h.sc
  ls := k _ _ h.ls
  q := fun j hj => k _ _ (h.q j hj)
  s := fun j hj => (h.s j hj).same k
  a := fun j hj => k _ _ (h.a j hj)
  g := fun j hj => k _ _ (h.g j hj)
  na := h.na
  inj := h.inj
  old := h.old.trans k
  new := h.new
/-- a draw -/
theorem Hold.draw (h : Hold C H0 H ad c n) (k : Kp H H' (ad 14)) (b : BagAt H' (ad 14) n') : Hold C H0 H' ad c n' where
  bag := b
  mr := k _ _ h.mr (h.inj _ _ (by omega) (by omega) (by omega))
  sk := k _ _ h.sk (h.inj _ _ (by omega) (by omega) (by omega))
  st := k _ _ h.st (h.inj _ _ (by omega) (by omega) (by omega))
  hg := k _ _ h.hg (h.inj _ _ (by omega) (by omega) (by omega))
  sc := k _ _ h.sc (h.inj _ _ (by omega) (by omega) (by omega))
  ls := k _ _ h.ls (h.inj _ _ (by omega) (by omega) (by omega))
  q := fun j hj => k _ _ (h.q j hj) (h.inj _ _ (by omega) (by omega) (by omega))
  s := fun j hj => (h.s j hj).kp k (h.inj _ _ (by omega) (by omega) (by omega))
  a := fun j hj => k _ _ (h.a j hj) (h.na j hj _ (by omega) (by omega) (by omega))
  g := fun j hj => k _ _ (h.g j hj) (h.inj _ _ (by omega) (by omega) (by omega))
  na := h.na
  inj := h.inj
  old := old_kp h.old k (h.new _ (by omega))
  new := h.new
/-- a height more -/
theorem Hold.high (h : Hold C H0 H ad c n) {i : Nat} (hi : i < 2) (hs : List Int) (k : Kp H H' (ad (4 - i))) (b : H' (ad (4 - i)) = some (.lst (hs.map V.int))) : Hold C H0 H' ad (upc c i { c i with hs := hs }) n where
  bag := h.bag.kp k (h.inj _ _ (by omega) (by omega) (by omega))
  mr := k _ _ h.mr (h.inj _ _ (by omega) (by omega) (by omega))
  sk := k _ _ h.sk (h.inj _ _ (by omega) (by omega) (by omega))
  st := by
    rw [k _ _ h.st (h.inj _ _ (by omega) (by omega) (by omega))]
    refine congrArg (fun l => some (HO.lst l)) (pair_eq fun j => ?_)
    by_cases e : j = i
    · rw [e, upc_same]
    · rw [upc_ne c _ e]
  hg := k _ _ h.hg (h.inj _ _ (by omega) (by omega) (by omega))
  sc := by
    rw [k _ _ h.sc (h.inj _ _ (by omega) (by omega) (by omega))]
    refine congrArg (fun l => some (HO.lst l)) (pair_eq fun j => ?_)
    by_cases e : j = i
    · rw [e, upc_same]
    · rw [upc_ne c _ e]
  ls := by
    rw [k _ _ h.ls (h.inj _ _ (by omega) (by omega) (by omega))]
    refine congrArg (fun l => some (HO.lst l)) (pair_eq fun j => ?_)
    by_cases e : j = i
    · rw [e, upc_same]
    · rw [upc_ne c _ e]
  q := fun j hj => by
    rw [k _ _ (h.q j hj) (h.inj _ _ (by omega) (by omega) (by omega))]
    by_cases e : j = i
    · rw [e, upc_same]
    · rw [upc_ne c _ e]
  s := fun j hj => by
    have z := (h.s j hj).kp k (h.inj _ _ (by omega) (by omega) (by omega))
    by_cases e : j = i
    · rw [e, upc_same]
      rw [e] at z
      exact z
    · rw [upc_ne c _ e]
      exact z
  a := fun j hj => by
    have z := k _ _ (h.a j hj) (h.na j hj _ (by omega) (by omega) (by omega))
    by_cases e : j = i
    · rw [e, upc_same]
      rw [e] at z
      exact z
    · rw [upc_ne c _ e]
      exact z
  g := fun j hj => by
    by_cases e : j = i
    · rw [e, upc_same]
      exact b
    · rw [upc_ne c _ e]
      exact k _ _ (h.g j hj) (h.inj _ _ (by omega) (by omega) (by omega))
  na := fun j hj => by
    by_cases e : j = i
    · rw [e, upc_same]
      exact h.na i hi
    · rw [upc_ne c _ e]
      exact h.na j hj
  inj := h.inj
  old := old_kp h.old k (h.new _ (by omega))
  new := h.new
/-- a state made anew, and put into the list of both -/
theorem Hold.state (h : Hold C H0 H ad c n) {i : Nat} (hi : i < 2) {b : Addr} {m : Sk} (hb : H b = none) (s : Same H H') (eb : H' b = some (.lst (stV m))) :
    Hold C H0 (L2.upd H' (ad 5) (.lst ((pair fun j => .ref (c j).a).set i (.ref b)))) ad (upc c i { c i with a := b, ml := m }) n := by
  have h' := h.same s
  have k : Kp H' (L2.upd H' (ad 5) (.lst ((pair fun j => .ref (c j).a).set i (.ref b)))) (ad 5) := Kp.upd _ _ _
  have nb : ∀ l, l < 15 → l ≠ 6 → l ≠ 7 → b ≠ ad l := fun l hl h6 h7 e => by
    have : ∃ o, H (ad l) = some o := by
      have cases : l = 0 ∨ l = 1 ∨ l = 2 ∨ l = 3 ∨ l = 4 ∨ l = 5 ∨ l = 8 ∨ l = 9 ∨ l = 10 ∨ l = 11 ∨ l = 12 ∨ l = 13 ∨ l = 14 := by omega
      rcases cases with rfl | rfl | rfl | rfl | rfl | rfl | rfl | rfl | rfl | rfl | rfl | rfl | rfl
      · exact ⟨_, h.ls⟩
      · exact ⟨_, h.sc⟩
      · exact ⟨_, h.hg⟩
      · exact ⟨_, h.g 1 (by decide)⟩
      · exact ⟨_, h.g 0 (by decide)⟩
      · exact ⟨_, h.st⟩
      · exact ⟨_, h.sk⟩
      · obtain ⟨dx, z⟩ := h.s 1 (by decide)
        exact ⟨_, z⟩
      · obtain ⟨dx, z⟩ := h.s 0 (by decide)
        exact ⟨_, z⟩
      · exact ⟨_, h.mr⟩
      · exact ⟨_, h.q 1 (by decide)⟩
      · exact ⟨_, h.q 0 (by decide)⟩
      · obtain ⟨_, _, _, z, _⟩ := h.bag
        exact ⟨_, z⟩
    obtain ⟨o, z⟩ := this
    rw [← e, hb] at z
    cases z
  exact {
    bag := h'.bag.kp k (h.inj _ _ (by omega) (by omega) (by omega))
    mr := k _ _ h'.mr (h.inj _ _ (by omega) (by omega) (by omega))
    sk := k _ _ h'.sk (h.inj _ _ (by omega) (by omega) (by omega))
    st := by
      rw [upd_same]
      refine congrArg (fun l => some (HO.lst l)) (pair_set hi ?_ fun j e => ?_)
      · show V.ref (upc c i _ i).a = _
        rw [upc_same]
      · show V.ref (upc c i _ j).a = _
        rw [upc_ne c _ e]
    hg := k _ _ h'.hg (h.inj _ _ (by omega) (by omega) (by omega))
    sc := by
      rw [k _ _ h'.sc (h.inj _ _ (by omega) (by omega) (by omega))]
      refine congrArg (fun l => some (HO.lst l)) (pair_eq fun j => ?_)
      by_cases e : j = i
      · rw [e, upc_same]
      · rw [upc_ne c _ e]
    ls := by
      rw [k _ _ h'.ls (h.inj _ _ (by omega) (by omega) (by omega))]
      refine congrArg (fun l => some (HO.lst l)) (pair_eq fun j => ?_)
      by_cases e : j = i
      · rw [e, upc_same]
      · rw [upc_ne c _ e]
    q := fun j hj => by
      rw [k _ _ (h'.q j hj) (h.inj _ _ (by omega) (by omega) (by omega))]
      by_cases e : j = i
      · rw [e, upc_same]
      · rw [upc_ne c _ e]
    s := fun j hj => by
      have z := (h'.s j hj).kp k (h.inj _ _ (by omega) (by omega) (by omega))
      by_cases e : j = i
      · rw [e, upc_same]
        rw [e] at z
        exact z
      · rw [upc_ne c _ e]
        exact z
    a := fun j hj => by
      by_cases e : j = i
      · rw [e, upc_same]
        exact k _ _ eb (nb 5 (by omega) (by omega) (by omega))
      · rw [upc_ne c _ e]
        exact k _ _ (h'.a j hj) (h.na j hj _ (by omega) (by omega) (by omega))
    g := fun j hj => by
      have z := k _ _ (h'.g j hj) (h.inj _ _ (by omega) (by omega) (by omega))
      by_cases e : j = i
      · rw [e, upc_same]
        rw [e] at z
        exact z
      · rw [upc_ne c _ e]
        exact z
    na := fun j hj => by
      by_cases e : j = i
      · rw [e, upc_same]
        exact nb
      · rw [upc_ne c _ e]
        exact h.na j hj
    inj := h.inj
    old := old_kp h'.old k (h.new _ (by omega))
    new := h.new }
/-- a seeker asked, or reset -/
theorem Hold.seek (h : Hold C H0 H ad c n) {i : Nat} (hi : i < 2) {m : Sk} (k : Kp H H' (ad (10 - i))) (b : SkAt C H' (ad (10 - i)) m) (em : marksV m = marksV (c i).ms) : Hold C H0 H' ad (upc c i { c i with ms := m }) n where
  bag := h.bag.kp k (h.inj _ _ (by omega) (by omega) (by omega))
  mr := k _ _ h.mr (h.inj _ _ (by omega) (by omega) (by omega))
  sk := k _ _ h.sk (h.inj _ _ (by omega) (by omega) (by omega))
  st := by
    rw [k _ _ h.st (h.inj _ _ (by omega) (by omega) (by omega))]
    refine congrArg (fun l => some (HO.lst l)) (pair_eq fun j => ?_)
    by_cases e : j = i
    · rw [e, upc_same]
    · rw [upc_ne c _ e]
  hg := k _ _ h.hg (h.inj _ _ (by omega) (by omega) (by omega))
  sc := by
    rw [k _ _ h.sc (h.inj _ _ (by omega) (by omega) (by omega))]
    refine congrArg (fun l => some (HO.lst l)) (pair_eq fun j => ?_)
    by_cases e : j = i
    · rw [e, upc_same]
    · rw [upc_ne c _ e]
  ls := by
    rw [k _ _ h.ls (h.inj _ _ (by omega) (by omega) (by omega))]
    refine congrArg (fun l => some (HO.lst l)) (pair_eq fun j => ?_)
    by_cases e : j = i
    · rw [e, upc_same]
    · rw [upc_ne c _ e]
  q := fun j hj => by
    rw [k _ _ (h.q j hj) (h.inj _ _ (by omega) (by omega) (by omega))]
    by_cases e : j = i
    · rw [e, upc_same, em]
    · rw [upc_ne c _ e]
  s := fun j hj => by
    by_cases e : j = i
    · rw [e, upc_same]
      exact b
    · rw [upc_ne c _ e]
      exact (h.s j hj).kp k (h.inj _ _ (by omega) (by omega) (by omega))
  a := fun j hj => by
    have z := k _ _ (h.a j hj) (h.na j hj _ (by omega) (by omega) (by omega))
    by_cases e : j = i
    · rw [e, upc_same]
      rw [e] at z
      exact z
    · rw [upc_ne c _ e]
      exact z
  g := fun j hj => by
    have z := k _ _ (h.g j hj) (h.inj _ _ (by omega) (by omega) (by omega))
    by_cases e : j = i
    · rw [e, upc_same]
      rw [e] at z
      exact z
    · rw [upc_ne c _ e]
      exact z
  na := fun j hj => by
    by_cases e : j = i
    · rw [e, upc_same]
      exact h.na i hi
    · rw [upc_ne c _ e]
      exact h.na j hj
  inj := h.inj
  old := old_kp h.old k (h.new _ (by omega))
  new := h.new
/-- the last level -/
theorem Hold.last (h : Hold C H0 H ad c n) {i : Nat} (hi : i < 2) (z : Int) : Hold C H0 (L2.upd H (ad 0) (.lst ((pair fun j => oV (c j).lo).set i (.int z)))) ad (upc c i { c i with lo := some z }) n := by
  have k : Kp H (L2.upd H (ad 0) (.lst ((pair fun j => oV (c j).lo).set i (.int z)))) (ad 0) := Kp.upd _ _ _
  exact {
    bag := h.bag.kp k (h.inj _ _ (by omega) (by omega) (by omega))
    mr := k _ _ h.mr (h.inj _ _ (by omega) (by omega) (by omega))
    sk := k _ _ h.sk (h.inj _ _ (by omega) (by omega) (by omega))
    st := by
      rw [k _ _ h.st (h.inj _ _ (by omega) (by omega) (by omega))]
      refine congrArg (fun l => some (HO.lst l)) (pair_eq fun j => ?_)
      by_cases e : j = i
      · rw [e, upc_same]
      · rw [upc_ne c _ e]
    hg := k _ _ h.hg (h.inj _ _ (by omega) (by omega) (by omega))
    sc := by
      rw [k _ _ h.sc (h.inj _ _ (by omega) (by omega) (by omega))]
      refine congrArg (fun l => some (HO.lst l)) (pair_eq fun j => ?_)
      by_cases e : j = i
      · rw [e, upc_same]
      · rw [upc_ne c _ e]
    ls := by
      rw [upd_same]
      refine congrArg (fun l => some (HO.lst l)) (pair_set hi ?_ fun j e => ?_)
      · show oV (upc c i _ i).lo = _
        rw [upc_same]
        rfl
      · show oV (upc c i _ j).lo = _
        rw [upc_ne c _ e]
    q := fun j hj => by
      rw [k _ _ (h.q j hj) (h.inj _ _ (by omega) (by omega) (by omega))]
      by_cases e : j = i
      · rw [e, upc_same]
      · rw [upc_ne c _ e]
    s := fun j hj => by
      have z := (h.s j hj).kp k (h.inj _ _ (by omega) (by omega) (by omega))
      by_cases e : j = i
      · rw [e, upc_same]
        rw [e] at z
        exact z
      · rw [upc_ne c _ e]
        exact z
    a := fun j hj => by
      have z := k _ _ (h.a j hj) (h.na j hj _ (by omega) (by omega) (by omega))
      by_cases e : j = i
      · rw [e, upc_same]
        rw [e] at z
        exact z
      · rw [upc_ne c _ e]
        exact z
    g := fun j hj => by
      have z := k _ _ (h.g j hj) (h.inj _ _ (by omega) (by omega) (by omega))
      by_cases e : j = i
      · rw [e, upc_same]
        rw [e] at z
        exact z
      · rw [upc_ne c _ e]
        exact z
    na := fun j hj => by
      by_cases e : j = i
      · rw [e, upc_same]
        exact h.na i hi
      · rw [upc_ne c _ e]
        exact h.na j hj
    inj := h.inj
    old := old_kp h.old k (h.new _ (by omega))
    new := h.new }
/-- from where on warnings may name -/
theorem Hold.since (h : Hold C H0 H ad c n) {i : Nat} (hi : i < 2) (z : Int) : Hold C H0 (L2.upd H (ad 1) (.lst ((pair fun j => .int (c j).sc).set i (.int z)))) ad (upc c i { c i with sc := z }) n := by
  have k : Kp H (L2.upd H (ad 1) (.lst ((pair fun j => .int (c j).sc).set i (.int z)))) (ad 1) := Kp.upd _ _ _
  exact {
    bag := h.bag.kp k (h.inj _ _ (by omega) (by omega) (by omega))
    mr := k _ _ h.mr (h.inj _ _ (by omega) (by omega) (by omega))
    sk := k _ _ h.sk (h.inj _ _ (by omega) (by omega) (by omega))
    st := by
      rw [k _ _ h.st (h.inj _ _ (by omega) (by omega) (by omega))]
      refine congrArg (fun l => some (HO.lst l)) (pair_eq fun j => ?_)
      by_cases e : j = i
      · rw [e, upc_same]
      · rw [upc_ne c _ e]
    hg := k _ _ h.hg (h.inj _ _ (by omega) (by omega) (by omega))
    sc := by
      rw [upd_same]
      refine congrArg (fun l => some (HO.lst l)) (pair_set hi ?_ fun j e => ?_)
      · show V.int (upc c i _ i).sc = _
        rw [upc_same]
      · show V.int (upc c i _ j).sc = _
        rw [upc_ne c _ e]
    ls := by
      rw [k _ _ h.ls (h.inj _ _ (by omega) (by omega) (by omega))]
      refine congrArg (fun l => some (HO.lst l)) (pair_eq fun j => ?_)
      by_cases e : j = i
      · rw [e, upc_same]
      · rw [upc_ne c _ e]
    q := fun j hj => by
      rw [k _ _ (h.q j hj) (h.inj _ _ (by omega) (by omega) (by omega))]
      by_cases e : j = i
      · rw [e, upc_same]
      · rw [upc_ne c _ e]
    s := fun j hj => by
      have z := (h.s j hj).kp k (h.inj _ _ (by omega) (by omega) (by omega))
      by_cases e : j = i
      · rw [e, upc_same]
        rw [e] at z
        exact z
      · rw [upc_ne c _ e]
        exact z
    a := fun j hj => by
      have z := k _ _ (h.a j hj) (h.na j hj _ (by omega) (by omega) (by omega))
      by_cases e : j = i
      · rw [e, upc_same]
        rw [e] at z
        exact z
      · rw [upc_ne c _ e]
        exact z
    g := fun j hj => by
      have z := k _ _ (h.g j hj) (h.inj _ _ (by omega) (by omega) (by omega))
      by_cases e : j = i
      · rw [e, upc_same]
        rw [e] at z
        exact z
      · rw [upc_ne c _ e]
        exact z
    na := fun j hj => by
      by_cases e : j = i
      · rw [e, upc_same]
        exact h.na i hi
      · rw [upc_ne c _ e]
        exact h.na j hj
    inj := h.inj
    old := old_kp h.old k (h.new _ (by omega))
    new := h.new }
end
/-! ### what holds of one seeker's numbers between two turns -/
structure CInv (x : Cell) (t : Nat) : Prop where
  eq : x.ms = x.ml
  num : x.ms.num = (x.hs.length : Int)
  len : x.hs.length ≤ t
  calm : x.ms.calm < 4
  row0 : 0 ≤ x.ms.row
  rowS : x.ms.row ≤ x.ms.num - x.sc
  sc0 : 0 ≤ x.sc
  high : ∀ k : Nat, x.ms.num - x.ms.row ≤ (k : Int) → k < x.hs.length → ∃ z, x.hs[k]? = some z ∧ 0 ≤ z
theorem CInv.le {x : Cell} {t u : Nat} (h : CInv x t) (l : t ≤ u) : CInv x u := { h with len := Nat.le_trans h.len l }
def heightOf (m : Sk) (lv : Int) (nt : Bool) : Int := lv - base0 m lv - mkOf m nt
theorem abv_high {m : Sk} {lv : Int} {nt : Bool} (h : abv m lv nt = true) : 0 ≤ heightOf m lv nt := by
  have h1 : mkOf m nt ≤ lv - base0 m lv := of_decide_eq_true h
  unfold heightOf
  omega
theorem calm_lt {c : Int} (ov : Bool) (h : c < 4) : calmOf c ov < 4 := by
  unfold calmOf
  split
  · decide
  · split
    · assumption
    · decide
theorem high_next {x : Cell} {t : Nat} (h : CInv x t) {lv : Int} {nt : Bool} (k : Nat) (h1 : x.ms.num + 1 - row1 x.ms lv nt ≤ (k : Int)) (h2 : k < x.hs.length + 1) : ∃ z, (x.hs ++ [heightOf x.ms lv nt])[k]? = some z ∧ 0 ≤ z := by
  have hn := h.num
  have h0 := h.row0
  by_cases ha : abv x.ms lv nt = true
  · have er : row1 x.ms lv nt = x.ms.row + 1 := by
      unfold row1 rowOf
      rw [if_pos ha]
    by_cases hk : k < x.hs.length
    · obtain ⟨z, e, z0⟩ := h.high k (by omega) hk
      exact ⟨z, by rw [List.getElem?_append_left hk]; exact e, z0⟩
    · have ek : k = x.hs.length := by omega
      subst ek
      exact ⟨_, by rw [List.getElem?_append_right (Nat.le_refl _), Nat.sub_self]; rfl, abv_high ha⟩
  · have er : row1 x.ms lv nt = 0 := by
      unfold row1 rowOf
      rw [if_neg ha]
    omega
/-- an asking -/
theorem CInv.step {x : Cell} {t : Nat} (h : CInv x t) (lv : Int) (nt : Bool) (b : Addr) (lo : Option Int) :
    CInv { a := b, ms := step x.ms lv nt, ml := step x.ms lv nt, hs := x.hs ++ [heightOf x.ms lv nt], sc := x.sc, lo := lo } (t + 1) where
  eq := rfl
  num := by
    show x.ms.num + 1 = ((x.hs ++ [heightOf x.ms lv nt]).length : Int)
    rw [List.length_append, h.num]
    rfl
  len := by
    show (x.hs ++ [heightOf x.ms lv nt]).length ≤ t + 1
    rw [List.length_append]
    exact Nat.succ_le_succ h.len
  calm := calm_lt _ h.calm
  row0 := by
    show 0 ≤ row1 x.ms lv nt
    have := h.row0
    unfold row1 rowOf
    split <;> omega
  rowS := by
    show row1 x.ms lv nt ≤ x.ms.num + 1 - x.sc
    have h0 := h.row0
    have h1 := h.rowS
    unfold row1 rowOf
    split <;> omega
  sc0 := h.sc0
  high := fun k h1 h2 => high_next h k h1 (by
    have h3 : k < (x.hs ++ [heightOf x.ms lv nt]).length := h2
    rw [List.length_append] at h3
    exact h3)
/-- a reset -/
theorem CInv.reset {x : Cell} {t : Nat} (h : CInv x t) (b : Addr) : CInv { x with a := b, ms := resetOf x.ms, ml := resetOf x.ms, sc := (x.hs.length : Int) } t where
  eq := rfl
  num := h.num
  len := h.len
  calm := h.calm
  row0 := Int.le_refl _
  rowS := by
    show (0 : Int) ≤ x.ms.num - (x.hs.length : Int)
    have := h.num
    omega
  sc0 := Int.natCast_nonneg _
  high := fun k h1 h2 => by
    have h3 : x.ms.num - 0 ≤ (k : Int) := h1
    have h4 : k < x.hs.length := h2
    have := h.num
    omega
theorem high_at {x : Cell} {t : Nat} (h : CInv x t) {lv : Int} {nt : Bool} {k : Int} (h0 : 0 ≤ k) (h1 : x.ms.num + 1 - row1 x.ms lv nt ≤ k) (h2 : k ≤ x.ms.num) :
    ∃ z : Int, atI ((x.hs ++ [heightOf x.ms lv nt]).map V.int) k = some (.int z) ∧ 0 ≤ z := by
  obtain ⟨j, rfl⟩ := Int.eq_ofNat_of_zero_le h0
  have hn := h.num
  obtain ⟨z, e, z0⟩ := high_next (lv := lv) (nt := nt) h j h1 (by omega)
  exact ⟨z, atI_nat (by rw [List.getElem?_map, e]; rfl), z0⟩
theorem warn_mem {m : Sk} {lv : Int} {nt : Bool} {n : Int} (h : Ev.warn n ∈ evs m lv nt) : n = m.num ∧ 3 ≤ row1 m lv nt := by
  unfold evs at h
  rw [List.mem_append, List.mem_append] at h
  rcases h with (h | h) | h
  · unfold evF at h
    split at h
    · simp at h
    · simp at h
  · unfold evW at h
    split at h
    · next hw =>
      unfold wrn at hw
      rw [Bool.and_eq_true] at hw
      simp at h
      exact ⟨h, of_decide_eq_true hw.1⟩
    · simp at h
  · unfold evD at h
    split at h
    · simp at h
    · simp at h
theorem warn_ok {x : Cell} {t : Nat} (h : CInv x t) {lv : Int} {nt : Bool} {n : Int} (hm : Ev.warn n ∈ evs x.ms lv nt) : WarnOk (x.hs ++ [heightOf x.ms lv nt]) x.sc n := by
  obtain ⟨rfl, h3⟩ := warn_mem hm
  have hn := h.num
  have s0 := h.sc0
  have r1 := h.rowS
  have hr : row1 x.ms lv nt ≤ x.ms.row + 1 := by
    have := h.row0
    unfold row1 rowOf
    split <;> omega
  obtain ⟨z1, e1, p1⟩ := high_at (lv := lv) (nt := nt) (k := x.ms.num - 2) h (by omega) (by omega) (by omega)
  obtain ⟨z2, e2, p2⟩ := high_at (lv := lv) (nt := nt) (k := x.ms.num - 1) h (by omega) (by omega) (by omega)
  obtain ⟨z3, e3, p3⟩ := high_at (lv := lv) (nt := nt) (k := x.ms.num) h (by omega) (by omega) (by omega)
  refine ⟨?_, by omega, by omega, z1, z2, z3, e1, e2, e3, p1, p2, p3⟩
  rw [List.length_append, hn]
  rfl
end K21

namespace K21
open PySem L2
/-! ### what is told, as data -/
def evP : Ev → PyData
  | .first n => .tuple [.str "first", .int n]
  | .warn n => .tuple [.str "warning", .tuple [.int (n - 2), .int (n - 1), .int n]]
  | .dirt b => .tuple [.str "dirt", .int b]
theorem EvAt.dp {K : PySem.W.Frag} {H : Hp} {v : V} {e : Ev} (h : EvAt H v e) : Dp K H v (evP e) := by
  cases h with
  | first h => exact .tup (SqT.of h) (.cons (.str _) (.cons (.int _) .nil))
  | warn h g => exact .tup (SqT.of h) (.cons (.str _) (.cons (.tup (SqT.of g) (.cons (.int _) (.cons (.int _) (.cons (.int _) .nil)))) .nil))
  | dirt h => exact .tup (SqT.of h) (.cons (.str _) (.cons (.int _) .nil))
theorem EvsAt.dp {K : PySem.W.Frag} {H : Hp} : ∀ {vs : List V} {es : List Ev}, EvsAt H vs es → DpAll K H vs (es.map evP)
  | _, _, .nil => .nil
  | _, _, .cons h t => .cons h.dp (EvsAt.dp t)
theorem ToldAt.dp {K : PySem.W.Frag} {H : Hp} {t : Addr} {es : List Ev} (h : ToldAt H t es) : Dp K H (.ref t) (.list (es.map evP)) := by
  obtain ⟨xs, h1, h2⟩ := h
  exact .lst (SqL.of h1) h2.dp
theorem lay_first : PyData.canLay0 (.str "first") = true := by decide +kernel
theorem lay_warning : PyData.canLay0 (.str "warning") = true := by decide +kernel
theorem lay_dirt : PyData.canLay0 (.str "dirt") = true := by decide +kernel
theorem ev_lay (e : Ev) : PyData.canLay0 (evP e) = true := by
  cases e with
  | first n => simp only [evP, PyData.canLay0, PyData.canLayAll0, Bool.and_true]; exact lay_first
  | warn n => simp only [evP, PyData.canLay0, PyData.canLayAll0, Bool.and_true]; exact lay_warning
  | dirt n => simp only [evP, PyData.canLay0, PyData.canLayAll0, Bool.and_true]; exact lay_dirt
theorem ev_depth (e : Ev) : PyData.depth (evP e) ≤ 2 := by
  cases e with
  | first n => simp [evP, PyData.depth, PyData.depthAll]
  | warn n => simp [evP, PyData.depth, PyData.depthAll]
  | dirt n => simp [evP, PyData.depth, PyData.depthAll]
theorem evs_lay : ∀ es : List Ev, PyData.canLayAll0 (es.map evP) = true
  | [] => by simp only [List.map_nil, PyData.canLayAll0]
  | e :: es => by
    rw [List.map_cons, PyData.canLayAll0, ev_lay e, evs_lay es]
    rfl
theorem evs_depth : ∀ es : List Ev, PyData.depthAll (es.map evP) ≤ 2
  | [] => by simp [PyData.depthAll]
  | e :: es => by
    rw [List.map_cons, PyData.depthAll]
    exact Nat.max_le.mpr ⟨ev_depth e, evs_depth es⟩
theorem evs_shaped (m : Sk) (lv : Int) (nt : Bool) : PySem.SeqAt.shaped (.list ((evs m lv nt).map evP)) = true := by
  unfold PySem.SeqAt.shaped
  rw [PyData.canLay0, PyData.depth, evs_lay, Bool.true_and]
  have := evs_depth (evs m lv nt)
  exact decide_eq_true (by omega)
theorem scal_oV (o : Option Int) : scal (oV o) (oV o) = true := by
  cases o with
  | none => rfl
  | some z => rfl
/-! ### the callees -/
section
variable (P : Program) (w : World) (K : PySem.W.Frag) (mg : Str → Option Value) (base : Heap) (C : Addr)
def Cal (x : Str) (k : Nat) (ps : List Str) (sp : Sp) : Prop := ∃ (f : Addr) (fd : FuncData), mg x = some (.ref f) ∧ PySem.W.keepIn K (.ref f) = true ∧ Binds K fd ps [] ∧ FnOk P w K mg base CX0 k f fd ps sp
def CalM (x : Str) (k : Nat) (ps : List Str) (sp : Sp) : Prop := ∃ (f : Addr) (fd : FuncData), Meth K C x f ∧ Binds K fd ps [] ∧ FnOk P w K mg base CX0 k f fd ps sp
def CalI (k : Nat) (ps : List Str) (sp : Sp) : Prop := ∃ (f : Addr) (fd : FuncData), Mk K C f ∧ Binds K fd ps [] ∧ FnOk P w K mg base CX0 k f fd ps sp
structure Kit : Prop where
  bag : Cal P w K mg base "_law_bag" 1 ["_law_script", "_law_k"] (spBag K)
  take : Cal P w K mg base "_law_take" 1 ["_law_bag_here", "_law_many"] spTake
  marks : Cal P w K mg base "_law_marks" 2 ["_law_bag_here"] spMarks
  are : Cal P w K mg base "_law_are_events" 2 ["_law_told"] spAre
  asked : Cal P w K mg base "_law_asked" 1 ["_law_state", "_law_marks_here", "_law_level_here", "_law_night"] spAsked
  truth : Cal P w K mg base "_law_is_truth" 1 ["_law_told", "_law_due"] spTruth
  level : Cal P w K mg base "_law_level" 2 ["_law_bag_here", "_law_last"] spLevel
  named : Cal P w K mg base "_law_named_right" 1 ["_law_told", "_law_heights", "_law_since"] spNamed
  init : CalI P w K mg base C 1 ["self", "marks"] (spInit C)
  ask : CalM P w K mg base C "ask" 2 ["self", "level", "night"] (spAsk C)
  reset : CalM P w K mg base C "reset" 1 ["self"] (spReset C)
  sbase : CalM P w K mg base C "base" 1 ["self"] (spBase C)
  warned : CalM P w K mg base C "warned" 1 ["self"] (spWarned C)
end
def forBody : Stmt → List Stmt
  | .For _ _ b _ _ => b
  | _ => []
def turnBody : List Stmt := forBody ((forBody ((defBody sLaw).getD 0 (.Pass ⟨0, 0, 0, 0⟩))).getD 7 (.Pass ⟨0, 0, 0, 0⟩))
def namesL : List Str := ["_law_script", "_law_k", "_law_bag_here", "_law_marks_here", "_law_seekers", "_law_states", "_law_heights", "_law_since", "_law_lasts", "_law_turn", "_law_which", "_law_level_here", "_law_night", "_law_mark", "_law_base", "_law_due", "_law_told", "_law_each"]
theorem scLaw : FnScope namesL ["_law_script"] (defScope sLaw) := ⟨rfl, rfl, rfl, by decide +kernel, rfl, by decide +kernel, by decide +kernel⟩
/-- the slots -/
def sg (a : Addr) (k : Int) (ad : Nat → Addr) (v9 v10 v11 v12 v13 v14 v15 v16 v17 : Option V) : St :=
  [some (.ref a), some (.int k), some (.ref (ad 14)), some (.ref (ad 11)), some (.ref (ad 8)), some (.ref (ad 5)), some (.ref (ad 2)), some (.ref (ad 1)), some (.ref (ad 0)), v9, v10, v11, v12, v13, v14, v15, v16, v17]
section
variable {P : Program} {w : World} {K : PySem.W.Frag} {mg : Str → Option Value} {base : Heap}
theorem turn_ok {f C : Addr} {cdv : Value} {A : Around} {outer : List Env} {s : Shared} {H : Hp} {E : XK} (T : Txt K mg C) (Z : Kit P w K mg base C)
    (hr : Room 2 (A.deeper (PyProof.Rows.envOfC "law" (defScope sLaw) s.heap.objs.size f cdv))) :
    ∃ tb, PSs (cxOf CX0 P w K mg base namesL "law" (defScope sLaw) f cdv A outer s H E).nox turnBody tb ∧
      ∀ (D : Ends) (H0 H1 : Hp) (a : Addr) (k : Int) (ad : Nat → Addr) (v9 v10 v11 v12 v13 v14 v15 v16 v17 : Option V) (c : Nat → Cell) (t : Nat), t ≤ 200 → Hold C H0 H1 ad c (9 + 5 * t) → (∀ j, j < 2 → CInv (c j) t) →
        (∀ (v9 v10 v11 v12 v13 v14 v15 v16 v17 : Option V) (c' : Nat → Cell) (H' : Hp), Hold C H0 H' ad c' (9 + 5 * (t + 1)) → (∀ j, j < 2 → CInv (c' j) (t + 1)) → D.nx (sg a k ad v9 v10 v11 v12 v13 v14 v15 v16 v17) H') →
        tb D (sg a k ad v9 v10 v11 v12 v13 v14 v15 v16 v17) H1 := by
  obtain ⟨fT, fdT, mT, kT, bT, GT⟩ := Z.take
  obtain ⟨fE, fdE, mE, kE, bE, GE⟩ := Z.are
  obtain ⟨fA, fdA, mA, kA, bA, GA⟩ := Z.asked
  obtain ⟨fU, fdU, mU, kU, bU, GU⟩ := Z.truth
  obtain ⟨fL, fdL, mL, kL, bL, GL⟩ := Z.level
  obtain ⟨fN, fdN, mN, kN, bN, GN⟩ := Z.named
  obtain ⟨fK, fdK, mK, bK, GK⟩ := Z.ask
  obtain ⟨fR, fdR, mR, bR, GR⟩ := Z.reset
  obtain ⟨fS, fdS, mS, bS, GS⟩ := Z.sbase
  obtain ⟨fW, fdW, mW, bW, GW⟩ := Z.warned
  have hr2 := hr
  have hr1 : Room 1 (A.deeper (PyProof.Rows.envOfC "law" (defScope sLaw) s.heap.objs.size f cdv)) := hr.mono (by decide)
  have hu : (A.deeper (PyProof.Rows.envOfC "law" (defScope sLaw) s.heap.objs.size f cdv)).units + 64 < cLine := by
    have := hr.un
    omega
  refine ⟨_, (pss_cons (ps_set (i := 10) scLaw.nd rfl (.inl rfl) (pe_call GT hr1 rfl mT kT bT .nil pass0 (pa_cons (pv 2) (pa_cons pe_int pa_nil))))
      (pss_cons (ps_set (i := 11) scLaw.nd rfl (.inl rfl) (pe_call GL hr2 rfl mL kL bL .nil pass0 (pa_cons (pv 2) (pa_cons (pe_ix ix_list (pv 8) (pv 10) (fun _ _ => rfl)) pa_nil))))
      (pss_cons (ps_set (i := 12) scLaw.nd rfl (.inl rfl) (pe_cmpR op_eq (pe_call GT hr1 rfl mT kT bT .nil pass0 (pa_cons (pv 2) (pa_cons pe_int pa_nil))) pe_int (nomark _)))
      (pss_cons (ps_set (i := 13) scLaw.nd rfl (.inl rfl) (pe_ix ix_tup (pe_ix ix_list (pv 3) (pv 10) (fun _ _ => rfl)) (pe_op op_add pe_int (pe_callTy call_int1 (by rfl) T.int (by decide +kernel) (pa_cons (pv 12) pa_nil))) (fun _ _ => rfl)))
      (C8.pss_cut (ps_set (i := 14) scLaw.nd rfl (.inl rfl) (pe_ifExp (pt_cmpR op_isN (pe_ix ix_list (pe_ix ix_list (pv 5) (pv 10) (fun _ _ => rfl)) pe_int (fun _ _ => rfl)) pe_non (nomark _)) (pv 11) (pe_ix ix_list (pe_ix ix_list (pv 5) (pv 10) (fun _ _ => rfl)) pe_int (fun _ _ => rfl))))
      (pss_cons (ps_expr (pe_bm PySem.F.plainAttrs_list PySem.F.slot_list_append PySem.F.type_list_append mt_append (pe_ix ix_list (pv 6) (pv 10) (fun _ _ => rfl)) (pa_cons (pe_op op_sub (pe_op op_sub (pv 11) (pv 14)) (pv 13)) pa_nil)))
      (pss_cons (ps_asg (pe_call GA hr1 rfl mA kA bA .nil pass0 (pa_cons (pe_ix ix_list (pv 5) (pv 10) (fun _ _ => rfl)) (pa_cons (pe_ix ix_list (pv 3) (pv 10) (fun _ _ => rfl)) (pa_cons (pv 11) (pa_cons (pv 12) pa_nil))))) (pg_tup rfl (pgs_cons (pg_sub (pv 5) (pv 10) set_list) (pgs_cons (pg_name (i := 15) scLaw.nd rfl (.inl rfl)) pgs_nil))))
      (pss_cons (ps_set (i := 16) scLaw.nd rfl (.inl rfl) (pe_meth (pe_ix ix_list (pv 4) (pv 10) (fun _ _ => rfl)) T.cl mK GK hr2 bK .nil pass0 (pa_cons (pv 11) (pa_cons (pv 12) pa_nil))))
      (pss_cons (ps_asg (pv 11) (pg_sub (pv 8) (pv 10) set_list))
      (C8.pss_cut (ps_if (PW.pt (pw_or (pt_not (pt_val (pe_call GE hr2 rfl mE kE bE .nil pass0 (pa_cons (pv 16) pa_nil)))) (pw_or (pt_cmpR (op_neD hu) (pv 16) (pv 15) (nomark _)) (pw_or1 (pt_not (pt_val (pe_call GN hr1 rfl mN kN bN .nil pass0 (pa_cons (pv 16) (pa_cons (pe_ix ix_list (pv 6) (pv 10) (fun _ _ => rfl)) (pa_cons (pe_ix ix_list (pv 7) (pv 10) (fun _ _ => rfl)) pa_nil)))))))))) (pss_one (ps_ret pe_bl)) pss_nil)
      (C8.pss_cut (ps_if (pt_cmpR op_eq (pe_call GT hr1 rfl mT kT bT .nil pass0 (pa_cons (pv 2) (pa_cons pe_int pa_nil))) pe_int (nomark _)) (pss_cons (ps_expr (pe_meth0 (pe_ix ix_list (pv 4) (pv 10) (fun _ _ => rfl)) T.cl mR GR hr1 bR .nil pass0))
      (pss_cons (ps_asg (pe_callB call_len_seq (by rfl) T.len PySem.boot_len (pa_cons (pe_ix ix_list (pv 6) (pv 10) (fun _ _ => rfl)) pa_nil)) (pg_sub (pv 7) (pv 10) set_list))
      (pss_one (ps_asg (pe_op op_cat (pe_slice sl_list (pe_ix ix_list (pv 5) (pv 10) (fun _ _ => rfl)) po_none (po_some pe_int)) (pe_lst (pa_cons pe_int (pa_cons (pe_ix ix_list (pe_ix ix_list (pv 5) (pv 10) (fun _ _ => rfl)) pe_int (fun _ _ => rfl)) (pa_cons pe_bl pa_nil))))) (pg_sub (pv 5) (pv 10) set_list))))) pss_nil)
      (pss_one (ps_for PassesOwn.never rfl (pi_range1 rfl T.range (pa_cons pe_int pa_nil)) (pg_name (i := 17) scLaw.nd rfl (.inl rfl)) (pss_cons (ps_if (pt_cmpR op_ne (pe_meth0 (pe_ix ix_list (pv 4) (pv 17) (fun _ _ => rfl)) T.cl mS GS hr1 bS .nil pass0) (pe_ix ix_list (pe_ix ix_list (pv 5) (pv 17) (fun _ _ => rfl)) pe_int (fun _ _ => rfl)) (nomark _)) (pss_one (ps_ret pe_bl)) pss_nil)
      (pss_one (ps_if (pt_not (pt_val (pe_call GU hr1 rfl mU kU bU .nil pass0 (pa_cons (pe_meth0 (pe_ix ix_list (pv 4) (pv 17) (fun _ _ => rfl)) T.cl mW GW hr1 bW .nil pass0) (pa_cons (pe_ix ix_list (pe_ix ix_list (pv 5) (pv 17) (fun _ _ => rfl)) pe_int (fun _ _ => rfl)) pa_nil))))) (pss_one (ps_ret pe_bl)) pss_nil)))))))))))))))), ?_⟩
  intro D H0 H1 a k ad v9 v10 v11 v12 v13 v14 v15 v16 v17 c t ht h1 inv fin
  -- which
  refine ⟨_, rfl, ad 14, 2, _, rfl, h1.bag, by omega, by decide, by decide, fun r H2 r0 r1 k2 B2 => ?_⟩
  obtain ⟨i, rfl⟩ := Int.eq_ofNat_of_zero_le r0
  have hi : i < 2 := by omega
  have h2 := h1.draw k2 B2
  have em : (c i).ms = (c i).ml := (inv i hi).eq
  have hlen := (inv i hi).len
  -- the level
  refine ⟨_, rfl, _, rfl, _, rfl, ad 0, _, _, _, rfl, rfl, SqL.of h2.ls, pair_at hi, ?_⟩
  refine ⟨ad 14, (c i).lo, _, rfl, h2.bag, by omega, fun lv H3 k3 B3 => ?_⟩
  have h3 := h2.draw k3 B3
  -- the night
  refine ⟨_, rfl, ad 14, 3, _, rfl, h3.bag, by omega, by decide, by decide, fun r4 H4 _ _ k4 B4 => ?_⟩
  have h4 := h3.draw k4 B4
  refine ⟨rfl, ?_⟩
  generalize decide (V.int r4 = V.int 0) = nt
  -- the mark
  refine ⟨_, rfl, _, rfl, ad 11, _, _, _, rfl, rfl, SqL.of h4.mr, pair_at hi, _, rfl, .inr ⟨nt, rfl, _, _, rfl, rfl, ad (13 - i), _, _, _, rfl, rfl, SqT.of (h4.q i hi), mark_at _ nt, ?_⟩⟩
  -- the base
  refine ⟨fun σ H5 => σ = sg a k ad v9 (some (.int i)) (some (.int lv)) (some (.bl nt)) (some (.int (mkOf (c i).ms nt))) (some (.int (base0 (c i).ms lv))) v15 v16 v17 ∧ H5 = H4, ?_, ?_⟩
  · have ha := h4.a i hi
    rw [← em] at ha
    refine ⟨_, rfl, _, rfl, ad 5, _, _, _, rfl, rfl, SqL.of h4.st, pair_at hi, (c i).a, _, _, _, rfl, rfl, SqL.of ha, rfl, rfl, _, rfl, ?_⟩
    refine ite2 (fun hn => ?_) (fun hn => ?_)
    · refine ⟨_, rfl, ?_, rfl⟩
      rw [isN_eq] at hn
      rw [base0_new hn]
      rfl
    · refine ⟨_, rfl, _, rfl, ad 5, _, _, _, rfl, rfl, SqL.of h4.st, pair_at hi, (c i).a, _, _, _, rfl, rfl, SqL.of ha, rfl, ?_, rfl⟩
      rw [isN_eq] at hn
      rw [← base0_old (lv := lv) hn]
      rfl
  rintro σ H5 ⟨rfl, e5⟩
  subst H5
  -- the height
  have hg4 := h4.g i hi
  refine ⟨_, rfl, _, rfl, ad 2, _, _, _, rfl, rfl, SqL.of h4.hg, pair_at hi, .inl ⟨rfl, _, SqL.of hg4⟩, _, rfl, _, rfl, _, _, rfl, rfl, _, rfl, _, _, rfl, rfl, ad (4 - i), _, _, rfl, rfl, hg4, by rw [List.length_map]; exact small1000 (by omega), ?_⟩
  have h5 := h4.high hi ((c i).hs ++ [heightOf (c i).ms lv nt]) (Kp.upd H4 (ad (4 - i)) (.lst ((c i).hs.map V.int ++ [.int (lv - base0 (c i).ms lv - mkOf (c i).ms nt)]))) (by rw [upd_same, List.map_append]; rfl)
  generalize L2.upd H4 (ad (4 - i)) (.lst ((c i).hs.map V.int ++ [.int (lv - base0 (c i).ms lv - mkOf (c i).ms nt)])) = H5 at h5 ⊢
  generalize e5 : upc c i { c i with hs := (c i).hs ++ [heightOf (c i).ms lv nt] } = c5 at h5
  have x5 : c5 i = { c i with hs := (c i).hs ++ [heightOf (c i).ms lv nt] } := by rw [← e5, upc_same]
  have y5 : ∀ j, j ≠ i → c5 j = c j := fun j hj => by rw [← e5, upc_ne _ _ hj]
  -- asked
  have a5 := h5.a i hi
  have q5 := h5.q i hi
  rw [x5] at a5 q5
  have a5' : H5 (c i).a = some (.lst (stV (c i).ms)) := by
    rw [em]
    exact a5
  refine ⟨_, rfl, _, rfl, ad 5, _, _, _, rfl, rfl, SqL.of h5.st, pair_at hi, _, rfl, _, rfl, ad 11, _, _, _, rfl, rfl, SqL.of h5.mr, pair_at hi, _, rfl, _, rfl, ?_⟩
  refine ⟨(c i).a, ad (13 - i), (c i).ms, lv, nt, ?_, a5', q5, (inv i hi).calm, fun r b t1 H6 nr nb nt1 s6 er eb T6 => ?_⟩
  · show [V.ref (c5 i).a, V.ref (ad (13 - i)), V.int lv, V.bl nt] = _
    rw [x5]
  refine ⟨r, _, rfl, SqT.of er, rfl, _, _, rfl, _, rfl, _, rfl, ad 5, _, _, i, rfl, rfl, s6 _ _ h5.st, pair_ix hi, _, _, rfl, rfl, ?_⟩
  have h7 := h5.state hi nb s6 eb
  have T7 : ToldAt (L2.upd H6 (ad 5) (.lst ((pair fun j => .ref (c5 j).a).set i (.ref b)))) t1 (evs (c i).ms lv nt) := T6.kp (Kp.upd _ _ _) (ne_of_none h5.st nt1).symm (fun ys e => by rw [s6 _ _ h5.st] at e; cases e)
  generalize L2.upd H6 (ad 5) (.lst ((pair fun j => .ref (c5 j).a).set i (.ref b))) = H7 at h7 T7 ⊢
  generalize e7 : upc c5 i { c5 i with a := b, ml := step (c i).ms lv nt } = c7 at h7
  have x7 : c7 i = { c5 i with a := b, ml := step (c i).ms lv nt } := by rw [← e7, upc_same]
  have y7 : ∀ j, j ≠ i → c7 j = c5 j := fun j hj => by rw [← e7, upc_ne _ _ hj]
  -- the asking itself
  have s7 := h7.s i hi
  have m7 : (c7 i).ms = (c i).ms := by rw [x7, x5]
  rw [m7] at s7
  obtain ⟨dx7, d7⟩ := id s7
  refine ⟨_, rfl, _, rfl, ad 8, _, _, _, rfl, rfl, SqL.of h7.sk, pair_at hi, ad (10 - i), dx7, _, rfl, d7, flds_no _ (by decide +kernel), _, rfl, _, rfl, ?_⟩
  refine ⟨ad (10 - i), (c i).ms, lv, nt, rfl, s7, fun t2 H8 nt2 k8 S8 T8 => ?_⟩
  have h8 := h7.seek hi k8 S8 (by rw [m7]; rfl)
  have T8a := T7.kp k8 (s7.nolst T7) s7.notup
  generalize e8 : upc c7 i { c7 i with ms := step (c i).ms lv nt } = c8 at h8
  have x8 : c8 i = { c7 i with ms := step (c i).ms lv nt } := by rw [← e8, upc_same]
  have y8 : ∀ j, j ≠ i → c8 j = c7 j := fun j hj => by rw [← e8, upc_ne _ _ hj]
  -- the last level
  refine ⟨_, rfl, _, rfl, _, rfl, ad 0, _, _, i, rfl, rfl, h8.ls, pair_ix hi, ?_⟩
  have h9 := h8.last hi lv
  have n1 : t1 ≠ ad 0 := (ne_of_none h5.ls nt1).symm
  have n2 : t2 ≠ ad 0 := (ne_of_none h7.ls nt2).symm
  have T9a : ToldAt (L2.upd H8 (ad 0) (.lst ((pair fun j => oV (c8 j).lo).set i (.int lv)))) t1 (evs (c i).ms lv nt) := T8a.kp (Kp.upd _ _ _) n1 (fun ys e => by rw [h8.ls] at e; cases e)
  have T9b : ToldAt (L2.upd H8 (ad 0) (.lst ((pair fun j => oV (c8 j).lo).set i (.int lv)))) t2 (evs (c i).ms lv nt) := T8.kp (Kp.upd _ _ _) n2 (fun ys e => by rw [h8.ls] at e; cases e)
  generalize L2.upd H8 (ad 0) (.lst ((pair fun j => oV (c8 j).lo).set i (.int lv))) = H9 at h9 T9a T9b ⊢
  generalize e9 : upc c8 i { c8 i with lo := some lv } = c9 at h9
  have x9 : c9 i = { a := b, ms := step (c i).ms lv nt, ml := step (c i).ms lv nt, hs := (c i).hs ++ [heightOf (c i).ms lv nt], sc := (c i).sc, lo := some lv } := by
    rw [← e9, upc_same, x8, x7, x5]
  have y9 : ∀ j, j ≠ i → c9 j = c j := fun j hj => by rw [← e9, upc_ne _ _ hj, y8 j hj, y7 j hj, y5 j hj]
  have inv9 : ∀ j, j < 2 → CInv (c9 j) (t + 1) := fun j hj => by
    by_cases e : j = i
    · rw [e, x9]
      exact (inv i hi).step lv nt b (some lv)
    · rw [y9 j e]
      exact (inv j hj).le (Nat.le_succ t)
  have g9 := h9.g i hi
  rw [x9] at g9
  -- what is told is right
  refine ⟨fun σ H' => σ = sg a k ad v9 (some (.int i)) (some (.int lv)) (some (.bl nt)) (some (.int (mkOf (c i).ms nt))) (some (.int (base0 (c i).ms lv))) (some (.ref t1)) (some (.ref t2)) v17 ∧ Same H9 H', ?_, ?_⟩
  · refine ⟨_, rfl, t2, _, rfl, T9b, fun H10 s10 => ⟨true, rfl, ?_⟩⟩
    refine iteF ?_
    refine ⟨_, rfl, _, rfl, _, _, (T9b.same s10).dp, (T9a.same s10).dp, evs_shaped _ _ _, evs_shaped _ _ _, false, ?_, ?_⟩
    · rw [PySem.SeqAt.eqv_refl _ (PySem.SeqAt.canLay_of_shaped (evs_shaped _ _ _))]
      rfl
    refine iteF ?_
    have h10 := h9.same s10
    refine ⟨_, rfl, _, rfl, _, rfl, ad 2, _, _, _, rfl, rfl, SqL.of h10.hg, pair_at hi, _, rfl, _, rfl, ad 1, _, _, _, rfl, rfl, SqL.of h10.sc, pair_at hi, ?_⟩
    refine ⟨t2, ad (4 - i), evs (c i).ms lv nt, (c i).hs ++ [heightOf (c i).ms lv nt], (c i).sc, ?_, T9b.same s10, s10 _ _ g9, ?_, fun n hn => warn_ok (inv i hi) hn, fun H11 s11 => ⟨true, rfl, ?_⟩⟩
    · show [V.ref t2, V.ref (ad (4 - i)), V.int (c9 i).sc] = _
      rw [x9]
    · rw [List.length_append]
      show (c i).hs.length + 1 ≤ 1000
      omega
    refine iteF ?_
    exact ⟨rfl, s10.trans s11⟩
  rintro σ H11 ⟨rfl, s11⟩
  have h11 := h9.same s11
  -- a reset by a draw
  refine ⟨fun σ H' => σ = sg a k ad v9 (some (.int i)) (some (.int lv)) (some (.bl nt)) (some (.int (mkOf (c i).ms nt))) (some (.int (base0 (c i).ms lv))) (some (.ref t1)) (some (.ref t2)) v17 ∧
    ∃ c', Hold C H0 H' ad c' (9 + 5 * (t + 1)) ∧ ∀ j, j < 2 → CInv (c' j) (t + 1), ?_, ?_⟩
  · refine ⟨_, rfl, ad 14, 12, _, rfl, h11.bag, by omega, by decide, by decide, fun r12 H12 _ _ k12 B12 => ?_⟩
    have h12 := h11.draw k12 B12
    refine ⟨rfl, _, rfl, ?_⟩
    refine ite2 (fun _ => ?_) (fun _ => ?_)
    · have s12 := h12.s i hi
      rw [x9] at s12
      obtain ⟨dx12, d12⟩ := id s12
      refine ⟨_, rfl, _, rfl, ad 8, _, _, _, rfl, rfl, SqL.of h12.sk, pair_at hi, ad (10 - i), dx12, _, rfl, d12, flds_no _ (by decide +kernel), ?_⟩
      refine ⟨ad (10 - i), _, rfl, s12, fun H13 k13 S13 => ?_⟩
      have h13 := h12.seek hi k13 S13 (by rw [x9]; rfl)
      generalize e13 : upc c9 i { c9 i with ms := resetOf (step (c i).ms lv nt) } = c13 at h13
      have x13 : c13 i = { c9 i with ms := resetOf (step (c i).ms lv nt) } := by rw [← e13, upc_same]
      have y13 : ∀ j, j ≠ i → c13 j = c9 j := fun j hj => by rw [← e13, upc_ne _ _ hj]
      have g13 := h13.g i hi
      refine ⟨_, rfl, _, rfl, ad 2, _, _, _, rfl, rfl, SqL.of h13.hg, pair_at hi, ad (4 - i), _, rfl, .inl (SqL.of g13), _, rfl, _, rfl, ad 1, _, _, i, rfl, rfl, h13.sc, pair_ix hi, ?_⟩
      have h14 := h13.since hi (((c13 i).hs.map V.int).length : Int)
      generalize L2.upd H13 (ad 1) (.lst ((pair fun j => .int (c13 j).sc).set i (.int (((c13 i).hs.map V.int).length : Int)))) = H14 at h14 ⊢
      generalize e14 : upc c13 i { c13 i with sc := (((c13 i).hs.map V.int).length : Int) } = c14 at h14
      have x14 : c14 i = { c9 i with ms := resetOf (step (c i).ms lv nt), sc := ((c9 i).hs.length : Int) } := by
        rw [← e14, upc_same, x13, List.length_map]
      have y14 : ∀ j, j ≠ i → c14 j = c9 j := fun j hj => by rw [← e14, upc_ne _ _ hj, y13 j hj]
      have a14 := h14.a i hi
      have l14 : (c14 i).ml = step (c i).ms lv nt := by rw [x14, x9]
      rw [l14] at a14
      refine ⟨_, rfl, _, rfl, ad 5, _, _, _, rfl, rfl, SqL.of h14.st, pair_at hi, 3, rfl, (c14 i).a, _, rfl, SqL.of a14, fun p np => ?_⟩
      have sp : Same H14 (L2.upd H14 p (.lst (cutV (stV (step (c i).ms lv nt)) none (some 3)))) := Same.new np
      refine ⟨_, rfl, _, rfl, ad 5, _, _, _, rfl, rfl, SqL.of (sp _ _ h14.st), pair_at hi, (c14 i).a, _, _, _, rfl, rfl, SqL.of (sp _ _ a14), rfl, by show 3 ≤ sizeLine; decide, fun p2 np2 => ?_⟩
      have ep := (Same.new (o := .lst [V.int 0, V.int (step (c i).ms lv nt).calm, V.bl false]) np2) _ _ (upd_same (H := H14) (a := p) (o := .lst (cutV (stV (step (c i).ms lv nt)) none (some 3))))
      have sp2 : Same H14 (L2.upd (L2.upd H14 p (.lst (cutV (stV (step (c i).ms lv nt)) none (some 3)))) p2 (.lst [V.int 0, V.int (step (c i).ms lv nt).calm, V.bl false])) := sp.trans (Same.new np2)
      refine ⟨p, p2, _, _, rfl, rfl, ep, upd_same, by show 3 + 3 ≤ sizeLine; decide, fun p3 np3 => ?_⟩
      refine ⟨_, rfl, _, rfl, ad 5, _, _, i, rfl, rfl, (Same.new np3) _ _ (sp2 _ _ h14.st), pair_ix hi, ?_⟩
      have h15 := h14.state hi (m := resetOf (step (c i).ms lv nt)) (sp2.free np3) (sp2.trans (Same.new (o := .lst (cutV (stV (step (c i).ms lv nt)) none (some 3) ++ [V.int 0, V.int (step (c i).ms lv nt).calm, V.bl false])) np3)) upd_same
      refine ⟨rfl, _, h15.le (by omega), fun j hj => ?_⟩
      by_cases e : j = i
      · rw [e, upc_same, x14]
        have i9 := (inv9 i hi).reset p3
        have z9 : (c9 i).ms = step (c i).ms lv nt := by rw [x9]
        rw [z9] at i9
        exact i9
      · rw [upc_ne _ _ e, y14 j e]
        exact inv9 j hj
    · exact ⟨rfl, c9, h12.le (by omega), inv9⟩
  rintro σ H12 ⟨rfl, c', h12, inv12⟩
  -- both, behind the asking
  refine ⟨2, rfl, by decide, by decide, for_range (lo := 0) (n := 2) (fun j σ H' => H' = H12 ∧ ∃ v, σ = sg a k ad v9 (some (.int i)) (some (.int lv)) (some (.bl nt)) (some (.int (mkOf (c i).ms nt))) (some (.int (base0 (c i).ms lv))) (some (.ref t1)) (some (.ref t2)) v) ⟨rfl, _, rfl⟩ ?_ ?_⟩
  · rintro j σ H' hj ⟨rfl, v, rfl⟩
    rw [Int.zero_add]
    have ej : (c' j).ms = (c' j).ml := (inv12 j hj).eq
    have sj := h12.s j hj
    have aj := h12.a j hj
    rw [← ej] at aj
    obtain ⟨dxj, dj⟩ := id sj
    refine ⟨_, rfl, _, rfl, ad 8, _, _, _, rfl, rfl, SqL.of h12.sk, pair_at hj, ad (10 - j), dxj, _, rfl, dj, flds_no _ (by decide +kernel), ?_⟩
    refine ⟨ad (10 - j), (c' j).ms, rfl, sj, ?_⟩
    refine ⟨_, rfl, _, rfl, ad 5, _, _, _, rfl, rfl, SqL.of h12.st, pair_at hj, (c' j).a, _, _, _, rfl, rfl, SqL.of aj, rfl, scal_oV _, _, rfl, ?_⟩
    refine iteNS rfl ?_
    refine ⟨_, rfl, _, rfl, ad 8, _, _, _, rfl, rfl, SqL.of h12.sk, pair_at hj, ad (10 - j), dxj, _, rfl, dj, flds_no _ (by decide +kernel), ?_⟩
    refine ⟨ad (10 - j), (c' j).ms, rfl, sj, ?_⟩
    refine ⟨_, rfl, _, rfl, ad 5, _, _, _, rfl, rfl, SqL.of h12.st, pair_at hj, (c' j).a, _, _, _, rfl, rfl, SqL.of aj, rfl, ?_⟩
    refine ⟨(c' j).ms.warned, rfl, true, rfl, ?_⟩
    refine iteF ?_
    exact ⟨rfl, _, rfl⟩
  · rintro σ H' ⟨rfl, v, rfl⟩
    exact fin _ _ _ _ _ _ _ _ _ c' _ h12 inv12
end
end K21

namespace K21
open PySem L2
/-! ### the start: fifteen things, each its own -/
def Tr (H : Hp) (L : List Addr) : Prop := L.Nodup ∧ ∀ p, p ∈ L → H p ≠ none
theorem Tr.nil (H : Hp) : Tr H [] := ⟨List.nodup_nil, fun _ h => by cases h⟩
theorem Tr.add {H H' : Hp} {L : List Addr} {p : Addr} (t : Tr H L) (n : H p = none) (k : ∀ q, q ∈ L → H' q ≠ none) (e : H' p ≠ none) : Tr H' (p :: L) :=
  ⟨List.nodup_cons.mpr ⟨fun h => t.2 p h n, t.1⟩, fun q hq => by
    rcases List.mem_cons.mp hq with z | z
    · rw [z]
      exact e
    · exact k q z⟩
theorem same_some {H H' : Hp} (s : Same H H') {p : Addr} (h : H p ≠ none) : H' p ≠ none := by
  cases e : H p with
  | none => exact absurd e h
  | some o =>
    rw [s p o e]
    intro z
    cases z
theorem Tr.same {H H' : Hp} {L : List Addr} {p : Addr} (t : Tr H L) (n : H p = none) (s : Same H H') (e : H' p ≠ none) : Tr H' (p :: L) := t.add n (fun q hq => same_some s (t.2 q hq)) e
theorem Tr.kp {H H' : Hp} {L : List Addr} {p b : Addr} (t : Tr H L) (n : H p = none) (k : Kp H H' b) (hb : H' b ≠ none) (e : H' p ≠ none) : Tr H' (p :: L) := t.add n (fun q hq => by
  by_cases z : q = b
  · rw [z]
    exact hb
  · cases e : H q with
    | none => exact absurd e (t.2 q hq)
    | some o =>
      rw [k q o e z]
      intro z
      cases z) e
theorem some_ne {H : Hp} {p : Addr} {o : HO} (h : H p = some o) : H p ≠ none := by
  rw [h]
  intro z
  cases z
def adOf (L : List Addr) (i : Nat) : Addr := L.getD i 0
theorem ad_mem : ∀ (L : List Addr) (i : Nat), i < L.length → adOf L i ∈ L
  | [], i, h => by simp at h
  | a :: L, 0, _ => List.mem_cons_self
  | a :: L, i + 1, h => List.mem_cons_of_mem _ (ad_mem L i (by simpa using h))
theorem ad_inj : ∀ (L : List Addr) (i j : Nat), L.Nodup → i < L.length → j < L.length → i ≠ j → adOf L i ≠ adOf L j
  | [], i, _, _, h, _, _ => by simp at h
  | a :: L, 0, 0, _, _, _, h => absurd rfl h
  | a :: L, 0, j + 1, nd, _, hj, _ => fun e => (List.nodup_cons.mp nd).1 (by
      have e' : a = adOf L j := e
      rw [e']
      exact ad_mem L j (by simpa using hj))
  | a :: L, i + 1, 0, nd, hi, _, _ => fun e => (List.nodup_cons.mp nd).1 (by
      have e' : adOf L i = a := e
      rw [← e']
      exact ad_mem L i (by simpa using hi))
  | a :: L, i + 1, j + 1, nd, hi, hj, h => ad_inj L i j (List.nodup_cons.mp nd).2 (by simpa using hi) (by simpa using hj) (by omega)
def cinit (a0 a1 : Addr) (m0 m1 : Sk) : Nat → Cell
  | 0 => { a := a0, ms := m0, ml := m0, hs := [], sc := 0, lo := none }
  | _ + 1 => { a := a1, ms := m1, ml := m1, hs := [], sc := 0, lo := none }
def new0 : List V := [.int 0, .non, .bl false, .int 0, .int 0, .bl false]
theorem hold_init {C : Addr} {H0 H : Hp} {bg q0 q1 mk x0 x1 sk a0 a1 st g0 g1 hg sc ls : Addr} {f0 d0 t0 f1 d1 t1 : Int} (tr : Tr H [ls, sc, hg, g1, g0, st, a1, a0, sk, x1, x0, mk, q1, q0, bg]) (eb : BagAt H bg 8)
    (eq0 : H q0 = some (.tup [.int f0, .int d0, .int t0])) (eq1 : H q1 = some (.tup [.int f1, .int d1, .int t1])) (emk : H mk = some (.lst [.ref q0, .ref q1])) (ex0 : SkAt C H x0 (sk0 f0 d0 t0)) (ex1 : SkAt C H x1 (sk0 f1 d1 t1))
    (esk : H sk = some (.lst [.ref x0, .ref x1])) (ea0 : H a0 = some (.lst new0)) (ea1 : H a1 = some (.lst new0)) (est : H st = some (.lst [.ref a0, .ref a1])) (eg0 : H g0 = some (.lst [])) (eg1 : H g1 = some (.lst []))
    (ehg : H hg = some (.lst [.ref g0, .ref g1])) (esc : H sc = some (.lst [.int 0, .int 0])) (els : H ls = some (.lst [.non, .non])) (old : Same H0 H) (new : ∀ p, p ∈ [ls, sc, hg, g1, g0, st, a1, a0, sk, x1, x0, mk, q1, q0, bg] → H0 p = none) :
    Hold C H0 H (adOf [ls, sc, hg, g1, g0, st, a1, a0, sk, x1, x0, mk, q1, q0, bg]) (cinit a0 a1 (sk0 f0 d0 t0) (sk0 f1 d1 t1)) 8 where
  bag := eb
  mr := emk
  sk := esk
  st := est
  hg := ehg
  sc := esc
  ls := els
  q := fun j hj => by
    have e : j = 0 ∨ j = 1 := by omega
    rcases e with rfl | rfl
    · exact eq0
    · exact eq1
  s := fun j hj => by
    have e : j = 0 ∨ j = 1 := by omega
    rcases e with rfl | rfl
    · exact ex0
    · exact ex1
  a := fun j hj => by
    have e : j = 0 ∨ j = 1 := by omega
    rcases e with rfl | rfl
    · exact ea0
    · exact ea1
  g := fun j hj => by
    have e : j = 0 ∨ j = 1 := by omega
    rcases e with rfl | rfl
    · exact eg0
    · exact eg1
  na := fun j hj l hl h6 h7 => by
    have e : j = 0 ∨ j = 1 := by omega
    rcases e with rfl | rfl
    · exact ad_inj _ 7 l tr.1 (by show 7 < 15; decide) (by show l < 15; exact hl) (by omega)
    · exact ad_inj _ 6 l tr.1 (by show 6 < 15; decide) (by show l < 15; exact hl) (by omega)
  inj := fun i j hi hj h => ad_inj _ i j tr.1 hi hj h
  old := old
  new := fun l hl => new _ (ad_mem _ l hl)
theorem inv_init (a0 a1 : Addr) (f0 d0 t0 f1 d1 t1 : Int) (j : Nat) : CInv (cinit a0 a1 (sk0 f0 d0 t0) (sk0 f1 d1 t1) j) 0 := by
  cases j with
  | zero => exact ⟨rfl, rfl, Nat.le_refl _, by show (0 : Int) < 4; decide, Int.le_refl _, Int.le_refl _, Int.le_refl _, fun k _ h => absurd (show k < 0 from h) (Nat.not_lt_zero k)⟩
  | succ j => exact ⟨rfl, rfl, Nat.le_refl _, by show (0 : Int) < 4; decide, Int.le_refl _, Int.le_refl _, Int.le_refl _, fun k _ h => absurd (show k < 0 from h) (Nat.not_lt_zero k)⟩
theorem times (n : Nat) : 1 ≤ (if (if (n : Int) < 3 then (n : Int) else 3) > 1 then (if (n : Int) < 3 then (n : Int) else 3) else 1) ∧ (if (if (n : Int) < 3 then (n : Int) else 3) > 1 then (if (n : Int) < 3 then (n : Int) else 3) else 1) ≤ 3 := by
  by_cases h : (n : Int) < 3
  · rw [if_pos h]
    split <;> omega
  · rw [if_neg h]
    decide
def spLaw (K : PySem.W.Frag) : Sp := fun vs H Q _ => ∃ (a : Addr) (ns : List Int), vs = [.ref a] ∧ SqL K H a (ns.map V.int) ∧ ∀ H', Q (.bl true) H'
section
variable {P : Program} {w : World} {K : PySem.W.Frag} {mg : Str → Option Value} {base : Heap}
theorem ok_law {f C : Addr} {fd : FuncData} (F : Fun K "law" "law" sLaw f fd) (T : Txt K mg C) (Z : Kit P w K mg base C) : FnOk P w K mg base CX0 3 f fd ["_law_script"] (spLaw K) := by
  refine F.ok scLaw (fun vs H Q E h => ?_) (fun cdv A outer s H vs Q E hr h => ?_)
  · obtain ⟨a, ns, rfl, _⟩ := h
    rfl
  · obtain ⟨a, ns, rfl, hS, kq⟩ := h
    obtain ⟨fB, fdB, mB, kB, bB, GB⟩ := Z.bag
    obtain ⟨fM, fdM, mM, kM, bM, GM⟩ := Z.marks
    obtain ⟨fT, fdT, mT, kT, bT, GT⟩ := Z.take
    obtain ⟨fI, fdI, MI, bI, GI⟩ := Z.init
    have hr2 := hr
    have hr1 : Room 1 (A.deeper (PyProof.Rows.envOfC "law" (defScope sLaw) s.heap.objs.size f cdv)) := hr.mono (by decide)
    obtain ⟨tb, hTurn, rTurn⟩ := turn_ok (outer := outer) (H := H) (E := E) T Z hr
    refine ⟨_, (pss_cons (ps_for PassesOwn.never rfl (pi_range1 rfl T.range (pa_cons (pe_callB (call_max2 rfl) (by rfl) T.max (by decide +kernel) (pa_cons pe_int (pa_cons (pe_callB (call_min2 rfl) (by rfl) T.min (by decide +kernel) (pa_cons pe_int (pa_cons (pe_callB call_len_seq (by rfl) T.len PySem.boot_len (pa_cons (pv 0) pa_nil)) pa_nil))) pa_nil))) pa_nil)) (pg_name (i := 1) scLaw.nd rfl (.inl rfl)) (pss_cons (ps_set (i := 2) scLaw.nd rfl (.inl rfl) (pe_call GB hr1 rfl mB kB bB .nil pass0 (pa_cons (pv 0) (pa_cons (pv 1) pa_nil))))
      (pss_cons (ps_set (i := 3) scLaw.nd rfl (.inl rfl) (pe_lst (pa_cons (pe_call GM hr2 rfl mM kM bM .nil pass0 (pa_cons (pv 2) pa_nil)) (pa_cons (pe_call GM hr2 rfl mM kM bM .nil pass0 (pa_cons (pv 2) pa_nil)) pa_nil))))
      (pss_cons (ps_set (i := 4) scLaw.nd rfl (.inl rfl) (pe_lst (pa_cons (pe_make MI GI hr2 rfl T.mgC bI .nil pass0 (pa_cons (pe_ix ix_list (pv 3) pe_int (fun _ _ => rfl)) pa_nil)) (pa_cons (pe_make MI GI hr2 rfl T.mgC bI .nil pass0 (pa_cons (pe_ix ix_list (pv 3) pe_int (fun _ _ => rfl)) pa_nil)) pa_nil))))
      (pss_cons (ps_set (i := 5) scLaw.nd rfl (.inl rfl) (pe_lst (pa_cons (pe_lst (pa_cons pe_int (pa_cons pe_non (pa_cons pe_bl (pa_cons pe_int (pa_cons pe_int (pa_cons pe_bl pa_nil))))))) (pa_cons (pe_lst (pa_cons pe_int (pa_cons pe_non (pa_cons pe_bl (pa_cons pe_int (pa_cons pe_int (pa_cons pe_bl pa_nil))))))) pa_nil))))
      (pss_cons (ps_set (i := 6) scLaw.nd rfl (.inl rfl) (pe_lst (pa_cons (pe_lst pa_nil) (pa_cons (pe_lst pa_nil) pa_nil))))
      (pss_cons (ps_set (i := 7) scLaw.nd rfl (.inl rfl) (pe_lst (pa_cons pe_int (pa_cons pe_int pa_nil))))
      (pss_cons (ps_set (i := 8) scLaw.nd rfl (.inl rfl) (pe_lst (pa_cons pe_non (pa_cons pe_non pa_nil))))
      (pss_one (ps_for PassesOwn.never rfl (pi_range1 rfl T.range (pa_cons (pe_op op_add pe_int (pe_call GT hr1 rfl mT kT bT .nil pass0 (pa_cons (pv 2) (pa_cons pe_int pa_nil)))) pa_nil)) (pg_name (i := 9) scLaw.nd rfl (.inl rfl)) hTurn))))))))))
      (pss_one (ps_ret pe_bl))), ?_⟩
    obtain ⟨J1, J3⟩ := times (ns.map V.int).length
    refine ⟨_, rfl, a, _, rfl, .inl hS, _, _, rfl, _, _, rfl, _, rfl, by omega, by omega, for_range (lo := 0) (n := _) (fun i σ H' => (∃ v1 v2 v3 v4 v5 v6 v7 v8 v9 v10 v11 v12 v13 v14 v15 v16 v17 : Option V, σ = [some (.ref a), v1, v2, v3, v4, v5, v6, v7, v8, v9, v10, v11, v12, v13, v14, v15, v16, v17]) ∧ Same H H')
      ⟨⟨none, none, none, none, none, none, none, none, none, none, none, none, none, none, none, none, none, rfl⟩, Same.refl H⟩ ?_ ?_⟩
    · rintro i σ H' hi ⟨⟨v1, v2, v3, v4, v5, v6, v7, v8, v9, v10, v11, v12, v13, v14, v15, v16, v17, rfl⟩, s0⟩
      have hi3 : i < 3 := by omega
      -- the bag
      refine ⟨_, rfl, _, rfl, a, ns, 0 + (i : Int), rfl, s0.seq hS, by omega, by omega, fun bg H1 nb s1 B1 => ?_⟩
      have o1 : Same H H1 := s0.trans s1
      have fb : H bg = none := s0.free nb
      obtain ⟨_, _, _, eb1, _⟩ := id B1
      have tr1 : Tr H1 [bg] := (Tr.nil H').same nb s1 (some_ne eb1)
      -- the marks
      refine ⟨_, rfl, bg, 0, rfl, B1, by decide, fun q0 H2 f0 d0 t0 nq0 k2 B2 e0 => ?_⟩
      have o2 := old_kp o1 k2 fb
      obtain ⟨_, _, _, eb2, _⟩ := id B2
      have fq0 : H q0 = none := o1.free nq0
      have tr2 : Tr H2 [q0, bg] := tr1.kp nq0 k2 (some_ne eb2) (some_ne e0)
      refine ⟨_, rfl, bg, 4, rfl, B2, by decide, fun q1 H3 f1 d1 t1 nq1 k3 B3 e1 => ?_⟩
      have o3 := old_kp o2 k3 fb
      obtain ⟨_, _, _, eb3, _⟩ := id B3
      have fq1 : H q1 = none := o2.free nq1
      have tr3 : Tr H3 [q1, q0, bg] := tr2.kp nq1 k3 (some_ne eb3) (some_ne e1)
      have e0' := k3 _ _ e0 (ne_of e0 eb2 (by intro z; cases z))
      refine ⟨by show 2 ≤ sizeLine; decide, fun mk nmk => ?_⟩
      have s4 : Same H3 (L2.upd H3 mk (.lst [.ref q0, .ref q1])) := Same.new nmk
      have emk : (L2.upd H3 mk (.lst [.ref q0, .ref q1])) mk = some (.lst [.ref q0, .ref q1]) := upd_same
      generalize L2.upd H3 mk (.lst [.ref q0, .ref q1]) = H4 at s4 emk ⊢
      have tr4 := tr3.same nmk s4 (some_ne emk)
      have fmk : H mk = none := o3.free nmk
      have o4 := o3.trans s4
      -- the seekers
      refine ⟨_, rfl, mk, _, _, _, rfl, rfl, SqL.of emk, rfl, fun x0 dx0 nx0 ndx0 ne0 => ?_⟩
      have sx0 : Same H4 (L2.upd (L2.upd H4 dx0 (.own x0)) x0 (.ins C dx0 [])) := fun b o e => by
        rw [upd_ne (ne_of_none e nx0), upd_ne (ne_of_none e ndx0)]
        exact e
      refine ⟨x0, dx0, q0, f0, d0, t0, rfl, upd_same, sx0 _ _ (s4 _ _ e0'), fun H5 k5 S5 => ⟨rfl, ?_⟩⟩
      have s5 : Same H4 H5 := fun b o e => k5 b o (sx0 b o e) (ne_of_none e nx0)
      obtain ⟨dy0, ex0⟩ := id S5
      have tr5 := tr4.same nx0 s5 (some_ne ex0)
      have fx0 : H x0 = none := o4.free nx0
      have o5 := o4.trans s5
      refine ⟨_, rfl, mk, _, _, _, rfl, rfl, SqL.of (s5 _ _ emk), rfl, fun x1 dx1 nx1 ndx1 ne1 => ?_⟩
      have sx1 : Same H5 (L2.upd (L2.upd H5 dx1 (.own x1)) x1 (.ins C dx1 [])) := fun b o e => by
        rw [upd_ne (ne_of_none e nx1), upd_ne (ne_of_none e ndx1)]
        exact e
      refine ⟨x1, dx1, q1, f1, d1, t1, rfl, upd_same, sx1 _ _ (s5 _ _ (s4 _ _ e1)), fun H6 k6 S6 => ⟨rfl, ?_⟩⟩
      have s6 : Same H5 H6 := fun b o e => k6 b o (sx1 b o e) (ne_of_none e nx1)
      obtain ⟨dy1, ex1⟩ := id S6
      have tr6 := tr5.same nx1 s6 (some_ne ex1)
      have fx1 : H x1 = none := o5.free nx1
      have o6 := o5.trans s6
      refine ⟨by show 2 ≤ sizeLine; decide, fun sk nsk => ?_⟩
      have s7 : Same H6 (L2.upd H6 sk (.lst [.ref x0, .ref x1])) := Same.new nsk
      have esk : (L2.upd H6 sk (.lst [.ref x0, .ref x1])) sk = some (.lst [.ref x0, .ref x1]) := upd_same
      generalize L2.upd H6 sk (.lst [.ref x0, .ref x1]) = H7 at s7 esk ⊢
      have tr7 := tr6.same nsk s7 (some_ne esk)
      have fsk : H sk = none := o6.free nsk
      have o7 := o6.trans s7
      -- the states
      refine ⟨by show 6 ≤ sizeLine; decide, fun a0 na0 => ?_⟩
      have s8 : Same H7 (L2.upd H7 a0 (.lst [.int 0, .non, .bl false, .int 0, .int 0, .bl false])) := Same.new na0
      have ea0 : (L2.upd H7 a0 (.lst [.int 0, .non, .bl false, .int 0, .int 0, .bl false])) a0 = some (.lst new0) := upd_same
      generalize L2.upd H7 a0 (.lst [.int 0, .non, .bl false, .int 0, .int 0, .bl false]) = H8 at s8 ea0 ⊢
      have tr8 := tr7.same na0 s8 (some_ne ea0)
      have fa0 : H a0 = none := o7.free na0
      have o8 := o7.trans s8
      refine ⟨by show 6 ≤ sizeLine; decide, fun a1 na1 => ?_⟩
      have s9 : Same H8 (L2.upd H8 a1 (.lst [.int 0, .non, .bl false, .int 0, .int 0, .bl false])) := Same.new na1
      have ea1 : (L2.upd H8 a1 (.lst [.int 0, .non, .bl false, .int 0, .int 0, .bl false])) a1 = some (.lst new0) := upd_same
      generalize L2.upd H8 a1 (.lst [.int 0, .non, .bl false, .int 0, .int 0, .bl false]) = H9 at s9 ea1 ⊢
      have tr9 := tr8.same na1 s9 (some_ne ea1)
      have fa1 : H a1 = none := o8.free na1
      have o9 := o8.trans s9
      refine ⟨by show 2 ≤ sizeLine; decide, fun st nst => ?_⟩
      have s10 : Same H9 (L2.upd H9 st (.lst [.ref a0, .ref a1])) := Same.new nst
      have est : (L2.upd H9 st (.lst [.ref a0, .ref a1])) st = some (.lst [.ref a0, .ref a1]) := upd_same
      generalize L2.upd H9 st (.lst [.ref a0, .ref a1]) = H10 at s10 est ⊢
      have tr10 := tr9.same nst s10 (some_ne est)
      have fst : H st = none := o9.free nst
      have o10 := o9.trans s10
      -- the heights
      refine ⟨Nat.zero_le _, fun g0 ng0 => ?_⟩
      have s11 : Same H10 (L2.upd H10 g0 (.lst [])) := Same.new ng0
      have eg0 : (L2.upd H10 g0 (.lst [])) g0 = some (.lst []) := upd_same
      generalize L2.upd H10 g0 (.lst []) = H11 at s11 eg0 ⊢
      have tr11 := tr10.same ng0 s11 (some_ne eg0)
      have fg0 : H g0 = none := o10.free ng0
      have o11 := o10.trans s11
      refine ⟨Nat.zero_le _, fun g1 ng1 => ?_⟩
      have s12 : Same H11 (L2.upd H11 g1 (.lst [])) := Same.new ng1
      have eg1 : (L2.upd H11 g1 (.lst [])) g1 = some (.lst []) := upd_same
      generalize L2.upd H11 g1 (.lst []) = H12 at s12 eg1 ⊢
      have tr12 := tr11.same ng1 s12 (some_ne eg1)
      have fg1 : H g1 = none := o11.free ng1
      have o12 := o11.trans s12
      refine ⟨by show 2 ≤ sizeLine; decide, fun hg nhg => ?_⟩
      have s13 : Same H12 (L2.upd H12 hg (.lst [.ref g0, .ref g1])) := Same.new nhg
      have ehg : (L2.upd H12 hg (.lst [.ref g0, .ref g1])) hg = some (.lst [.ref g0, .ref g1]) := upd_same
      generalize L2.upd H12 hg (.lst [.ref g0, .ref g1]) = H13 at s13 ehg ⊢
      have tr13 := tr12.same nhg s13 (some_ne ehg)
      have fhg : H hg = none := o12.free nhg
      have o13 := o12.trans s13
      -- since; lasts
      refine ⟨by show 2 ≤ sizeLine; decide, fun sc nsc => ?_⟩
      have s14 : Same H13 (L2.upd H13 sc (.lst [.int 0, .int 0])) := Same.new nsc
      have esc : (L2.upd H13 sc (.lst [.int 0, .int 0])) sc = some (.lst [.int 0, .int 0]) := upd_same
      generalize L2.upd H13 sc (.lst [.int 0, .int 0]) = H14 at s14 esc ⊢
      have tr14 := tr13.same nsc s14 (some_ne esc)
      have fsc : H sc = none := o13.free nsc
      have o14 := o13.trans s14
      refine ⟨by show 2 ≤ sizeLine; decide, fun ls nls => ?_⟩
      have s15 : Same H14 (L2.upd H14 ls (.lst [.non, .non])) := Same.new nls
      have els : (L2.upd H14 ls (.lst [.non, .non])) ls = some (.lst [.non, .non]) := upd_same
      generalize L2.upd H14 ls (.lst [.non, .non]) = H15 at s15 els ⊢
      have tr15 := tr14.same nls s15 (some_ne els)
      have fls : H ls = none := o14.free nls
      have o15 := o14.trans s15
      -- what stands
      have u14 := s15
      have u13 := s14.trans u14
      have u12 := s13.trans u13
      have u11 := s12.trans u12
      have u10 := s11.trans u11
      have u9 := s10.trans u10
      have u8 := s9.trans u9
      have u7 := s8.trans u8
      have u6 := s7.trans u7
      have u5 := s6.trans u6
      have u4 := s5.trans u5
      have u3 := s4.trans u4
      have hold := hold_init (C := C) (H0 := H) tr15 (B3.same u3) (u3 _ _ e0') (u3 _ _ e1) (u4 _ _ emk) (S5.same u5) (S6.same u6) (u7 _ _ esk) (u8 _ _ ea0) (u9 _ _ ea1) (u10 _ _ est) (u11 _ _ eg0) (u12 _ _ eg1) (u13 _ _ ehg) (u14 _ _ esc) els o15 (fun p hp => by
        simp only [List.mem_cons, List.not_mem_nil, or_false] at hp
        rcases hp with rfl | rfl | rfl | rfl | rfl | rfl | rfl | rfl | rfl | rfl | rfl | rfl | rfl | rfl | rfl <;> assumption)
      -- the turns
      refine ⟨_, rfl, bg, 120, 8, rfl, hold.bag, by decide, by decide, by decide, fun r H16 r0 r1 k16 B16 => ?_⟩
      have hold16 := hold.draw k16 B16
      refine ⟨_, _, rfl, rfl, _, rfl, by omega, by omega, for_range (lo := 0) (n := _) (fun t σ H' => ∃ (v9 v10 v11 v12 v13 v14 v15 v16 v17 : Option V) (c : Nat → Cell), σ = sg a (0 + (i : Int)) (adOf [ls, sc, hg, g1, g0, st, a1, a0, sk, x1, x0, mk, q1, q0, bg]) v9 v10 v11 v12 v13 v14 v15 v16 v17 ∧
          Hold C H H' (adOf [ls, sc, hg, g1, g0, st, a1, a0, sk, x1, x0, mk, q1, q0, bg]) c (9 + 5 * t) ∧ ∀ j, j < 2 → CInv (c j) t)
        ⟨v9, v10, v11, v12, v13, v14, v15, v16, v17, _, rfl, hold16, fun j _ => inv_init _ _ _ _ _ _ _ _ j⟩ ?_ ?_⟩
      · rintro t σ H'' ht ⟨w9, w10, w11, w12, w13, w14, w15, w16, w17, c, rfl, hH, inv⟩
        exact rTurn _ H H'' a (0 + (i : Int)) _ _ w10 w11 w12 w13 w14 w15 w16 w17 c t (by omega) hH inv fun y9 y10 y11 y12 y13 y14 y15 y16 y17 c' H3 hH' inv' => ⟨y9, y10, y11, y12, y13, y14, y15, y16, y17, c', rfl, hH', inv'⟩
      · rintro σ H'' ⟨w9, w10, w11, w12, w13, w14, w15, w16, w17, c, rfl, hH, inv⟩
        exact ⟨⟨_, _, _, _, _, _, _, _, _, _, _, _, _, _, _, _, _, rfl⟩, hH.old⟩
    · rintro σ H' ⟨⟨v1, v2, v3, v4, v5, v6, v7, v8, v9, v10, v11, v12, v13, v14, v15, v16, v17, rfl⟩, s0⟩
      exact kq _
end
end K21

namespace K21
open PySem L2
/-! ### what the top has written, and the law's own head -/
theorem all_mk {l : PySem.W.OpenLaw} {w : World} {K : PySem.W.Frag} {h : Heap} {mg : Str → Option Value} {fa C f1 f2 f3 f4 f5 f6 f7 f8 f9 f10 f11 f12 f13 f14 f15 f16 f17 : Addr} (X : K.In h) (G : h.Ns mainGlobals mg) (hfa : mg "law" = some (.ref fa))
    {od1 an1 od2 an2 od3 an3 od4 an4 od5 an5 od6 an6 od7 an7 od8 an8 od9 an9 od10 an10 od11 an11 od12 an12 od13 an13 od14 an14 od15 an15 od16 an16 od17 an17 : Option Addr} {sl1 sl2 sl3 sl4 sl5 sl6 sl7 sl8 sl9 sl10 sl11 sl12 sl13 sl14 sl15 sl16 sl17 : Array (Option Value)} {oc1 kV1 dc1 pm1 cd1 ct1 oc2 kV2 dc2 pm2 cd2 ct2 oc3 kV3 dc3 pm3 cd3 ct3 oc4 kV4 dc4 pm4 cd4 ct4 oc5 kV5 dc5 pm5 cd5 ct5 oc6 kV6 dc6 pm6 cd6 ct6 oc7 kV7 dc7 pm7 cd7 ct7 oc8 kV8 dc8 pm8 cd8 ct8 oc9 kV9 dc9 pm9 cd9 ct9 oc10 kV10 dc10 pm10 cd10 ct10 oc11 kV11 dc11 pm11 cd11 ct11 oc12 kV12 dc12 pm12 cd12 ct12 oc13 kV13 dc13 pm13 cd13 ct13 oc14 kV14 dc14 pm14 cd14 ct14 oc15 kV15 dc15 pm15 cd15 ct15 oc16 kV16 dc16 pm16 cd16 ct16 oc17 kV17 dc17 pm17 cd17 ct17 : Value} {tA tC tD : Tok}
    (aC : PySem.W.nsIn K mainGlobals "Seeker" = some (some (.ref C)))
    (a1 : PySem.W.findIn K (.ref C) "__init__" = some (some (.ref f1))) (i1 : PySem.W.isFn K (.ref f1) = true)
    (l1 : K.lookup f1 = some ⟨oc1, od1, .func (PySem.W.fnOf "__init__" "Seeker.__init__" (defArgs sInit) (defBody sInit) (defScope sInit) .none kV1 dc1 pm1 an1 cd1 ct1), sl1⟩) (c1 : PySem.W.codeIn K cd1 "Seeker.__init__" = true) (k1 : PySem.W.keepIn K (.ref f1) = true)
    (a2 : PySem.W.findIn K (.ref C) "ask" = some (some (.ref f2))) (i2 : PySem.W.isFn K (.ref f2) = true)
    (l2 : K.lookup f2 = some ⟨oc2, od2, .func (PySem.W.fnOf "ask" "Seeker.ask" (defArgs sAsk) (defBody sAsk) (defScope sAsk) .none kV2 dc2 pm2 an2 cd2 ct2), sl2⟩) (c2 : PySem.W.codeIn K cd2 "Seeker.ask" = true) (k2 : PySem.W.keepIn K (.ref f2) = true)
    (a3 : PySem.W.findIn K (.ref C) "count_above" = some (some (.ref f3))) (i3 : PySem.W.isFn K (.ref f3) = true)
    (l3 : K.lookup f3 = some ⟨oc3, od3, .func (PySem.W.fnOf "count_above" "Seeker.count_above" (defArgs sCount) (defBody sCount) (defScope sCount) .none kV3 dc3 pm3 an3 cd3 ct3), sl3⟩) (c3 : PySem.W.codeIn K cd3 "Seeker.count_above" = true) (k3 : PySem.W.keepIn K (.ref f3) = true)
    (a4 : PySem.W.findIn K (.ref C) "drift" = some (some (.ref f4))) (i4 : PySem.W.isFn K (.ref f4) = true)
    (l4 : K.lookup f4 = some ⟨oc4, od4, .func (PySem.W.fnOf "drift" "Seeker.drift" (defArgs sDrift) (defBody sDrift) (defScope sDrift) .none kV4 dc4 pm4 an4 cd4 ct4), sl4⟩) (c4 : PySem.W.codeIn K cd4 "Seeker.drift" = true) (k4 : PySem.W.keepIn K (.ref f4) = true)
    (a5 : PySem.W.findIn K (.ref C) "reset" = some (some (.ref f5))) (i5 : PySem.W.isFn K (.ref f5) = true)
    (l5 : K.lookup f5 = some ⟨oc5, od5, .func (PySem.W.fnOf "reset" "Seeker.reset" (defArgs sReset) (defBody sReset) (defScope sReset) .none kV5 dc5 pm5 an5 cd5 ct5), sl5⟩) (c5 : PySem.W.codeIn K cd5 "Seeker.reset" = true) (k5 : PySem.W.keepIn K (.ref f5) = true)
    (a6 : PySem.W.findIn K (.ref C) "base" = some (some (.ref f6))) (i6 : PySem.W.isFn K (.ref f6) = true)
    (l6 : K.lookup f6 = some ⟨oc6, od6, .func (PySem.W.fnOf "base" "Seeker.base" (defArgs sBase) (defBody sBase) (defScope sBase) .none kV6 dc6 pm6 an6 cd6 ct6), sl6⟩) (c6 : PySem.W.codeIn K cd6 "Seeker.base" = true) (k6 : PySem.W.keepIn K (.ref f6) = true)
    (a7 : PySem.W.findIn K (.ref C) "warned" = some (some (.ref f7))) (i7 : PySem.W.isFn K (.ref f7) = true)
    (l7 : K.lookup f7 = some ⟨oc7, od7, .func (PySem.W.fnOf "warned" "Seeker.warned" (defArgs sWarned) (defBody sWarned) (defScope sWarned) .none kV7 dc7 pm7 an7 cd7 ct7), sl7⟩) (c7 : PySem.W.codeIn K cd7 "Seeker.warned" = true) (k7 : PySem.W.keepIn K (.ref f7) = true)
    (a8 : PySem.W.nsIn K mainGlobals "_law_bag" = some (some (.ref f8)))
    (l8 : K.lookup f8 = some ⟨oc8, od8, .func (PySem.W.fnOf "_law_bag" "_law_bag" (defArgs sBag) (defBody sBag) (defScope sBag) .none kV8 dc8 pm8 an8 cd8 ct8), sl8⟩) (c8 : PySem.W.codeIn K cd8 "_law_bag" = true) (k8 : PySem.W.keepIn K (.ref f8) = true)
    (a9 : PySem.W.nsIn K mainGlobals "_law_take" = some (some (.ref f9)))
    (l9 : K.lookup f9 = some ⟨oc9, od9, .func (PySem.W.fnOf "_law_take" "_law_take" (defArgs sTake) (defBody sTake) (defScope sTake) .none kV9 dc9 pm9 an9 cd9 ct9), sl9⟩) (c9 : PySem.W.codeIn K cd9 "_law_take" = true) (k9 : PySem.W.keepIn K (.ref f9) = true)
    (a10 : PySem.W.nsIn K mainGlobals "_law_whole" = some (some (.ref f10)))
    (l10 : K.lookup f10 = some ⟨oc10, od10, .func (PySem.W.fnOf "_law_whole" "_law_whole" (defArgs sWhole) (defBody sWhole) (defScope sWhole) .none kV10 dc10 pm10 an10 cd10 ct10), sl10⟩) (c10 : PySem.W.codeIn K cd10 "_law_whole" = true) (k10 : PySem.W.keepIn K (.ref f10) = true)
    (a11 : PySem.W.nsIn K mainGlobals "_law_marks" = some (some (.ref f11)))
    (l11 : K.lookup f11 = some ⟨oc11, od11, .func (PySem.W.fnOf "_law_marks" "_law_marks" (defArgs sMarks) (defBody sMarks) (defScope sMarks) .none kV11 dc11 pm11 an11 cd11 ct11), sl11⟩) (c11 : PySem.W.codeIn K cd11 "_law_marks" = true) (k11 : PySem.W.keepIn K (.ref f11) = true)
    (a12 : PySem.W.nsIn K mainGlobals "_law_are_events" = some (some (.ref f12)))
    (l12 : K.lookup f12 = some ⟨oc12, od12, .func (PySem.W.fnOf "_law_are_events" "_law_are_events" (defArgs sAre) (defBody sAre) (defScope sAre) .none kV12 dc12 pm12 an12 cd12 ct12), sl12⟩) (c12 : PySem.W.codeIn K cd12 "_law_are_events" = true) (k12 : PySem.W.keepIn K (.ref f12) = true)
    (a13 : PySem.W.nsIn K mainGlobals "_law_asked" = some (some (.ref f13)))
    (l13 : K.lookup f13 = some ⟨oc13, od13, .func (PySem.W.fnOf "_law_asked" "_law_asked" (defArgs sAsked) (defBody sAsked) (defScope sAsked) .none kV13 dc13 pm13 an13 cd13 ct13), sl13⟩) (c13 : PySem.W.codeIn K cd13 "_law_asked" = true) (k13 : PySem.W.keepIn K (.ref f13) = true)
    (a14 : PySem.W.nsIn K mainGlobals "_law_is_truth" = some (some (.ref f14)))
    (l14 : K.lookup f14 = some ⟨oc14, od14, .func (PySem.W.fnOf "_law_is_truth" "_law_is_truth" (defArgs sTruth) (defBody sTruth) (defScope sTruth) .none kV14 dc14 pm14 an14 cd14 ct14), sl14⟩) (c14 : PySem.W.codeIn K cd14 "_law_is_truth" = true) (k14 : PySem.W.keepIn K (.ref f14) = true)
    (a15 : PySem.W.nsIn K mainGlobals "_law_level" = some (some (.ref f15)))
    (l15 : K.lookup f15 = some ⟨oc15, od15, .func (PySem.W.fnOf "_law_level" "_law_level" (defArgs sLevel) (defBody sLevel) (defScope sLevel) .none kV15 dc15 pm15 an15 cd15 ct15), sl15⟩) (c15 : PySem.W.codeIn K cd15 "_law_level" = true) (k15 : PySem.W.keepIn K (.ref f15) = true)
    (a16 : PySem.W.nsIn K mainGlobals "_law_named_right" = some (some (.ref f16)))
    (l16 : K.lookup f16 = some ⟨oc16, od16, .func (PySem.W.fnOf "_law_named_right" "_law_named_right" (defArgs sNamed) (defBody sNamed) (defScope sNamed) .none kV16 dc16 pm16 an16 cd16 ct16), sl16⟩) (c16 : PySem.W.codeIn K cd16 "_law_named_right" = true) (k16 : PySem.W.keepIn K (.ref f16) = true)
    (a17 : PySem.W.nsIn K mainGlobals "law" = some (some (.ref f17)))
    (l17 : K.lookup f17 = some ⟨oc17, od17, .func (PySem.W.fnOf "law" "law" (defArgs sLaw) (defBody sLaw) (defScope sLaw) .none kV17 dc17 pm17 an17 cd17 ct17), sl17⟩) (c17 : PySem.W.codeIn K cd17 "law" = true) (k17 : PySem.W.keepIn K (.ref f17) = true)
    (pg : PySem.W.plainGet K C Str.empty = true) (hd : PySem.W.hasDictIn K C = true) (po : PySem.W.plainOver K C = true) (sa : PySem.W.findIn K (.ref C) "__setattr__" = some (some (.builtin "object.__setattr__"))) (mk : PySem.W.makesIn K C = true) (kc : PySem.W.keepIn K (.ref C) = true)
    (n0 : PySem.W.findIn K (.ref C) "first_mark" = some none)
    (n1 : PySem.W.findIn K (.ref C) "day_mark" = some none)
    (n2 : PySem.W.findIn K (.ref C) "night_mark" = some none)
    (n3 : PySem.W.findIn K (.ref C) "number" = some none)
    (n4 : PySem.W.findIn K (.ref C) "level_base" = some none)
    (n5 : PySem.W.findIn K (.ref C) "over_first" = some none)
    (n6 : PySem.W.findIn K (.ref C) "above_run" = some none)
    (n7 : PySem.W.findIn K (.ref C) "calm_run" = some none)
    (n8 : PySem.W.findIn K (.ref C) "has_warned" = some none)
    (gA : PySem.W.nsIn K mainGlobals "ROW_ABOVE" = some (some (.int 3 tA))) (gC : PySem.W.nsIn K mainGlobals "ROW_CALM" = some (some (.int 4 tC))) (gD : PySem.W.nsIn K mainGlobals "DIRTY" = some (some (.int 100 tD)))
    (z0 : PySem.W.nsIn K mainGlobals "len" = some none)
    (z1 : PySem.W.nsIn K mainGlobals "abs" = some none)
    (z2 : PySem.W.nsIn K mainGlobals "int" = some none)
    (z3 : PySem.W.nsIn K mainGlobals "bool" = some none)
    (z4 : PySem.W.nsIn K mainGlobals "isinstance" = some none)
    (z5 : PySem.W.nsIn K mainGlobals "tuple" = some none)
    (z6 : PySem.W.nsIn K mainGlobals "list" = some none)
    (z7 : PySem.W.nsIn K mainGlobals "range" = some none)
    (z8 : PySem.W.nsIn K mainGlobals "max" = some none)
    (z9 : PySem.W.nsIn K mainGlobals "min" = some none)
    : ∃ fd : FuncData, (∀ (s : Shared) (v : Value), BindsTo s fd ⟨[v], []⟩ [("_law_script", v)]) ∧ ∀ base : Heap, K.In base → base.Ns mainGlobals mg → FnOk l.prog w K mg base CX0 3 fa fd ["_law_script"] (spLaw K) := by
  have e := hfa.symm.trans (PySem.W.mg_of X G a17)
  cases e
  have T : Txt K mg C := ⟨⟨pg, hd, po, sa⟩, n0, n1, n2, n3, n4, n5, n6, n7, n8, PySem.W.mg_of X G aC, ⟨_, PySem.W.mg_of X G gA⟩, ⟨_, PySem.W.mg_of X G gC⟩, ⟨_, PySem.W.mg_of X G gD⟩, PySem.W.mg_none_of X G z0, PySem.W.mg_none_of X G z1, PySem.W.mg_none_of X G z2, PySem.W.mg_none_of X G z3, PySem.W.mg_none_of X G z4, PySem.W.mg_none_of X G z5, PySem.W.mg_none_of X G z6, PySem.W.mg_none_of X G z7, PySem.W.mg_none_of X G z8, PySem.W.mg_none_of X G z9⟩
  have F1 := fun_mk (st := sInit) l1 c1 k1
  have b1 := F1.binds (ps := ["self", "marks"]) fun _ _ _ _ _ _ us hl => match us, hl with | [_, _], _ => rfl
  have F2 := fun_mk (st := sAsk) l2 c2 k2
  have b2 := F2.binds (ps := ["self", "level", "night"]) fun _ _ _ _ _ _ us hl => match us, hl with | [_, _, _], _ => rfl
  have F3 := fun_mk (st := sCount) l3 c3 k3
  have b3 := F3.binds (ps := ["self", "above"]) fun _ _ _ _ _ _ us hl => match us, hl with | [_, _], _ => rfl
  have F4 := fun_mk (st := sDrift) l4 c4 k4
  have b4 := F4.binds (ps := ["self", "level", "over"]) fun _ _ _ _ _ _ us hl => match us, hl with | [_, _, _], _ => rfl
  have F5 := fun_mk (st := sReset) l5 c5 k5
  have b5 := F5.binds (ps := ["self"]) fun _ _ _ _ _ _ us hl => match us, hl with | [_], _ => rfl
  have F6 := fun_mk (st := sBase) l6 c6 k6
  have b6 := F6.binds (ps := ["self"]) fun _ _ _ _ _ _ us hl => match us, hl with | [_], _ => rfl
  have F7 := fun_mk (st := sWarned) l7 c7 k7
  have b7 := F7.binds (ps := ["self"]) fun _ _ _ _ _ _ us hl => match us, hl with | [_], _ => rfl
  have F8 := fun_mk (st := sBag) l8 c8 k8
  have b8 := F8.binds (ps := ["_law_script", "_law_k"]) fun _ _ _ _ _ _ us hl => match us, hl with | [_, _], _ => rfl
  have F9 := fun_mk (st := sTake) l9 c9 k9
  have b9 := F9.binds (ps := ["_law_bag_here", "_law_many"]) fun _ _ _ _ _ _ us hl => match us, hl with | [_, _], _ => rfl
  have F10 := fun_mk (st := sWhole) l10 c10 k10
  have b10 := F10.binds (ps := ["_law_thing"]) fun _ _ _ _ _ _ us hl => match us, hl with | [_], _ => rfl
  have F11 := fun_mk (st := sMarks) l11 c11 k11
  have b11 := F11.binds (ps := ["_law_bag_here"]) fun _ _ _ _ _ _ us hl => match us, hl with | [_], _ => rfl
  have F12 := fun_mk (st := sAre) l12 c12 k12
  have b12 := F12.binds (ps := ["_law_told"]) fun _ _ _ _ _ _ us hl => match us, hl with | [_], _ => rfl
  have F13 := fun_mk (st := sAsked) l13 c13 k13
  have b13 := F13.binds (ps := ["_law_state", "_law_marks_here", "_law_level_here", "_law_night"]) fun _ _ _ _ _ _ us hl => match us, hl with | [_, _, _, _], _ => rfl
  have F14 := fun_mk (st := sTruth) l14 c14 k14
  have b14 := F14.binds (ps := ["_law_told", "_law_due"]) fun _ _ _ _ _ _ us hl => match us, hl with | [_, _], _ => rfl
  have F15 := fun_mk (st := sLevel) l15 c15 k15
  have b15 := F15.binds (ps := ["_law_bag_here", "_law_last"]) fun _ _ _ _ _ _ us hl => match us, hl with | [_, _], _ => rfl
  have F16 := fun_mk (st := sNamed) l16 c16 k16
  have b16 := F16.binds (ps := ["_law_told", "_law_heights", "_law_since"]) fun _ _ _ _ _ _ us hl => match us, hl with | [_, _, _], _ => rfl
  have F17 := fun_mk (st := sLaw) l17 c17 k17
  have mT := PySem.W.mg_of X G a9
  have mW := PySem.W.mg_of X G a10
  refine ⟨PySem.W.fnOf "law" "law" (defArgs sLaw) (defBody sLaw) (defScope sLaw) .none kV17 dc17 pm17 an17 cd17 ct17, fun s v => .of_eq rfl, fun base _ _ => ok_law F17 T ?_⟩
  exact {
    bag := ⟨_, _, PySem.W.mg_of X G a8, k8, b8, ok_bag F8 T⟩
    take := ⟨_, _, mT, k9, b9, ok_take F9⟩
    marks := ⟨_, _, PySem.W.mg_of X G a11, k11, b11, ok_marks F11 F9 b9 mT⟩
    are := ⟨_, _, PySem.W.mg_of X G a12, k12, b12, ok_are F12 T F10 b10 mW⟩
    asked := ⟨_, _, PySem.W.mg_of X G a13, k13, b13, ok_asked F13 T⟩
    truth := ⟨_, _, PySem.W.mg_of X G a14, k14, b14, ok_truth F14 T⟩
    level := ⟨_, _, PySem.W.mg_of X G a15, k15, b15, ok_level F15 T F9 b9 mT⟩
    named := ⟨_, _, PySem.W.mg_of X G a16, k16, b16, ok_named F16 T⟩
    init := ⟨_, _, ⟨mk, a1, i1, kc⟩, b1, ok_init F1 T⟩
    ask := ⟨_, _, ⟨a2, i2, k2⟩, b2, ok_ask F2 T F3 b3 ⟨a3, i3, k3⟩ F4 b4 ⟨a4, i4, k4⟩⟩
    reset := ⟨_, _, ⟨a5, i5, k5⟩, b5, ok_reset F5 T⟩
    sbase := ⟨_, _, ⟨a6, i6, k6⟩, b6, ok_base F6 T⟩
    warned := ⟨_, _, ⟨a7, i7, k7⟩, b7, ok_warned F7 T⟩ }
theorem walk {l : PySem.W.OpenLaw} {q : Program} {loose : List Str} {XP : (Str → Option Value) → Heap → Prop} {YP : World → Heap → Prop} {d : DefRec} {K : Params → PySem.W.Frag} (hn : l.most = some 63) (hdf : d.params.defaults = [])
    (hY : ∀ (w : World) (h : Heap), YP w h → (K w.params).In h)
    (F : ∀ (w : World) (mg : Str → Option Value) (fa : Addr) (h : Heap), (K w.params).In h → h.Ns mainGlobals mg → mg d.name = some (.ref fa) →
      ∃ fd : FuncData, (∀ (s : Shared) (u : Value), BindsTo s fd ⟨[u], []⟩ [("_law_script", u)]) ∧ ∀ base : Heap, (K w.params).In base → base.Ns mainGlobals mg → FnOk l.prog w (K w.params) mg base CX0 3 fa fd ["_law_script"] (spLaw (K w.params))) :
    PySem.W.WalkO q loose XP YP l.row.toRowW d [] (fun f vs => PySem.call f vs) :=
  L2.walk_of (n := 63) (k := 3) (x := "_law_script") (CX := fun _ => CX0) (sp := fun w => spLaw (K w.params)) hn (by decide) hdf ⟨rfl, by decide, by decide⟩ hY F (fun _ _ a ns _ _ hS => ⟨a, ns, rfl, hS, fun _ => rfl⟩) fun _ _ _ _ _ z => z
end K21
open PySem PySem.W PyProof.Rows
set_option maxRecDepth 100000 in
set_option maxHeartbeats 0 in
theorem PySem.Challenge.cw_warnloop_k21_whole_warnings_name_askings_holds : PySem.Challenge.rw_warnloop_k21_whole_warnings_name_askings.Holds := by
  w_on; o_law; k_head; (case hw => w_witness2)
  k_fill
  refine K21.walk (l := PySem.Challenge.rw_warnloop_k21_whole_warnings_name_askings) rfl rfl (fun w h Y => PySem.W.kIn_of Y) ?F
  case F =>
    intro w mg fa h KX G hmg
    refine' K21.all_mk KX G hmg ?aC ?a1 ?i1 ?l1 ?c1 ?k1 ?a2 ?i2 ?l2 ?c2 ?k2 ?a3 ?i3 ?l3 ?c3 ?k3 ?a4 ?i4 ?l4 ?c4 ?k4 ?a5 ?i5 ?l5 ?c5 ?k5 ?a6 ?i6 ?l6 ?c6 ?k6 ?a7 ?i7 ?l7 ?c7 ?k7 ?a8 ?l8 ?c8 ?k8 ?a9 ?l9 ?c9 ?k9 ?a10 ?l10 ?c10 ?k10 ?a11 ?l11 ?c11 ?k11 ?a12 ?l12 ?c12 ?k12 ?a13 ?l13 ?c13 ?k13 ?a14 ?l14 ?c14 ?k14 ?a15 ?l15 ?c15 ?k15 ?a16 ?l16 ?c16 ?k16 ?a17 ?l17 ?c17 ?k17 ?pg ?hd ?po ?sa ?mk ?kc ?n0 ?n1 ?n2 ?n3 ?n4 ?n5 ?n6 ?n7 ?n8 ?gA ?gC ?gD ?z0 ?z1 ?z2 ?z3 ?z4 ?z5 ?z6 ?z7 ?z8 ?z9
    (case aC => k_is)
    (case a1 => k_is)
    (case i1 => k_is)
    (case l1 => k_is)
    (case c1 => k_is)
    (case k1 => k_is)
    (case a2 => k_is)
    (case i2 => k_is)
    (case l2 => k_is)
    (case c2 => k_is)
    (case k2 => k_is)
    (case a3 => k_is)
    (case i3 => k_is)
    (case l3 => k_is)
    (case c3 => k_is)
    (case k3 => k_is)
    (case a4 => k_is)
    (case i4 => k_is)
    (case l4 => k_is)
    (case c4 => k_is)
    (case k4 => k_is)
    (case a5 => k_is)
    (case i5 => k_is)
    (case l5 => k_is)
    (case c5 => k_is)
    (case k5 => k_is)
    (case a6 => k_is)
    (case i6 => k_is)
    (case l6 => k_is)
    (case c6 => k_is)
    (case k6 => k_is)
    (case a7 => k_is)
    (case i7 => k_is)
    (case l7 => k_is)
    (case c7 => k_is)
    (case k7 => k_is)
    (case a8 => k_is)
    (case l8 => k_is)
    (case c8 => k_is)
    (case k8 => k_is)
    (case a9 => k_is)
    (case l9 => k_is)
    (case c9 => k_is)
    (case k9 => k_is)
    (case a10 => k_is)
    (case l10 => k_is)
    (case c10 => k_is)
    (case k10 => k_is)
    (case a11 => k_is)
    (case l11 => k_is)
    (case c11 => k_is)
    (case k11 => k_is)
    (case a12 => k_is)
    (case l12 => k_is)
    (case c12 => k_is)
    (case k12 => k_is)
    (case a13 => k_is)
    (case l13 => k_is)
    (case c13 => k_is)
    (case k13 => k_is)
    (case a14 => k_is)
    (case l14 => k_is)
    (case c14 => k_is)
    (case k14 => k_is)
    (case a15 => k_is)
    (case l15 => k_is)
    (case c15 => k_is)
    (case k15 => k_is)
    (case a16 => k_is)
    (case l16 => k_is)
    (case c16 => k_is)
    (case k16 => k_is)
    (case a17 => k_is)
    (case l17 => k_is)
    (case c17 => k_is)
    (case k17 => k_is)
    (case pg => k_is)
    (case hd => k_is)
    (case po => k_is)
    (case sa => k_is)
    (case mk => k_is)
    (case kc => k_is)
    (case n0 => k_is)
    (case n1 => k_is)
    (case n2 => k_is)
    (case n3 => k_is)
    (case n4 => k_is)
    (case n5 => k_is)
    (case n6 => k_is)
    (case n7 => k_is)
    (case n8 => k_is)
    (case gA => k_is)
    (case gC => k_is)
    (case gD => k_is)
    (case z0 => k_is)
    (case z1 => k_is)
    (case z2 => k_is)
    (case z3 => k_is)
    (case z4 => k_is)
    (case z5 => k_is)
    (case z6 => k_is)
    (case z7 => k_is)
    (case z8 => k_is)
    (case z9 => k_is)
#print axioms PySem.Challenge.cw_warnloop_k21_whole_warnings_name_askings_holds
