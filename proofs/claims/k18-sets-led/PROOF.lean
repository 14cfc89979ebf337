import PyProof.Rows.All
import HandS.ForMost
import HandS.ForExc
import HandS.Wide
import HandS.TupAny
import HandS.TupMul
import HandS.TupLe
import HandS.Flow
import HandS.SortInts
import KE.DatumOrd
import HandS.IsInst
import HandS.Style
import HandS.Rev
import HandS.Zip
import HandS.CallLocal
import KE.GoesEnum
import KE.GoesRaise
import HandS.TryMany
import HandS.ExcIs
import HandS.Conv
import HandS.Ends
import HandS.SetFor
import HandS.Strs
import PyProof.TupleOfSeq
import KE.RegKIsAll
import KE.RegKTryMore
import PySem.Challenge.RW_neverfraction_k18_main_sets_led_into_set
set_option Elab.async false
set_option linter.all false
set_option maxRecDepth 100000
set_option exponentiation.threshold 10000
set_option maxHeartbeats 4000000
namespace DL
open PySem PySem.Spec PyProof.Rows L2

/-! ### data -/
/-- an exception: its class's name, the line it bears -/
structure Ex where
  cls : String
  arg : Option Int
  deriving DecidableEq
/-- a value, whole -/
inductive D where
  | non | bl (b : Bool) | int (i : Int) | str (x : Str) | tup (xs : List D) | lst (xs : List D) | fn (x : String) | box (k : Nat) | scr (ns : List Int) | dic (kvs : List (D × D))
/-- the boxes of draws -/
abbrev W := List (Int × Int × Int)
inductive Res (α : Type) where
  | ok (a : α) (w : W) | ex (e : Ex) (w : W) | st
abbrev M (α : Type) := W → Res α
def Res.bind {α β : Type} (r : Res α) (f : α → W → Res β) : Res β := match r with
  | .ok a w => f a w
  | .ex e w => .ex e w
  | .st => .st
inductive Slot where
  | un | fz (d : D) | ow (d : D)
abbrev Env := List Slot
abbrev EM (α : Type) := Env → M α
inductive Out where
  | nx (e : Env) (w : W) | rt (d : D) (w : W) | bk (e : Env) (w : W) | ct (e : Env) (w : W) | ex (e : Ex) (w : W) | st
abbrev SM := Env → W → Out

/-! ### representation -/
abbrev Mg := Str → Option Value
/-- the boxes' addresses; what a caller owns -/
structure Tt where
  l : List Addr
  f : List Addr
instance : Membership Addr Tt := ⟨fun T a => a ∈ T.l ∨ a ∈ T.f⟩
instance : HAppend Tt (List Addr) Tt := ⟨fun T N => ⟨T.l ++ N, T.f⟩⟩
theorem tt_mem {T : Tt} {a : Addr} : a ∈ T ↔ a ∈ T.l ∨ a ∈ T.f := Iff.rfl
def Tp (K : PySem.W.Frag) (B : Addr → Prop) (H : Hp) (a : Addr) (vs : List V) : Prop :=
  (¬ B a ∧ vs.length ≤ sizeLine ∧ H a = some (.tup vs)) ∨ (vs.length ≤ sizeLine ∧ SqT K (fun _ => none) a vs)
def Ls (B : Addr → Prop) (H : Hp) (a : Addr) (vs : List V) : Prop := ¬ B a ∧ vs.length ≤ sizeLine ∧ H a = some (.lst vs)
/-- the script as it came -/
def Sc (K : PySem.W.Frag) (B : Addr → Prop) (H : Hp) (a : Addr) (vs : List V) : Prop := (¬ B a ∧ ∃ o, H a = some (.frz o (.lst vs))) ∨ SqL K (fun _ => none) a vs
/-- what is not bad stays -/
def Keep (B : Addr → Prop) (H H' : Hp) : Prop := ∀ a o, ¬ B a → H a = some o → H' a = some o
section
variable {K : PySem.W.Frag} {B B' : Addr → Prop} {H H' : Hp} {a : Addr} {vs : List V}
theorem sqT_any (h : SqT K (fun _ => none) a vs) : SqT K H a vs := by
  rcases h with (h | ⟨o, h⟩) | h
  · cases h
  · cases h
  · exact .inr h
theorem Tp.sq (h : Tp K B H a vs) : SqT K H a vs := by
  rcases h with ⟨_, _, h⟩ | ⟨_, h⟩
  · exact .inl (.inl h)
  · exact sqT_any h
theorem Ls.sq (h : Ls B H a vs) : SqL K H a vs := .inl (.inl h.2.2)
theorem Tp.size (h : Tp K B H a vs) : vs.length ≤ sizeLine := by
  rcases h with ⟨_, h, _⟩ | ⟨h, _⟩ <;> exact h
theorem Ls.size (h : Ls B H a vs) : vs.length ≤ sizeLine := h.2.1
theorem Tp.keep (h : Tp K B H a vs) (k : Keep B H H') (hb : ∀ b, H b ≠ none → B' b → B b) : Tp K B' H' a vs := by
  rcases h with ⟨n, z, h⟩ | h
  · exact .inl ⟨fun q => n (hb _ (by rw [h]; intro z; cases z) q), z, k _ _ n h⟩
  · exact .inr h
theorem Sc.keep (h : Sc K B H a vs) (k : Keep B H H') (hb : ∀ b, H b ≠ none → B' b → B b) : Sc K B' H' a vs := by
  rcases h with ⟨n, o, h⟩ | h
  · exact .inl ⟨fun q => n (hb _ (by rw [h]; intro z; cases z) q), o, k _ _ n h⟩
  · exact .inr h
theorem Sc.sq (h : Sc K B H a vs) : SqL K H a vs := by
  rcases h with ⟨n, o, h⟩ | h
  · exact .inl (.inr ⟨o, h⟩)
  · rcases h with (h | ⟨o, h⟩) | h
    · cases h
    · cases h
    · exact .inr h
theorem Ls.keep (h : Ls B H a vs) (k : Keep B H H') (hb : ∀ b, H b ≠ none → B' b → B b) : Ls B' H' a vs :=
  ⟨fun q => h.1 (hb _ (by rw [h.2.2]; intro z; cases z) q), h.2.1, k _ _ h.1 h.2.2⟩
end

mutual
/-- the value v stands for the datum d; no object of it is bad -/
inductive Rep (K : PySem.W.Frag) (mg : Mg) (T : Tt) (B : Addr → Prop) (H : Hp) : D → V → Prop
  | non : Rep K mg T B H .non .non
  | bl (b : Bool) : Rep K mg T B H (.bl b) (.bl b)
  | int (i : Int) : Rep K mg T B H (.int i) (.int i)
  | str (x : Str) : Rep K mg T B H (.str x) (.str x)
  | tup {a : Addr} {vs : List V} {ds : List D} : Tp K B H a vs → Reps K mg T B H ds vs → Rep K mg T B H (.tup ds) (.ref a)
  | lst {a : Addr} {vs : List V} {ds : List D} : Ls B H a vs → Reps K mg T B H ds vs → Rep K mg T B H (.lst ds) (.ref a)
  | fn {x : String} {f : Addr} : mg (Str.ofString x) = some (.ref f) → Rep K mg T B H (.fn x) (.ref f)
  | box {k : Nat} {a : Addr} : T.l[k]? = some a → Rep K mg T B H (.box k) (.ref a)
  | scr {ns : List Int} {a : Addr} : Sc K B H a (ns.map V.int) → Rep K mg T B H (.scr ns) (.ref a)
inductive Reps (K : PySem.W.Frag) (mg : Mg) (T : Tt) (B : Addr → Prop) (H : Hp) : List D → List V → Prop
  | nil : Reps K mg T B H [] []
  | cons {d : D} {ds : List D} {v : V} {vs : List V} : Rep K mg T B H d v → Reps K mg T B H ds vs → Reps K mg T B H (d :: ds) (v :: vs)
end
section
variable {K : PySem.W.Frag} {mg : Mg} {T T' : Tt} {B B' : Addr → Prop} {H H' : Hp}
mutual
theorem Rep.keep (k : Keep B H H') (hb : ∀ b, H b ≠ none → B' b → B b) (ht : ∀ (i : Nat) (a : Addr), T.l[i]? = some a → T'.l[i]? = some a) : ∀ (d : D) (v : V), Rep K mg T B H d v → Rep K mg T' B' H' d v
  | .non, _, h => by cases h; exact .non
  | .bl b, _, h => by cases h; exact .bl b
  | .int i, _, h => by cases h; exact .int i
  | .str x, _, h => by cases h; exact .str x
  | .tup ds, _, h => by
    cases h with
    | tup h1 h2 => exact .tup (h1.keep k hb) (Reps.keep k hb ht ds _ h2)
  | .lst ds, _, h => by
    cases h with
    | lst h1 h2 => exact .lst (h1.keep k hb) (Reps.keep k hb ht ds _ h2)
  | .fn x, _, h => by cases h with | fn h => exact .fn h
  | .box n, _, h => by cases h with | box h => exact .box (ht _ _ h)
  | .scr ns, _, h => by cases h with | scr h1 => exact .scr (h1.keep k hb)
  | .dic _, _, h => by cases h
theorem Reps.keep (k : Keep B H H') (hb : ∀ b, H b ≠ none → B' b → B b) (ht : ∀ (i : Nat) (a : Addr), T.l[i]? = some a → T'.l[i]? = some a) : ∀ (ds : List D) (vs : List V), Reps K mg T B H ds vs → Reps K mg T' B' H' ds vs
  | [], _, h => by cases h; exact .nil
  | d :: ds, _, h => by
    cases h with
    | cons h1 h2 => exact .cons (Rep.keep k hb ht d _ h1) (Reps.keep k hb ht ds _ h2)
end
theorem Rep.le (h : Rep K mg T B H d v) (hb : ∀ b, B' b → B b) : Rep K mg T B' H d v := Rep.keep (fun _ _ _ e => e) (fun b _ => hb b) (fun _ _ e => e) d v h
theorem Reps.le {ds : List D} {vs : List V} (h : Reps K mg T B H ds vs) (hb : ∀ b, B' b → B b) : Reps K mg T B' H ds vs := Reps.keep (fun _ _ _ e => e) (fun b _ => hb b) (fun _ _ e => e) ds vs h
theorem Reps.len {ds : List D} {vs : List V} (h : Reps K mg T B H ds vs) : ds.length = vs.length := by
  induction ds generalizing vs with
  | nil => cases h; rfl
  | cons d ds ih => cases h with | cons h1 h2 => simp [ih h2]
theorem Reps.get {ds : List D} {vs : List V} (h : Reps K mg T B H ds vs) {i : Nat} {d : D} (e : ds[i]? = some d) : ∃ v, vs[i]? = some v ∧ Rep K mg T B H d v := by
  induction ds generalizing vs i with
  | nil => simp at e
  | cons d0 ds ih =>
    cases h with
    | cons h1 h2 =>
      cases i with
      | zero => simp at e; subst e; exact ⟨_, by simp, h1⟩
      | succ i => simpa using ih h2 (by simpa using e)
theorem Reps.getV {ds : List D} {vs : List V} (h : Reps K mg T B H ds vs) {i : Nat} {v : V} (e : vs[i]? = some v) : ∃ d, ds[i]? = some d ∧ Rep K mg T B H d v := by
  induction ds generalizing vs i with
  | nil => cases h; simp at e
  | cons d0 ds ih =>
    cases h with
    | cons h1 h2 =>
      cases i with
      | zero => simp at e; subst e; exact ⟨_, by simp, h1⟩
      | succ i => simpa using ih h2 (by simpa using e)
theorem Reps.app {ds es : List D} {vs us : List V} (h : Reps K mg T B H ds vs) (h' : Reps K mg T B H es us) : Reps K mg T B H (ds ++ es) (vs ++ us) := by
  induction ds generalizing vs with
  | nil => cases h; exact h'
  | cons d ds ih => cases h with | cons h1 h2 => exact .cons h1 (ih h2)
theorem Reps.take {ds : List D} {vs : List V} (h : Reps K mg T B H ds vs) (n : Nat) : Reps K mg T B H (ds.take n) (vs.take n) := by
  induction ds generalizing vs n with
  | nil => cases h; simp; exact .nil
  | cons d ds ih =>
    cases h with
    | cons h1 h2 =>
      cases n with
      | zero => exact .nil
      | succ n => exact .cons h1 (ih h2 n)
theorem Reps.drop {ds : List D} {vs : List V} (h : Reps K mg T B H ds vs) (n : Nat) : Reps K mg T B H (ds.drop n) (vs.drop n) := by
  induction ds generalizing vs n with
  | nil => cases h; simp; exact .nil
  | cons d ds ih =>
    cases h with
    | cons h1 h2 =>
      cases n with
      | zero => exact .cons h1 h2
      | succ n => exact ih h2 n
theorem Reps.set {ds : List D} {vs : List V} {d : D} {v : V} (h : Reps K mg T B H ds vs) (h' : Rep K mg T B H d v) (i : Nat) : Reps K mg T B H (ds.set i d) (vs.set i v) := by
  induction ds generalizing vs i with
  | nil => cases h; exact .nil
  | cons d ds ih =>
    cases h with
    | cons h1 h2 =>
      cases i with
      | zero => exact .cons h' h2
      | succ i => exact .cons h1 (ih h2 i)
theorem Reps.rev {ds : List D} {vs : List V} (h : Reps K mg T B H ds vs) : Reps K mg T B H ds.reverse vs.reverse := by
  induction ds generalizing vs with
  | nil => cases h; exact .nil
  | cons d ds ih =>
    cases h with
    | cons h1 h2 =>
      rw [List.reverse_cons, List.reverse_cons]
      exact (ih h2).app (.cons h1 .nil)
theorem Reps.dropLast {ds : List D} {vs : List V} (h : Reps K mg T B H ds vs) : Reps K mg T B H ds.dropLast vs.dropLast := by
  rw [List.dropLast_eq_take, List.dropLast_eq_take, h.len]
  exact h.take _
theorem Reps.erase {ds : List D} {vs : List V} (h : Reps K mg T B H ds vs) (i : Nat) : Reps K mg T B H (ds.eraseIdx i) (vs.eraseIdx i) := by
  induction ds generalizing vs i with
  | nil => cases h; exact .nil
  | cons d ds ih =>
    cases h with
    | cons h1 h2 =>
      cases i with
      | zero => exact h2
      | succ i => exact .cons h1 (ih h2 i)
theorem Reps.rep {ds : List D} {vs : List V} (h : Reps K mg T B H ds vs) (k : Nat) : Reps K mg T B H (List.replicate k ds).flatten (List.replicate k vs).flatten := by
  induction k with
  | zero => exact .nil
  | succ k ih => rw [List.replicate_succ, List.replicate_succ, List.flatten_cons, List.flatten_cons]; exact h.app ih
end

/-! ### the boxes; what grows -/
def Tins (H : Hp) (T : Tt) (w : W) : Prop := T.l.length = w.length ∧ T.l.Nodup ∧ (∀ (k : Nat) (a : Addr) (t : Int × Int × Int), T.l[k]? = some a → w[k]? = some t → H a = some (.lst [.int t.1, .int t.2.1, .int t.2.2])) ∧ ∀ b ∈ T.f, H b ≠ none
structure Ext (T : Tt) (H : Hp) (T' : Tt) (H' : Hp) : Prop where
  pre : ∃ N : List Addr, T' = T ++ N ∧ ∀ a ∈ N, H a = none
  kp : ∀ a o, a ∉ T.l → H a = some o → H' a = some o
  there : ∀ a, H a ≠ none → H' a ≠ none
theorem Ext.keep {T H T' H'} (x : Ext T H T' H') (a : Addr) (o : HO) (n : a ∉ T) (h : H a = some o) : H' a = some o := x.kp a o (fun m => n (.inl m)) h
def Bad (T : Tt) (A : Nat → Option Addr) (al : List Nat) (a : Addr) : Prop := a ∈ T ∨ ∃ i, i ∉ al ∧ A i = some a
theorem Tins.at {H : Hp} {T : Tt} {w : W} (h : Tins H T w) {a : Addr} (ha : a ∈ T.l) : ∃ xs, H a = some (.lst xs) := by
  obtain ⟨k, hk, e⟩ := List.getElem_of_mem ha
  have h2 : k < w.length := by rw [← h.1]; exact hk
  exact ⟨_, h.2.2.1 k a w[k] (by rw [List.getElem?_eq_getElem hk, e]) (List.getElem?_eq_getElem h2)⟩
theorem app_l (T : Tt) (N : List Addr) : (T ++ N).l = T.l ++ N := rfl
theorem app_f (T : Tt) (N : List Addr) : (T ++ N).f = T.f := rfl
theorem app_mem {T : Tt} {N : List Addr} {a : Addr} : a ∈ T ++ N ↔ a ∈ T ∨ a ∈ N := by
  show (a ∈ T.l ++ N ∨ a ∈ T.f) ↔ (a ∈ T.l ∨ a ∈ T.f) ∨ a ∈ N
  rw [List.mem_append]
  exact ⟨fun h => by rcases h with (h | h) | h <;> simp [h], fun h => by rcases h with (h | h) | h <;> simp [h]⟩
theorem app_nil (T : Tt) : T ++ ([] : List Addr) = T := by
  show Tt.mk (T.l ++ []) T.f = T
  rw [List.append_nil]
theorem app_app (T : Tt) (N N' : List Addr) : T ++ N ++ N' = T ++ (N ++ N') := by
  show Tt.mk (T.l ++ N ++ N') T.f = Tt.mk (T.l ++ (N ++ N')) T.f
  rw [List.append_assoc]
section
variable {K : PySem.W.Frag} {mg : Mg} {T T' T'' : Tt} {A A' : Nat → Option Addr} {al al' : List Nat} {H H' H'' : Hp} {w : W} {p : Addr} {o : HO}
theorem Ext.refl : Ext T H T H := ⟨⟨[], by simp [app_nil]⟩, fun _ _ _ h => h, fun _ h => h⟩
theorem Ext.sub (x : Ext T H T' H') {a : Addr} (h : a ∈ T) : a ∈ T' := by
  obtain ⟨N, e, _⟩ := x.pre
  rw [e]; exact app_mem.mpr (.inl h)
theorem Ext.back (x : Ext T H T' H') {a : Addr} (h : a ∈ T') (n : H a ≠ none) : a ∈ T := by
  obtain ⟨N, e, hN⟩ := x.pre
  rw [e] at h
  rcases app_mem.mp h with h | h
  · exact h
  · exact absurd (hN a h) n
theorem Ext.at (x : Ext T H T' H') (i : Nat) (a : Addr) (h : T.l[i]? = some a) : T'.l[i]? = some a := by
  obtain ⟨N, e, _⟩ := x.pre
  rw [e, app_l, List.getElem?_append_left (List.getElem?_eq_some_iff.mp h).1]; exact h
theorem Ext.trans (x : Ext T H T' H') (y : Ext T' H' T'' H'') : Ext T H T'' H'' := by
  obtain ⟨N, e, hN⟩ := x.pre
  obtain ⟨N', e', hN'⟩ := y.pre
  refine ⟨⟨N ++ N', by rw [e', e, app_app], fun a ha => ?_⟩, fun a o n h => ?_, fun a h => y.there a (x.there a h)⟩
  · rcases List.mem_append.mp ha with h | h
    · exact hN a h
    · cases q : H a with
      | none => rfl
      | some o => exact absurd (hN' a h) (x.there a (by rw [q]; intro z; cases z))
  · have h1 := x.kp a o n h
    refine y.kp a o (fun m => ?_) h1
    rw [e, app_l] at m
    rcases List.mem_append.mp m with m | m
    · exact n m
    · rw [hN a m] at h; cases h
theorem Ext.new (h : H p = none) : Ext T H T (upd H p o) :=
  ⟨⟨[], by simp [app_nil]⟩, fun a u _ e => by rw [upd_ne (ne_of_none e h)]; exact e, fun a n => by
    by_cases e : a = p
    · rw [e, upd_same]; intro z; cases z
    · rw [upd_ne e]; exact n⟩
theorem Tins.new (t : Tins H T w) (h : H p = none) : Tins (upd H p o) T w := ⟨t.1, t.2.1, fun k a x h1 h2 => by
  have e := t.2.2.1 k a x h1 h2
  rw [upd_ne (ne_of_none e h)]; exact e, fun b hb => (Ext.new (T := T) (o := o) h).there b (t.2.2.2 b hb)⟩
theorem Bad.le (h : ∀ i, i ∈ al → i ∈ al') {a : Addr} (b : Bad T A al' a) : Bad T A al a := by
  rcases b with b | ⟨i, n, e⟩
  · exact .inl b
  · exact .inr ⟨i, fun z => n (h i z), e⟩
/-- a good frame: what it owns is there -/
structure Fr (T : Tt) (A : Nat → Option Addr) (H : Hp) (w : W) : Prop where
  tins : Tins H T w
  own : ∀ i a, A i = some a → H a ≠ none
theorem Fr.nb (f : Fr T A H w) (h : H p = none) : ¬ Bad T A al p := by
  rintro ((b | b) | ⟨i, _, e⟩)
  · obtain ⟨xs, e⟩ := f.tins.at b
    rw [h] at e; cases e
  · exact f.tins.2.2.2 p b h
  · exact f.own i p e h
theorem Fr.ext {w' : W} (f : Fr T A H w) (x : Ext T H T' H') (t : Tins H' T' w') : Fr T' A H' w' := ⟨t, fun i a e => x.there a (f.own i a e)⟩
theorem rep_ext {d : D} {v : V} (h : Rep K mg T (Bad T A al) H d v) (x : Ext T H T' H') : Rep K mg T' (Bad T' A al) H' d v :=
  Rep.keep (fun a o n e => x.keep a o (fun m => n (.inl m)) e) (fun b n hb => by
    rcases hb with hb | hb
    · exact .inl (x.back hb n)
    · exact .inr hb) x.at d v h
theorem reps_ext {d : List D} {v : List V} (h : Reps K mg T (Bad T A al) H d v) (x : Ext T H T' H') : Reps K mg T' (Bad T' A al) H' d v :=
  Reps.keep (fun a o n e => x.keep a o (fun m => n (.inl m)) e) (fun b n hb => by
    rcases hb with hb | hb
    · exact .inl (x.back hb n)
    · exact .inr hb) x.at d v h

/-- a list, a dict that a slot owns -/
inductive Own (K : PySem.W.Frag) (mg : Mg) (T : Tt) (B : Addr → Prop) (H : Hp) (a : Addr) : D → Prop
  | lst {ds : List D} {vs : List V} : H a = some (.lst vs) → vs.length ≤ sizeLine → Reps K mg T B H ds vs → Own K mg T B H a (.lst ds)
  | dic {kvs : List (Int × D)} {kws : List (Key × V)} : H a = some (.dK kws) → kws.map (·.1) = kvs.map (fun p => Sum.inl p.1) → Reps K mg T B H (kvs.map (·.2)) (kws.map (·.2)) → Own K mg T B H a (.dic (kvs.map fun p => (D.int p.1, p.2)))
def SlotOk (K : PySem.W.Frag) (mg : Mg) (T : Tt) (A : Nat → Option Addr) (H : Hp) (i : Nat) (x : Option (Option V)) : Slot → Prop
  | .un => True
  | .fz d => ∃ v, x = some (some v) ∧ Rep K mg T (Bad T A []) H d v
  | .ow d => ∃ a, A i = some a ∧ x = some (some (.ref a)) ∧ Own K mg T (Bad T A []) H a d
structure RelS (K : PySem.W.Frag) (mg : Mg) (T : Tt) (A : Nat → Option Addr) (σ : L2.St) (H : Hp) (env : Env) : Prop where
  len : σ.length = env.length
  slot : ∀ i s, env[i]? = some s → SlotOk K mg T A H i σ[i]? s
  inj : ∀ i j a, A i = some a → A j = some a → i = j
  nT : ∀ i a, A i = some a → a ∉ T
  own : ∀ i a, A i = some a → i < env.length → ∃ d, env[i]? = some (.ow d)
  ownT : ∀ i a, A i = some a → H a ≠ none
  bnd : ∃ n, ∀ i, n ≤ i → A i = none
variable {σ : L2.St} {env : Env}
theorem Own.there {B : Addr → Prop} {a : Addr} {d : D} (h : Own K mg T B H a d) : H a ≠ none := by
  cases h with
  | lst h => rw [h]; intro z; cases z
  | dic h => rw [h]; intro z; cases z
theorem RelS.fr (r : RelS K mg T A σ H env) (t : Tins H T w) : Fr T A H w := ⟨t, r.ownT⟩
theorem own_ext {a : Addr} {d : D} (n : a ∉ T) (h : Own K mg T (Bad T A al) H a d) (x : Ext T H T' H') : Own K mg T' (Bad T' A al) H' a d := by
  cases h with
  | lst h1 h2 h3 => exact .lst (x.keep _ _ n h1) h2 (reps_ext h3 x)
  | dic h1 h2 h3 => exact .dic (x.keep _ _ n h1) h2 (reps_ext h3 x)
theorem RelS.ext (r : RelS K mg T A σ H env) (x : Ext T H T' H') : RelS K mg T' A σ H' env where
  len := r.len
  slot := fun i s e => by
    have z := r.slot i s e
    cases s with
    | un => trivial
    | fz d => obtain ⟨v, e1, e2⟩ := z; exact ⟨v, e1, rep_ext e2 x⟩
    | ow d => obtain ⟨a, e1, e2, e3⟩ := z; exact ⟨a, e1, e2, own_ext (r.nT i a e1) e3 x⟩
  inj := r.inj
  nT := fun i a e m => r.nT i a e (x.back m (r.ownT i a e))
  own := r.own
  ownT := fun i a e => x.there a (r.ownT i a e)
  bnd := r.bnd
end

/-! ### expressions -/
/-- an exception as it flies -/
def XR (mg : Mg) (e : Ex) (cls : Value) (oa : Option Addr) (H : Hp) : Prop :=
  ∃ C, mg (Str.ofString e.cls) = some (.ref C) ∧ cls = .ref C ∧ match e.arg with
    | none => oa = none
    | some n => ∃ d, oa = some d ∧ H d = some (.xd [("line", .int n)])
/-- the root may be a list that a slot of ar owns; within may stand lists that slots of ac own -/
def Rep2 (K : PySem.W.Frag) (mg : Mg) (T : Tt) (A : Nat → Option Addr) (ar ac : List Nat) (H : Hp) (d : D) (v : V) : Prop := match d with
  | .lst ds => ∃ a vs, v = .ref a ∧ Ls (Bad T A ar) H a vs ∧ Reps K mg T (Bad T A ac) H ds vs
  | d => Rep K mg T (Bad T A ac) H d v
def Post (K : PySem.W.Frag) (mg : Mg) (E : XK) (T : Tt) (A : Nat → Option Addr) (ar ac : List Nat) (H : Hp) (Q : VK) : Res D → Prop
  | .ok d w => ∀ v H' T', Ext T H T' H' → Tins H' T' w → Rep2 K mg T' A ar ac H' d v → Q v H'
  | .ex e w => ∀ cls oa H' T', Ext T H T' H' → Tins H' T' w → XR mg e cls oa H' → E cls oa H'
  | .st => False
def liftE (K : PySem.W.Frag) (mg : Mg) (E : XK) (ar ac : List Nat) (ε : EM D) : TE := fun σ H Q => ∃ env w T A, RelS K mg T A σ H env ∧ Tins H T w ∧ Post K mg E T A ar ac H Q (ε env w)
/-- the expression e is worth ε; ar, ac: the slots whose own lists what comes may be, may bear -/
def GE (X : Cx) (E : XK) (ar ac : List Nat) (e : Expr) (ε : EM D) : Prop := PE X e (liftE X.K X.mg E ar ac ε)
/-- a list of its own -/
def PostF (K : PySem.W.Frag) (mg : Mg) (E : XK) (T : Tt) (A : Nat → Option Addr) (ac : List Nat) (H : Hp) (Q : VK) : Res (List D) → Prop
  | .ok ds w => ∀ a vs H' T', Ext T H T' H' → Tins H' T' w → H a = none → H' a = some (.lst vs) → a ∉ T' → vs.length ≤ sizeLine → Reps K mg T' (fun x => Bad T' A ac x ∨ x = a) H' ds vs → Q (.ref a) H'
  | .ex e w => ∀ cls oa H' T', Ext T H T' H' → Tins H' T' w → XR mg e cls oa H' → E cls oa H'
  | .st => False
def liftF (K : PySem.W.Frag) (mg : Mg) (E : XK) (ac : List Nat) (ε : EM (List D)) : TE := fun σ H Q => ∃ env w T A, RelS K mg T A σ H env ∧ Tins H T w ∧ PostF K mg E T A ac H Q (ε env w)
def GF (X : Cx) (E : XK) (ac : List Nat) (e : Expr) (ε : EM (List D)) : Prop := PE X e (liftF X.K X.mg E ac ε)
theorem pe_mono {X : Cx} {e : Expr} {t u : TE} (h : PE X e t) (m : ∀ σ H Q, u σ H Q → t σ H Q) : PE X e u := ⟨fun pins s σ H Q I q => h.run pins s σ H Q I (m _ _ _ q)⟩
section
variable {K : PySem.W.Frag} {mg : Mg} {E : XK} {T T' : Tt} {A : Nat → Option Addr} {ar ac ar' ac' al al' : List Nat} {H H' : Hp} {Q : VK} {w : W} {σ : L2.St} {env : Env}
theorem rep_al {d : D} {v : V} (h : Rep K mg T (Bad T A al) H d v) (s : al ⊆ al') : Rep K mg T (Bad T A al') H d v := h.le fun _ b => Bad.le (fun _ m => s m) b
theorem reps_al {d : List D} {v : List V} (h : Reps K mg T (Bad T A al) H d v) (s : al ⊆ al') : Reps K mg T (Bad T A al') H d v := h.le fun _ b => Bad.le (fun _ m => s m) b
theorem ls_al {a : Addr} {vs : List V} (h : Ls (Bad T A al) H a vs) (s : al ⊆ al') : Ls (Bad T A al') H a vs := ⟨fun b => h.1 (Bad.le (fun _ m => s m) b), h.2.1, h.2.2⟩
theorem Rep2.wk {d : D} {v : V} (h : Rep2 K mg T A ar ac H d v) (s : ar ⊆ ar') (s' : ac ⊆ ac') : Rep2 K mg T A ar' ac' H d v := by
  cases d with
  | lst ds => obtain ⟨a, vs, e, l, r⟩ := h; exact ⟨a, vs, e, ls_al l s, reps_al r s'⟩
  | non => exact rep_al (show Rep K mg T (Bad T A ac) H .non v from h) s'
  | bl b => exact rep_al (show Rep K mg T (Bad T A ac) H (.bl b) v from h) s'
  | int b => exact rep_al (show Rep K mg T (Bad T A ac) H (.int b) v from h) s'
  | str b => exact rep_al (show Rep K mg T (Bad T A ac) H (.str b) v from h) s'
  | tup b => exact rep_al (show Rep K mg T (Bad T A ac) H (.tup b) v from h) s'
  | fn b => exact rep_al (show Rep K mg T (Bad T A ac) H (.fn b) v from h) s'
  | box b => exact rep_al (show Rep K mg T (Bad T A ac) H (.box b) v from h) s'
  | scr b => exact rep_al (show Rep K mg T (Bad T A ac) H (.scr b) v from h) s'
  | dic b => exact rep_al (show Rep K mg T (Bad T A ac) H (.dic b) v from h) s'
theorem Rep2.rep {d : D} {v : V} (h : Rep2 K mg T A ar ac H d v) (s : ar ⊆ al) (s' : ac ⊆ al) : Rep K mg T (Bad T A al) H d v := by
  have h := h.wk s s'
  cases d with
  | lst ds => obtain ⟨a, vs, rfl, l, r⟩ := h; exact .lst l r
  | non => exact h
  | bl b => exact h
  | int b => exact h
  | str b => exact h
  | tup b => exact h
  | fn b => exact h
  | box b => exact h
  | scr b => exact h
  | dic b => exact h
theorem rep2_of {d : D} {v : V} (h : Rep K mg T (Bad T A al) H d v) : Rep2 K mg T A al al H d v := by
  cases d with
  | lst ds => cases h with | lst l r => exact ⟨_, _, rfl, l, r⟩
  | non => exact h
  | bl b => exact h
  | int b => exact h
  | str b => exact h
  | tup b => exact h
  | fn b => exact h
  | box b => exact h
  | scr b => exact h
  | dic b => exact h
theorem rep2_ext {d : D} {v : V} (h : Rep2 K mg T A ar ac H d v) (x : Ext T H T' H') : Rep2 K mg T' A ar ac H' d v := by
  cases d with
  | lst ds =>
    obtain ⟨a, vs, e, l, r⟩ := h
    exact ⟨a, vs, e, l.keep (fun a o n e => x.keep a o (fun m => n (.inl m)) e) (fun b n hb => by
      rcases hb with hb | hb
      · exact .inl (x.back hb n)
      · exact .inr hb), reps_ext r x⟩
  | non => exact rep_ext (d := .non) h x
  | bl b => exact rep_ext (d := .bl b) h x
  | int b => exact rep_ext (d := .int b) h x
  | str b => exact rep_ext (d := .str b) h x
  | tup b => exact rep_ext (d := .tup b) h x
  | fn b => exact rep_ext (d := .fn b) h x
  | box b => exact rep_ext (d := .box b) h x
  | scr b => exact rep_ext (d := .scr b) h x
  | dic b => exact rep_ext (d := .dic b) h x
theorem Post.ext {r : Res D} (h : Post K mg E T A ar ac H Q r) (x : Ext T H T' H') : Post K mg E T' A ar ac H' Q r := by
  cases r with
  | ok d w => exact fun v H2 T2 y t r => h v H2 T2 (x.trans y) t r
  | ex e w => exact fun c o H2 T2 y t r => h c o H2 T2 (x.trans y) t r
  | st => exact h
theorem Post.wk {r : Res D} (h : Post K mg E T A ar' ac' H Q r) (s : ar ⊆ ar') (s' : ac ⊆ ac') : Post K mg E T A ar ac H Q r := by
  cases r with
  | ok d w => exact fun v H' T' x t rp => h v H' T' x t (rp.wk s s')
  | ex e w => exact h
  | st => exact h
/-- what an operand hands on -/
def Nxt (K : PySem.W.Frag) (mg : Mg) (E : XK) (T : Tt) (H : Hp) {α : Type} (r : Res α) (ok : α → W → Tt → Hp → Prop) : Prop := match r with
  | .ok a w => ∀ H' T', Ext T H T' H' → Tins H' T' w → ok a w T' H'
  | .ex e w => ∀ cls oa H' T', Ext T H T' H' → Tins H' T' w → XR mg e cls oa H' → E cls oa H'
  | .st => False
/-- one operand, then the rest; P is what the rest wants, and it stays -/
theorem goP {α : Type} {P : Tt → Hp → Res α → Prop} (pex : ∀ T H e w, P T H (.ex e w) → ∀ cls oa H' T', Ext T H T' H' → Tins H' T' w → XR mg e cls oa H' → E cls oa H') (pst : ∀ T H, ¬ P T H .st) (pext : ∀ T H T' H' r, P T H r → Ext T H T' H' → P T' H' r)
    {ε : EM D} {f : D → W → Res α} {R : VK} (rel : RelS K mg T A σ H env) (t : Tins H T w) (hp : P T H ((ε env w).bind f))
    (k : ∀ d w1 v H1 T1, Ext T H T1 H1 → Tins H1 T1 w1 → RelS K mg T1 A σ H1 env → Rep2 K mg T1 A ar ac H1 d v → P T1 H1 (f d w1) → R v H1) : liftE K mg E ar ac ε σ H R := by
  refine ⟨env, w, T, A, rel, t, ?_⟩
  cases q : ε env w with
  | ok d w1 =>
    rw [q] at hp
    exact fun v H1 T1 x t1 r => k d w1 v H1 T1 x t1 (rel.ext x) r (pext T H T1 H1 (f d w1) hp x)
  | ex e w1 => rw [q] at hp; exact pex _ _ _ _ hp
  | st => rw [q] at hp; exact (pst _ _ hp).elim
theorem go1 {ε : EM D} {f : D → W → Res D} {R : VK} (rel : RelS K mg T A σ H env) (t : Tins H T w) (hp : Post K mg E T A ar' ac' H Q ((ε env w).bind f))
    (k : ∀ d w1 v H1 T1, Ext T H T1 H1 → Tins H1 T1 w1 → RelS K mg T1 A σ H1 env → Rep2 K mg T1 A ar ac H1 d v → Post K mg E T1 A ar' ac' H1 Q (f d w1) → R v H1) : liftE K mg E ar ac ε σ H R :=
  goP (P := fun T H r => Post K mg E T A ar' ac' H Q r) (fun _ _ _ _ h => h) (fun _ _ h => h) (fun _ _ _ _ _ h x => h.ext x) rel t hp k
theorem PostF.ext {r : Res (List D)} (h : PostF K mg E T A ac H Q r) (x : Ext T H T' H') : PostF K mg E T' A ac H' Q r := by
  cases r with
  | ok d w => exact fun a vs H2 T2 y t n e m z r => h a vs H2 T2 (x.trans y) t (by
      cases q : H a with
      | none => rfl
      | some o => exact absurd n (x.there a (by rw [q]; intro z; cases z))) e m z r
  | ex e w => exact fun c o H2 T2 y t r => h c o H2 T2 (x.trans y) t r
  | st => exact h
theorem goF {ε : EM D} {f : D → W → Res (List D)} {R : VK} (rel : RelS K mg T A σ H env) (t : Tins H T w) (hp : PostF K mg E T A ac' H Q ((ε env w).bind f))
    (k : ∀ d w1 v H1 T1, Ext T H T1 H1 → Tins H1 T1 w1 → RelS K mg T1 A σ H1 env → Rep2 K mg T1 A ar ac H1 d v → PostF K mg E T1 A ac' H1 Q (f d w1) → R v H1) : liftE K mg E ar ac ε σ H R :=
  goP (P := fun T H r => PostF K mg E T A ac' H Q r) (fun _ _ _ _ h => h) (fun _ _ h => h) (fun _ _ _ _ _ h x => h.ext x) rel t hp k
/-- what is no new object -/
theorem Post.same {d : D} {v : V} (h : Post K mg E T A ar ac H Q (.ok d w)) (t : Tins H T w) (r : Rep2 K mg T A ar ac H d v) : Q v H := h v H T .refl t r
theorem Post.int {i : Int} (h : Post K mg E T A ar ac H Q (.ok (.int i) w)) (t : Tins H T w) : Q (.int i) H := h.same t (.int i)
theorem Post.bl {i : Bool} (h : Post K mg E T A ar ac H Q (.ok (.bl i) w)) (t : Tins H T w) : Q (.bl i) H := h.same t (.bl i)
theorem Post.str {i : Str} (h : Post K mg E T A ar ac H Q (.ok (.str i) w)) (t : Tins H T w) : Q (.str i) H := h.same t (.str i)
theorem Post.non (h : Post K mg E T A ar ac H Q (.ok .non w)) (t : Tins H T w) : Q .non H := h.same t (show Rep K mg T (Bad T A ac) H .non .non from .non)
/-- a new list, a new tuple -/
theorem PostF.lst {ds : List D} {vs : List V} (h : PostF K mg E T A ac H Q (.ok ds w)) (f : Fr T A H w) (r : Reps K mg T (Bad T A ac) H ds vs) (z : vs.length ≤ sizeLine) {p : Addr} (n : H p = none) : Q (.ref p) (upd H p (.lst vs)) := by
  refine h p vs _ T (.new n) (f.tins.new n) n upd_same (fun m => f.nb (al := []) n (.inl m)) z (Reps.keep (B := Bad T A ac) (fun a o nb e => ?_) (fun b nb hb => ?_) (fun _ _ e => e) ds vs r)
  · rw [upd_ne (ne_of_none e n)]; exact e
  · rcases hb with hb | hb
    · exact hb
    · rw [hb] at nb; exact absurd n nb
theorem Post.tup {ds : List D} {vs : List V} (h : Post K mg E T A ar ac H Q (.ok (.tup ds) w)) (f : Fr T A H w) (r : Reps K mg T (Bad T A ac) H ds vs) (z : vs.length ≤ sizeLine) {p : Addr} (n : H p = none) : Q (.ref p) (upd H p (.tup vs)) :=
  h _ _ T (.new n) (f.tins.new n) (show Rep K mg T (Bad T A ac) _ (.tup ds) (.ref p) from .tup (.inl ⟨f.nb n, z, upd_same⟩) (reps_ext r (.new n)))
end
/-- a list of its own is a list -/
def dL (f : EM (List D)) : EM D := fun env w => (f env w).bind fun ds w => .ok (.lst ds) w
theorem GF.ge {X : Cx} {E : XK} {ac : List Nat} {e : Expr} {f : EM (List D)} (h : GF X E ac e f) : GE X E [] ac e (dL f) := pe_mono h fun σ H Q ⟨env, w, T, A, r, t, p⟩ => by
  refine ⟨env, w, T, A, r, t, ?_⟩
  unfold dL at p
  cases q : f env w with
  | ok ds w1 =>
    rw [q] at p
    refine fun a vs H' T' x t' n e m z rp => p _ H' T' x t' ⟨a, vs, rfl, ⟨?_, z, e⟩, rp.le fun b hb => .inl hb⟩
    rintro (b | ⟨i, _, b⟩)
    · exact m b
    · exact (r.fr t).own i a b n
  | ex e w1 => rw [q] at p; exact p
  | st => rw [q] at p; exact p
end DL
namespace DL
open PySem PySem.Spec PyProof.Rows L2
section
variable {X : Cx} {E : XK} {ar ac ar1 ac1 ar2 ac2 ar3 ac3 : List Nat} {a b c : Expr} {pos : Pos} {ea eb ec : EM D}
theorem ge_wk (h : GE X E ar ac a ea) (s : ar ⊆ ar1 := by simp) (s' : ac ⊆ ac1 := by simp) : GE X E ar1 ac1 a ea := pe_mono h fun σ H Q ⟨env, w, T, A, r, t, p⟩ => ⟨env, w, T, A, r, t, Post.wk p s s'⟩

/-! ### names, constants -/
def dVar (i : Nat) : EM D := fun env w => match env[i]? with
  | some (.fz d) => .ok d w
  | some (.ow (.lst ds)) => .ok (.lst ds) w
  | _ => .st
theorem ge_var {i : Nat} {x : Str} (h : PE X (.Name x pos) (tVar i)) : GE X E [i] [] (.Name x pos) (dVar i) := pe_mono h fun σ H Q ⟨env, w, T, A, r, t, p⟩ => by
  unfold dVar at p
  cases e : env[i]? with
  | none => rw [e] at p; exact p.elim
  | some s =>
    rw [e] at p
    have z := r.slot i s e
    cases s with
    | un => exact p.elim
    | fz d =>
      obtain ⟨v, e1, rp⟩ := z
      exact ⟨v, e1, p v H T .refl t ((rep2_of rp).wk (by simp) (by simp))⟩
    | ow d =>
      obtain ⟨q, hA, e1, o⟩ := z
      cases o with
      | dic h => exact p.elim
      | lst h1 h2 h3 =>
        refine ⟨.ref q, e1, p _ H T .refl t ⟨q, _, rfl, ⟨?_, h2, h1⟩, h3⟩⟩
        rintro (m | ⟨j, nj, hj⟩)
        · exact r.nT _ _ hA m
        · exact nj (by simp [r.inj _ _ _ hj hA])
def dC (d : D) : EM D := fun _ w => .ok d w
theorem ge_c {t : TE} {d : D} {v : V} (h : PE X a (tC v)) (r : ∀ T B H, Rep X.K X.mg T B H d v) : GE X E [] [] a (dC d) := pe_mono h fun σ H Q ⟨env, w, T, A, rel, t, p⟩ => p v H T .refl t (rep2_of (r _ _ _))
theorem ge_int {i j} : GE X E [] [] (.Constant (.int i) j pos) (dC (.int i)) := ge_c (t := tC (.int i)) pe_int fun _ _ _ => .int i
theorem ge_bl {i j} : GE X E [] [] (.Constant (.bool i) j pos) (dC (.bl i)) := ge_c (t := tC (.bl i)) pe_bl fun _ _ _ => .bl i
theorem ge_str {i j} : GE X E [] [] (.Constant (.str i) j pos) (dC (.str i)) := ge_c (t := tC (.str i)) pe_str fun _ _ _ => .str i
theorem ge_non {j} : GE X E [] [] (.Constant .none j pos) (dC .non) := ge_c (t := tC .non) pe_non fun _ _ _ => .non
/-- a constant of the module, by what it is worth -/
def Cst (K : PySem.W.Frag) (mg : Mg) (x : Str) (d : D) : Prop := ∃ u v, mg x = some u ∧ RelV v u ∧ ∀ T B H, Rep K mg T B H d v
theorem ge_glob {x : Str} {d : D} (c : Cst X.K X.mg x d) (hg : Gl X x := by rfl) (hd : (x == ("__debug__" : Str)) = false := by decide) : GE X E [] [] (.Name x pos) (dC d) := by
  obtain ⟨u, v, hm, r, rp⟩ := c
  exact ge_c (t := tC v) (pe_glob hg hm r hd) rp

/-! ### operators -/
def OpG (K : PySem.W.Frag) (mg : Mg) (E : XK) (ac ar' ac' : List Nat) (r : R2) (g : D → D → M D) : Prop :=
  ∀ T A H w Q ar d1 v1 d2 v2, Fr T A H w → Rep2 K mg T A ar ac H d1 v1 → Rep2 K mg T A ar ac H d2 v2 → Post K mg E T A ar' ac' H Q (g d1 d2 w) → r v1 v2 H Q
def dBin (g : D → D → M D) (ea eb : EM D) : EM D := fun env w => (ea env w).bind fun x w => (eb env w).bind fun y w => g x y w
theorem bin_lift {r : R2} {g : D → D → M D} (hg : OpG X.K X.mg E ac ar3 ac3 r g) (s1 : ac1 ⊆ ac) (s2 : ac2 ⊆ ac) : ∀ σ H Q, liftE X.K X.mg E ar3 ac3 (dBin g ea eb) σ H Q → tOp r (liftE X.K X.mg E ar1 ac1 ea) (liftE X.K X.mg E ar2 ac2 eb) σ H Q := fun σ H Q ⟨env, w, T, A, rel, t, p⟩ =>
  go1 (f := fun x w => (eb env w).bind fun y w => g x y w) rel t p fun d1 w1 v1 H1 T1 x1 t1 rel1 r1 p1 =>
    go1 rel1 t1 p1 fun d2 w2 v2 H2 T2 x2 t2 rel2 r2 p2 => hg T2 A H2 w2 Q (ar1 ++ ar2) d1 v1 d2 v2 (rel2.fr t2) ((rep2_ext r1 x2).wk (by simp) s1) (r2.wk (by simp) s2) p2
theorem ge_bin {op : Operator} {r : R2} {g : D → D → M D} (ho : OpR X (binaryOp op) r) (hg : OpG X.K X.mg E ac ar3 ac3 r g) (ha : GE X E ar1 ac1 a ea) (hb : GE X E ar2 ac2 b eb) (s1 : ac1 ⊆ ac := by simp) (s2 : ac2 ⊆ ac := by simp) : GE X E ar3 ac3 (.BinOp a op b pos) (dBin g ea eb) :=
  pe_mono (pe_op ho ha hb) (bin_lift hg s1 s2)
theorem ge_cmp {op : CmpOp} {r : R2} {g : D → D → M D} (ho : OpR X (compareOp op) r) (hg : OpG X.K X.mg E ac [] [] r g) (hm : behindInMarks op b = false) (ha : GE X E ar1 ac1 a ea) (hb : GE X E ar2 ac2 b eb) (s1 : ac1 ⊆ ac := by simp) (s2 : ac2 ⊆ ac := by simp) : GE X E [] [] (.Compare a [op] [b] pos) (dBin g ea eb) :=
  pe_mono (pe_cmpR ho ha hb hm) (bin_lift hg s1 s2)
/-- .. a new list -/
def OpGF (K : PySem.W.Frag) (mg : Mg) (E : XK) (ac ac' : List Nat) (r : R2) (g : D → D → M (List D)) : Prop :=
  ∀ T A H w Q ar d1 v1 d2 v2, Fr T A H w → Rep2 K mg T A ar ac H d1 v1 → Rep2 K mg T A ar ac H d2 v2 → PostF K mg E T A ac' H Q (g d1 d2 w) → r v1 v2 H Q
def dBinF (g : D → D → M (List D)) (ea eb : EM D) : EM (List D) := fun env w => (ea env w).bind fun x w => (eb env w).bind fun y w => g x y w
theorem gf_bin {op : Operator} {r : R2} {g : D → D → M (List D)} (ho : OpR X (binaryOp op) r) (hg : OpGF X.K X.mg E ac ac3 r g) (ha : GE X E ar1 ac1 a ea) (hb : GE X E ar2 ac2 b eb) (s1 : ac1 ⊆ ac := by simp) (s2 : ac2 ⊆ ac := by simp) : GF X E ac3 (.BinOp a op b pos) (dBinF g ea eb) :=
  pe_mono (pe_op ho ha hb) fun σ H Q ⟨env, w, T, A, rel, t, p⟩ =>
  goF (f := fun x w => (eb env w).bind fun y w => g x y w) rel t p fun d1 w1 v1 H1 T1 x1 t1 rel1 r1 p1 =>
    goF rel1 t1 p1 fun d2 w2 v2 H2 T2 x2 t2 rel2 r2 p2 => hg T2 A H2 w2 Q (ar1 ++ ar2) d1 v1 d2 v2 (rel2.fr t2) ((rep2_ext r1 x2).wk (by simp) s1) (r2.wk (by simp) s2) p2

section ops
variable {K : PySem.W.Frag} {mg : Mg} {T : Tt} {A : Nat → Option Addr} {H : Hp} {B : Addr → Prop}
theorem tp_of {ds v} (h : Rep2 K mg T A ar ac H (.tup ds) v) : ∃ a vs, v = .ref a ∧ Tp K (Bad T A ac) H a vs ∧ Reps K mg T (Bad T A ac) H ds vs := by
  cases (show Rep K mg T (Bad T A ac) H (.tup ds) v from h) with | tup h1 h2 => exact ⟨_, _, rfl, h1, h2⟩
theorem int_of {i v} (h : Rep2 K mg T A ar ac H (.int i) v) : v = .int i := by
  cases (show Rep K mg T (Bad T A ac) H (.int i) v from h); rfl
theorem bl_of {i v} (h : Rep2 K mg T A ar ac H (.bl i) v) : v = .bl i := by
  cases (show Rep K mg T (Bad T A ac) H (.bl i) v from h); rfl
theorem str_of {i v} (h : Rep2 K mg T A ar ac H (.str i) v) : v = .str i := by
  cases (show Rep K mg T (Bad T A ac) H (.str i) v from h); rfl
theorem non_of {v} (h : Rep2 K mg T A ar ac H .non v) : v = .non := by
  cases (show Rep K mg T (Bad T A ac) H .non v from h); rfl
end ops

/-! ints -/
def intG (C : Int → Int → Prop) [∀ i j, Decidable (C i j)] (g : Int → Int → D) : D → D → M D
  | .int i, .int j => fun w => if C i j then .ok (g i j) w else .st
  | _, _ => fun _ => .st
theorem og_int {K mg} {C : Int → Int → Prop} [∀ i j, Decidable (C i j)] {g : Int → Int → D} {gv : Int → Int → V} {al ar' ac' : List Nat} (h : ∀ i j, (∃ n, g i j = .int n ∧ gv i j = .int n) ∨ ∃ n, g i j = .bl n ∧ gv i j = .bl n) : OpG K mg E al ar' ac' (rI C gv) (intG C g) := by
  intro T A H w Q ar d1 v1 d2 v2 f r1 r2 p
  unfold intG at p
  split at p
  · rename_i i j
    split at p
    · rename_i hc
      refine ⟨i, j, int_of r1, int_of r2, hc, ?_⟩
      rcases h i j with ⟨n, e1, e2⟩ | ⟨n, e1, e2⟩
      · rw [e1] at p; rw [e2]; exact p.int f.tins
      · rw [e1] at p; rw [e2]; exact p.bl f.tins
    · exact p.elim
  · exact p.elim
abbrev tt2 : Int → Int → Prop := fun _ _ => True
theorem rI_of {f : Value → Value → Sem Value} {gv : Int → Int → V} (h : OpR X f (rI0 gv)) : OpR X f (rI tt2 gv) := fun pins s σ H x y v u Q I rx ry ⟨i, j, e1, e2, _, q⟩ => h pins s σ H x y v u Q I rx ry ⟨i, j, e1, e2, q⟩
def subD : D → D → M D := intG tt2 fun i j => .int (i - j)
theorem og_sub {K mg} {al ar' ac' : List Nat} : OpG K mg E al ar' ac' (rI tt2 fun i j => .int (i - j)) subD := og_int fun i j => .inl ⟨_, rfl, rfl⟩
theorem op_sub' : OpR X (binaryOp .Sub) (rI tt2 fun i j => .int (i - j)) := rI_of op_sub
def CDivD (i j : Int) : Prop := j ≠ 0 ∧ j.natAbs.log2 < 9000
instance : ∀ i j, Decidable (CDivD i j) := fun i j => inferInstanceAs (Decidable (_ ∧ _))
theorem op_divD : OpR X (binaryOp .FloorDiv) (rI CDivD fun i j => .int (i.fdiv j)) := opI fun i j _ _ _ _ _ hc q => floordiv_int hc.1 q (.inl (PyProof.noPylong_of_log2 hc.2))
def divD : D → D → M D := intG CDivD fun i j => .int (i.fdiv j)
theorem og_div {K mg} {al ar' ac' : List Nat} : OpG K mg E al ar' ac' (rI CDivD fun i j => .int (i.fdiv j)) divD := og_int fun i j => .inl ⟨_, rfl, rfl⟩
def modD : D → D → M D := intG (fun _ j => j ≠ 0) fun i j => .int (i.fmod j)
theorem og_mod {K mg} {al ar' ac' : List Nat} : OpG K mg E al ar' ac' (rI (fun _ j => j ≠ 0) fun i j => .int (i.fmod j)) modD := og_int fun i j => .inl ⟨_, rfl, rfl⟩
instance : ∀ i j, Decidable (CPow i j) := fun i j => inferInstanceAs (Decidable (_ ∧ _ ∧ _))
def powD : D → D → M D := intG CPow fun i j => .int (i ^ j.toNat)
theorem og_pow {K mg} {al ar' ac' : List Nat} : OpG K mg E al ar' ac' (rI CPow fun i j => .int (i ^ j.toNat)) powD := og_int fun i j => .inl ⟨_, rfl, rfl⟩
def ltD : D → D → M D := intG tt2 fun i j => .bl (decide (i < j))
theorem og_lt {K mg} {al ar' ac' : List Nat} : OpG K mg E al ar' ac' (rI tt2 fun i j => .bl (decide (i < j))) ltD := og_int fun i j => .inr ⟨_, rfl, rfl⟩
theorem op_lt' : OpR X (compareOp .Lt) (rI tt2 fun i j => .bl (decide (i < j))) := rI_of op_lt
def leD : D → D → M D := intG tt2 fun i j => .bl (decide (i ≤ j))
theorem og_le {K mg} {al ar' ac' : List Nat} : OpG K mg E al ar' ac' (rI tt2 fun i j => .bl (decide (i ≤ j))) leD := og_int fun i j => .inr ⟨_, rfl, rfl⟩
theorem op_le' : OpR X (compareOp .LtE) (rI tt2 fun i j => .bl (decide (i ≤ j))) := rI_of op_le
def gtD : D → D → M D := intG tt2 fun i j => .bl (decide (j < i))
theorem og_gt {K mg} {al ar' ac' : List Nat} : OpG K mg E al ar' ac' (rI tt2 fun i j => .bl (decide (j < i))) gtD := og_int fun i j => .inr ⟨_, rfl, rfl⟩
theorem op_gt' : OpR X (compareOp .Gt) (rI tt2 fun i j => .bl (decide (j < i))) := rI_of op_gt
def geD : D → D → M D := intG tt2 fun i j => .bl (decide (j ≤ i))
theorem og_ge {K mg} {al ar' ac' : List Nat} : OpG K mg E al ar' ac' (rI tt2 fun i j => .bl (decide (j ≤ i))) geD := og_int fun i j => .inr ⟨_, rfl, rfl⟩
theorem op_ge' : OpR X (compareOp .GtE) (rI tt2 fun i j => .bl (decide (j ≤ i))) := rI_of op_ge

/-! + -/
def addD : D → D → M D
  | .int i, .int j => fun w => .ok (.int (i + j)) w
  | .str s, .str t => fun w => if s.length + t.length ≤ sizeLine then .ok (.str (s ++ t)) w else .st
  | .tup s, .tup t => fun w => if s.length + t.length ≤ sizeLine then .ok (.tup (s ++ t)) w else .st
  | .lst s, .lst t => fun w => if s.length + t.length ≤ sizeLine then .ok (.lst (s ++ t)) w else .st
  | _, _ => fun _ => .st
theorem Post.lstNew {K mg} {T A H w Q} {E : XK} {ar' al : List Nat} {ds : List D} {vs : List V} (h : Post K mg E T A ar' al H Q (.ok (.lst ds) w)) (f : Fr T A H w) (r : Reps K mg T (Bad T A al) H ds vs) (z : vs.length ≤ sizeLine) {p : Addr} (n : H p = none) : Q (.ref p) (upd H p (.lst vs)) :=
  h _ _ T (.new n) (f.tins.new n) ⟨p, vs, rfl, ⟨f.nb n, z, upd_same⟩, reps_ext r (.new n)⟩
def rAddD (K : PySem.W.Frag) : R2 := fun x y H Q => (∃ i j, x = .int i ∧ y = .int j ∧ Q (.int (i + j)) H) ∨ (∃ i j, x = .str i ∧ y = .str j ∧ i.length + j.length ≤ sizeLine ∧ Q (.str (i ++ j)) H) ∨ rCatA K x y H Q ∨ rCat x y H Q
theorem op_addD : OpR X (binaryOp .Add) (rAddD X.K) := op_add.or (op_add_str.or (op_catA.or op_cat))
theorem og_add {K mg} {al : List Nat} : OpG K mg E al [] al (rAddD K) addD := by
  intro T A H w Q ar d1 v1 d2 v2 f r1 r2 p
  unfold addD at p
  split at p
  · exact .inl ⟨_, _, int_of r1, int_of r2, p.int f.tins⟩
  · split at p
    · rename_i h
      exact .inr (.inl ⟨_, _, str_of r1, str_of r2, h, p.str f.tins⟩)
    · exact p.elim
  · obtain ⟨a, vs, rfl, l1, q1⟩ := tp_of r1
    obtain ⟨b, us, rfl, l2, q2⟩ := tp_of r2
    split at p
    · rename_i s t h
      rw [q1.len, q2.len] at h
      refine .inr (.inr (.inl ⟨a, b, vs, us, rfl, rfl, l1.sq, l2.sq, h, fun e => ?_, fun _ e => ?_, fun _ _ n hn => p.tup f (q1.app q2) (by rw [List.length_append]; exact h) hn⟩))
      · subst e
        have e : s = [] := List.length_eq_zero_iff.mp q1.len
        subst e
        exact p.same f.tins (show Rep K mg T (Bad T A al) H (.tup t) (.ref b) from .tup l2 q2)
      · subst e
        have e : t = [] := List.length_eq_zero_iff.mp q2.len
        subst e
        rw [List.append_nil] at p
        exact p.same f.tins (show Rep K mg T (Bad T A al) H (.tup s) (.ref a) from .tup l1 q1)
    · exact p.elim
  · obtain ⟨a, vs, rfl, l1, q1⟩ := r1
    obtain ⟨b, us, rfl, l2, q2⟩ := r2
    split at p
    · rename_i h
      rw [q1.len, q2.len] at h
      exact .inr (.inr (.inr ⟨a, b, vs, us, rfl, rfl, l1.2.2, l2.2.2, h, fun n hn => p.lstNew f (q1.app q2) (by rw [List.length_append]; exact h) hn⟩))
    · exact p.elim
  · exact p.elim
def addF : D → D → M (List D)
  | .lst s, .lst t => fun w => if s.length + t.length ≤ sizeLine then .ok (s ++ t) w else .st
  | _, _ => fun _ => .st
theorem og_addF {K mg} {al : List Nat} : OpGF K mg E al al rCat addF := by
  intro T A H w Q ar d1 v1 d2 v2 f r1 r2 p
  unfold addF at p
  split at p
  · obtain ⟨a, vs, rfl, l1, q1⟩ := r1
    obtain ⟨b, us, rfl, l2, q2⟩ := r2
    split at p
    · rename_i h
      rw [q1.len, q2.len] at h
      exact ⟨a, b, vs, us, rfl, rfl, l1.2.2, l2.2.2, h, fun n hn => p.lst f (q1.app q2) (by rw [List.length_append]; exact h) hn⟩
    · exact p.elim
  · exact p.elim

/-! * -/
instance : ∀ i j, Decidable (CMulW i j) := fun i j => inferInstanceAs (Decidable (_ < _))
def CMulD (i j : Int) : Prop := (-(2 ^ 64) < i ∧ i < 2 ^ 64) ∨ (-(2 ^ 64) < j ∧ j < 2 ^ 64) ∨ CMulW i j
instance : ∀ i j, Decidable (CMulD i j) := fun i j => inferInstanceAs (Decidable (_ ∨ _ ∨ _))
theorem CMulD.ok {i j : Int} (h : CMulD i j) : IntMulOk i j := by
  rcases h with h | h | h
  · exact CMul.ok (.inl h)
  · exact CMul.ok (.inr h)
  · exact CMulW.ok h
theorem op_mulDi : OpR X (binaryOp .Mult) (rI CMulD fun i j => .int (i * j)) := opI fun _ _ _ _ _ _ _ hc q => mul_int q hc.ok
def mulD : D → D → M D := intG CMulD fun i j => .int (i * j)
theorem og_mul {K mg} {al ar' ac' : List Nat} : OpG K mg E al ar' ac' (rI CMulD fun i j => .int (i * j)) mulD := og_int fun i j => .inl ⟨_, rfl, rfl⟩
def mulF : D → D → M (List D)
  | .lst s, .int k => fun w => if k < 2 ^ 62 ∧ -(2 ^ 62) ≤ k ∧ s.length * k.toNat ≤ sizeLine then .ok (List.replicate k.toNat s).flatten w else .st
  | _, _ => fun _ => .st
theorem og_mulF {K mg} {al : List Nat} : OpGF K mg E al al rRep mulF := by
  intro T A H w Q ar d1 v1 d2 v2 f r1 r2 p
  unfold mulF at p
  split at p
  · obtain ⟨a, vs, rfl, l1, q1⟩ := r1
    split at p
    · rename_i s k h
      rw [q1.len] at h
      refine ⟨a, k, vs, rfl, int_of r2, l1.2.2, by omega, by omega, h.2.2, fun n hn => p.lst f (q1.rep _) ?_ hn⟩
      simpa [Nat.mul_comm] using h.2.2
    · exact p.elim
  · exact p.elim
end
end DL
namespace DL
open PySem PySem.Spec PyProof.Rows L2
mutual
def toP : D → PyData
  | .non => .none | .bl b => .bool b | .int i => .int i | .str s => .str s
  | .tup xs => .tuple (toPs xs) | .lst xs => .list (toPs xs) | _ => .none
def toPs : List D → List PyData
  | [] => []
  | d :: ds => toP d :: toPs ds
end
mutual
def okP : D → Bool
  | .non => true | .bl _ => true | .int _ => true | .str _ => true
  | .tup xs => okPs xs | .lst xs => okPs xs | _ => false
def okPs : List D → Bool
  | [] => true
  | d :: ds => okP d && okPs ds
end
section
variable {K : PySem.W.Frag} {mg : Mg} {T : Tt} {B : Addr → Prop} {H : Hp}
mutual
theorem rep_dp : ∀ (d : D) (v : V), okP d = true → Rep K mg T B H d v → Dp K H v (toP d)
  | .non, _, _, h => by cases h; exact .non
  | .bl b, _, _, h => by cases h; exact .bl b
  | .int i, _, _, h => by cases h; exact .int i
  | .str s, _, _, h => by cases h; exact .str s
  | .tup ds, _, o, h => by cases h with | tup l r => exact .tup l.sq (reps_dp ds _ o r)
  | .lst ds, _, o, h => by cases h with | lst l r => exact .lst l.sq (reps_dp ds _ o r)
  | .fn _, _, o, _ => by cases o
  | .box _, _, o, _ => by cases o
  | .scr _, _, o, _ => by cases o
  | .dic _, _, o, _ => by cases o
theorem reps_dp : ∀ (ds : List D) (vs : List V), okPs ds = true → Reps K mg T B H ds vs → DpAll K H vs (toPs ds)
  | [], _, _, h => by cases h; exact .nil
  | d :: ds, _, o, h => by
    simp only [okPs, Bool.and_eq_true] at o
    cases h with | cons h1 h2 => exact .cons (rep_dp d _ o.1 h1) (reps_dp ds _ o.2 h2)
end
end
def shD (d : D) : Bool := okP d && SeqAt.shaped (toP d)
def eqvD (x y : D) : Bool := PyData.eqv (toP x) (toP y)
def eqD (x y : D) : M D := fun w => if shD x && shD y then .ok (.bl (eqvD x y)) w else .st
def neD (x y : D) : M D := fun w => if shD x && shD y then .ok (.bl (!eqvD x y)) w else .st
section
variable {X : Cx} {E : XK} {ar ac ar1 ac1 ar2 ac2 ar3 ac3 : List Nat} {a b c : Expr} {pos : Pos} {ea eb ec : EM D} {K : PySem.W.Frag} {mg : Mg}
theorem og_eq {al ar' ac' : List Nat} : OpG K mg E al ar' ac' (rEqD K) eqD := by
  intro T A H w Q ar d1 v1 d2 v2 f r1 r2 p
  unfold eqD at p
  split at p
  · rename_i h
    simp only [Bool.and_eq_true, shD] at h
    exact ⟨_, _, rep_dp d1 v1 h.1.1 (r1.rep (al := ar ++ al) (by simp) (by simp)), rep_dp d2 v2 h.2.1 (r2.rep (al := ar ++ al) (by simp) (by simp)), h.1.2, h.2.2, p.bl f.tins⟩
  · exact p.elim
theorem og_ne {al ar' ac' : List Nat} : OpG K mg E al ar' ac' (rNeD K) neD := by
  intro T A H w Q ar d1 v1 d2 v2 f r1 r2 p
  unfold neD at p
  split at p
  · rename_i h
    simp only [Bool.and_eq_true, shD] at h
    exact ⟨_, _, rep_dp d1 v1 h.1.1 (r1.rep (al := ar ++ al) (by simp) (by simp)), rep_dp d2 v2 h.2.1 (r2.rep (al := ar ++ al) (by simp) (by simp)), h.1.2, h.2.2, p.bl f.tins⟩
  · exact p.elim
/-! is -/
def isNonD : D → Bool
  | .non => true
  | _ => false
theorem isNon_rep {T A ar ac H d v} (r : Rep2 K mg T A ar ac H d v) : decide (v = V.non) = isNonD d := by
  have r := r.rep (al := ar ++ ac) (by simp) (by simp)
  cases r <;> rfl
def isD : D → D → M D
  | x, .non => fun w => .ok (.bl (isNonD x)) w
  | .bl x, .bl y => fun w => .ok (.bl (decide (x = y))) w
  | _, _ => fun _ => .st
def isnotD : D → D → M D
  | x, .non => fun w => .ok (.bl (!isNonD x)) w
  | .bl x, .bl y => fun w => .ok (.bl (!decide (x = y))) w
  | _, _ => fun _ => .st
def rIsD : R2 := fun x y H Q => (y = .non ∧ Q (.bl (decide (x = .non))) H) ∨ (∃ a b, x = .bl a ∧ y = .bl b ∧ Q (.bl (decide (a = b))) H)
def rIsnotD : R2 := fun x y H Q => (y = .non ∧ Q (.bl (!decide (x = .non))) H) ∨ (∃ a b, x = .bl a ∧ y = .bl b ∧ Q (.bl (!decide (a = b))) H)
theorem op_isD : OpR X (compareOp .Is) rIsD := op_isN.or op_is_bl
theorem op_isnotD : OpR X (compareOp .IsNot) rIsnotD := op_notN.or op_isnot_bl
theorem og_is {al ar' ac' : List Nat} : OpG K mg E al ar' ac' rIsD isD := by
  intro T A H w Q ar d1 v1 d2 v2 f r1 r2 p
  unfold isD at p
  split at p
  · exact .inl ⟨non_of r2, by rw [isNon_rep r1]; exact p.bl f.tins⟩
  · exact .inr ⟨_, _, bl_of r1, bl_of r2, p.bl f.tins⟩
  · exact p.elim
theorem og_isnot {al ar' ac' : List Nat} : OpG K mg E al ar' ac' rIsnotD isnotD := by
  intro T A H w Q ar d1 v1 d2 v2 f r1 r2 p
  unfold isnotD at p
  split at p
  · exact .inl ⟨non_of r2, by rw [isNon_rep r1]; exact p.bl f.tins⟩
  · exact .inr ⟨_, _, bl_of r1, bl_of r2, p.bl f.tins⟩
  · exact p.elim
/-! in -/
def flD : D → Bool
  | .non => true | .bl _ => true | .int _ => true | .str _ => true
  | _ => false
def eqF : D → D → Bool
  | .non, .non => true
  | .bl a, .bl b => a == b
  | .bl a, .int b => (if a then 1 else 0) == b
  | .int a, .bl b => a == (if b then 1 else 0)
  | .int a, .int b => a == b
  | .str a, .str b => a == b
  | _, _ => false
def memF (x : D) (ys : List D) : Bool := ys.any fun y => eqF y x
def inD (neg : Bool) : D → D → M D
  | .str c, .str z => fun w => match c.cps.toList with
    | [c] => .ok (.bl (if neg then !decide (c ∈ z.cps.toList) else decide (c ∈ z.cps.toList))) w
    | _ => .st
  | x, .tup ys => fun w => if flD x && ys.all flD then .ok (.bl (if neg then !memF x ys else memF x ys)) w else .st
  | x, .lst ys => fun w => if flD x && ys.all flD then .ok (.bl (if neg then !memF x ys else memF x ys)) w else .st
  | _, _ => fun _ => .st
def rInD (K : PySem.W.Frag) (neg : Bool) : R2 := fun x y H Q => rIn K neg x y H Q ∨ (∃ (c : Nat) (z : Str), x = .str ⟨#[c]⟩ ∧ y = .str z ∧ Q (.bl (if neg then !decide (c ∈ z.cps.toList) else decide (c ∈ z.cps.toList))) H)
theorem op_inD : OpR X (compareOp .In) (rInD X.K false) := op_in_seq.or (fun pins s σ H x y v u Q I rx ry ⟨c, z, e1, e2, q⟩ => op_in_sign pins s σ H x y v u Q I rx ry ⟨c, z, e1, e2, q⟩)
theorem op_ninD : OpR X (compareOp .NotIn) (rInD X.K true) := op_notIn_seq.or (fun pins s σ H x y v u Q I rx ry ⟨c, z, e1, e2, q⟩ => op_notIn_sign pins s σ H x y v u Q I rx ry ⟨c, z, e1, e2, q⟩)
theorem fl_rep {T B H} {d : D} {v : V} (r : Rep K mg T B H d v) (h : flD d = true) : flatV v = true := by cases r <;> first | rfl | cases h
theorem eqF_rep {T B H} {d e : D} {v u : V} (r : Rep K mg T B H d v) (q : Rep K mg T B H e u) (h : flD d = true) (h' : flD e = true) : eqV v u = eqF d e := by
  cases r <;> first | cases h; done | (cases q <;> first | cases h'; done | rfl)
theorem fls_rep {T B H} : ∀ {ds : List D} {vs : List V}, Reps K mg T B H ds vs → ds.all flD = true → vs.all flatV = true := by
  intro ds
  induction ds with
  | nil => intro vs r _; cases r; rfl
  | cons d ds ih =>
    intro vs r h
    simp only [List.all_cons, Bool.and_eq_true] at h
    cases r with | cons r1 r2 => simp only [List.all_cons, Bool.and_eq_true]; exact ⟨fl_rep r1 h.1, ih r2 h.2⟩
theorem mem_rep {T B H} {d : D} {v : V} (q : Rep K mg T B H d v) (hf : flD d = true) : ∀ {ds : List D} {vs : List V}, Reps K mg T B H ds vs → ds.all flD = true → inV v vs = memF d ds := by
  intro ds
  induction ds with
  | nil => intro vs r _; cases r; rfl
  | cons e ds ih =>
    intro vs r h
    simp only [List.all_cons, Bool.and_eq_true] at h
    cases r with
    | cons r1 r2 =>
      have z := ih r2 h.2
      unfold inV memF at z ⊢
      rw [List.any_cons, List.any_cons, z, eqF_rep r1 q h.1 hf]
theorem og_in {neg : Bool} {al ar' ac' : List Nat} : OpG K mg E al ar' ac' (rInD K neg) (inD neg) := by
  intro T A H w Q ar d1 v1 d2 v2 f r1 r2 p
  unfold inD at p
  split at p
  · rename_i c z
    split at p
    · rename_i c0 e
      have e2 : c = ⟨#[c0]⟩ := by
        obtain ⟨cs⟩ := c
        simp only at e
        congr 1
        exact Array.toList_inj.mp e
      exact .inr ⟨c0, z, by rw [str_of r1, e2], str_of r2, p.bl f.tins⟩
    · exact p.elim
  · obtain ⟨b, us, rfl, l2, q2⟩ := tp_of r2
    split at p
    · rename_i h
      simp only [Bool.and_eq_true] at h
      have q1 := r1.rep (al := ar ++ al) (by simp) (by simp)
      have q2' := reps_al (al' := ar ++ al) q2 (by simp)
      refine .inl ⟨b, us, rfl, .inr l2.sq, fl_rep q1 h.1, fls_rep q2' h.2, ?_⟩
      rw [mem_rep q1 h.1 q2' h.2]
      exact p.bl f.tins
    · exact p.elim
  · obtain ⟨b, us, rfl, l2, q2⟩ := r2
    split at p
    · rename_i h
      simp only [Bool.and_eq_true] at h
      have q1 := r1.rep (al := ar ++ al) (by simp) (by simp)
      have q2' := reps_al (al' := ar ++ al) q2 (by simp)
      refine .inl ⟨b, us, rfl, .inl l2.sq, fl_rep q1 h.1, fls_rep q2' h.2, ?_⟩
      rw [mem_rep q1 h.1 q2' h.2]
      exact p.bl f.tins
    · exact p.elim
  · exact p.elim

/-! ### tests -/
def PostT (mg : Mg) (E : XK) (T : Tt) (H : Hp) (Q : Bool → Hp → Prop) : Res Bool → Prop
  | .ok b w => ∀ H' T', Ext T H T' H' → Tins H' T' w → Q b H'
  | .ex e w => ∀ cls oa H' T', Ext T H T' H' → Tins H' T' w → XR mg e cls oa H' → E cls oa H'
  | .st => False
def liftT (K : PySem.W.Frag) (mg : Mg) (E : XK) (κ : EM Bool) : TT := fun σ H Q => ∃ env w T A, RelS K mg T A σ H env ∧ Tins H T w ∧ PostT mg E T H Q (κ env w)
def GT (X : Cx) (E : XK) (e : Expr) (κ : EM Bool) : Prop := PT X e (liftT X.K X.mg E κ)
def GW (X : Cx) (E : XK) (e : Expr) (κ : EM Bool) : Prop := PW X e (liftT X.K X.mg E κ)
theorem pt_mono {e : Expr} {t u : TT} (h : PT X e t) (m : ∀ σ H Q, u σ H Q → t σ H Q) : PT X e u := ⟨fun pins s σ H Q I q => h.run pins s σ H Q I (m _ _ _ q)⟩
theorem pw_mono {e : Expr} {t u : TT} (h : PW X e t) (m : ∀ σ H Q, u σ H Q → t σ H Q) : PW X e u := ⟨fun wh pins s σ H Q I q => h.run wh pins s σ H Q I (m _ _ _ q)⟩
theorem PostT.ext {mg E T H T' H' Q} {r : Res Bool} (h : PostT mg E T H Q r) (x : Ext T H T' H') : PostT mg E T' H' Q r := by
  cases r with
  | ok d w => exact fun H2 T2 y t => h H2 T2 (x.trans y) t
  | ex e w => exact fun c o H2 T2 y t r => h c o H2 T2 (x.trans y) t r
  | st => exact h
theorem goT {T A σ H env w} {Q : Bool → Hp → Prop} {ε : EM D} {f : D → W → Res Bool} {R : VK} (rel : RelS K mg T A σ H env) (t : Tins H T w) (hp : PostT mg E T H Q ((ε env w).bind f))
    (k : ∀ d w1 v H1 T1, Ext T H T1 H1 → Tins H1 T1 w1 → RelS K mg T1 A σ H1 env → Rep2 K mg T1 A ar ac H1 d v → PostT mg E T1 H1 Q (f d w1) → R v H1) : liftE K mg E ar ac ε σ H R :=
  goP (P := fun T H r => PostT mg E T H Q r) (fun _ _ _ _ h => h) (fun _ _ h => h) (fun _ _ _ _ _ h x => h.ext x) rel t hp k
/-- after a test -/
theorem goB {α : Type} {T A σ H env w} {P : Tt → Hp → Res α → Prop} (pex : ∀ T H e w, P T H (.ex e w) → ∀ cls oa H' T', Ext T H T' H' → Tins H' T' w → XR mg e cls oa H' → E cls oa H') (pst : ∀ T H, ¬ P T H .st) (pext : ∀ T H T' H' r, P T H r → Ext T H T' H' → P T' H' r)
    {κ : EM Bool} {f : Bool → W → Res α} {R : Bool → Hp → Prop} (rel : RelS K mg T A σ H env) (t : Tins H T w) (hp : P T H ((κ env w).bind f))
    (k : ∀ b w1 H1 T1, Ext T H T1 H1 → Tins H1 T1 w1 → RelS K mg T1 A σ H1 env → P T1 H1 (f b w1) → R b H1) : liftT K mg E κ σ H R := by
  refine ⟨env, w, T, A, rel, t, ?_⟩
  cases q : κ env w with
  | ok d w1 =>
    rw [q] at hp
    exact fun H1 T1 x t1 => k d w1 H1 T1 x t1 (rel.ext x) (pext T H T1 H1 (f d w1) hp x)
  | ex e w1 => rw [q] at hp; exact pex _ _ _ _ hp
  | st => rw [q] at hp; exact (pst _ _ hp).elim
/-- truth -/
def truD : D → Option Bool
  | .non => some false
  | .bl b => some b
  | .int i => some (i != 0)
  | .str s => if s.length ≤ sizeLine then some (s.length != 0) else none
  | .tup xs => some (!xs.isEmpty)
  | .lst xs => some (!xs.isEmpty)
  | _ => none
def truM (d : D) : M Bool := fun w => match truD d with
  | some b => .ok b w
  | none => .st
theorem isEmpty_len {α β : Type} {xs : List α} {ys : List β} (h : xs.length = ys.length) : xs.isEmpty = ys.isEmpty := by
  cases xs <;> cases ys <;> simp_all
theorem tru_rep {T A ar ac H d v k} (r : Rep2 K mg T A ar ac H d v) (h : truD d = some k) : TruV K v H k := by
  cases d with
  | lst ds =>
    obtain ⟨a, vs, rfl, l, q⟩ := r
    have e : (!ds.isEmpty) = k := Option.some.inj h
    exact .inl ⟨vs, l.sq, by rw [← e, isEmpty_len q.len]⟩
  | tup ds =>
    obtain ⟨a, vs, rfl, l, q⟩ := tp_of r
    have e : (!ds.isEmpty) = k := Option.some.inj h
    exact .inr (.inl ⟨vs, l.sq, by rw [← e, isEmpty_len q.len]⟩)
  | non => rw [non_of r]; exact (Option.some.inj h).symm
  | bl b => rw [bl_of r]; exact (Option.some.inj h).symm
  | int b => rw [int_of r]; exact (Option.some.inj h).symm
  | str s =>
    rw [str_of r]
    have h : (if s.length ≤ sizeLine then some (s.length != 0) else none) = some k := h
    by_cases z : s.length ≤ sizeLine
    · rw [if_pos z] at h
      refine ⟨z, (Option.some.inj h).symm.trans ?_⟩
      cases s.length <;> rfl
    · rw [if_neg z] at h; cases h
  | fn _ => cases h
  | box _ => cases h
  | scr _ => cases h
  | dic _ => cases h
def dTru (e : EM D) : EM Bool := fun env w => (e env w).bind truM
theorem tru_post {T A ar ac H w Q} {d : D} {v : V} (r : Rep2 K mg T A ar ac H d v) (t : Tins H T w) (p : PostT mg E T H Q (truM d w)) : ∃ k, TruV K v H k ∧ Q k H := by
  unfold truM at p
  split at p
  · rename_i b e
    exact ⟨b, tru_rep r e, p H T .refl t⟩
  · exact p.elim
/-- an expression by its truth; of a comparison, see gt_cmp -/
theorem gt_val (h : GE X E ar ac a ea) (he : ∀ whole, isTrue a X.env whole = (do let v ← whole; standAt a.pos; holding [v] (truthy v)) := by intro _; rfl) : GT X E a (dTru ea) :=
  pt_mono (pt_truth h he) fun σ H Q ⟨env, w, T, A, rel, t, p⟩ => goT rel t p fun d w1 v H1 T1 x t1 rel1 r p1 => tru_post r t1 p1
def boolM : D → M Bool
  | .bl b => fun w => .ok b w
  | _ => fun _ => .st
def dB (e : EM D) : EM Bool := fun env w => (e env w).bind boolM
theorem gt_cmp {op : CmpOp} {r : R2} {g : D → D → M D} (ho : OpR X (compareOp op) r) (hg : ∀ E, OpG X.K X.mg E ac [] [] r g) (hm : behindInMarks op b = false) (ha : GE X E ar1 ac1 a ea) (hb : GE X E ar2 ac2 b eb) (s1 : ac1 ⊆ ac := by simp) (s2 : ac2 ⊆ ac := by simp) : GT X E (.Compare a [op] [b] pos) (dB (dBin g ea eb)) :=
  pt_mono (pt_cmpR ho ha hb hm) fun σ H Q ⟨env, w, T, A, rel, t, p⟩ => by
    have e : dB (dBin g ea eb) env w = (ea env w).bind fun x w => (eb env w).bind fun y w => (g x y w).bind boolM := by
      unfold dB dBin
      cases ea env w with
      | ok x w => show Res.bind (Res.bind (eb env w) _) _ = Res.bind (eb env w) _; cases eb env w <;> rfl
      | ex e w => rfl
      | st => rfl
    rw [e] at p
    refine goT (f := fun x w => (eb env w).bind fun y w => (g x y w).bind boolM) rel t p fun d1 w1 v1 H1 T1 x1 t1 rel1 r1 p1 =>
      goT rel1 t1 p1 fun d2 w2 v2 H2 T2 x2 t2 rel2 r2 p2 => ?_
    refine hg E T2 A H2 w2 _ (ar1 ++ ar2) d1 v1 d2 v2 (rel2.fr t2) ((rep2_ext r1 x2).wk (by simp) s1) (r2.wk (by simp) s2) ?_
    cases q : g d1 d2 w2 with
    | ok d w3 =>
      rw [q] at p2
      intro v H' T' x t' rp
      cases d with
      | bl b => exact ⟨b, bl_of rp, p2 H' T' x t'⟩
      | _ => exact p2.elim
    | ex e w => rw [q] at p2; exact p2
    | st => rw [q] at p2; exact p2
theorem gt_not {κ : EM Bool} (h : GT X E a κ) : GT X E (.UnaryOp .Not a pos) (fun env w => (κ env w).bind fun b w => .ok (!b) w) :=
  pt_mono (pt_not h) fun σ H Q ⟨env, w, T, A, rel, t, p⟩ => goB (P := fun T H r => PostT X.mg E T H Q r) (fun _ _ _ _ h => h) (fun _ _ h => h) (fun _ _ _ _ _ h x => h.ext x) rel t p fun b w1 H1 T1 x t1 rel1 p1 => p1 H1 T1 .refl t1
def dAndT (κ μ : EM Bool) : EM Bool := fun env w => (κ env w).bind fun b w => if b then μ env w else .ok false w
def dOrT (κ μ : EM Bool) : EM Bool := fun env w => (κ env w).bind fun b w => if b then .ok true w else μ env w
theorem gw_and1 {κ : EM Bool} (h : GT X E a κ) : GW X E (.BoolOp .And [a] pos) κ := pw_and1 h
theorem gw_or1 {κ : EM Bool} (h : GT X E a κ) : GW X E (.BoolOp .Or [a] pos) κ := pw_or1 h
theorem gw_and {κ μ : EM Bool} {rest : List Expr} (h : GT X E a κ) (h' : GW X E (.BoolOp .And (b :: rest) pos) μ) : GW X E (.BoolOp .And (a :: b :: rest) pos) (dAndT κ μ) :=
  pw_mono (pw_and h h') fun σ H Q ⟨env, w, T, A, rel, t, p⟩ => goB (P := fun T H r => PostT X.mg E T H Q r) (fun _ _ _ _ h => h) (fun _ _ h => h) (fun _ _ _ _ _ h x => h.ext x) rel t p fun c w1 H1 T1 x t1 rel1 p1 => by
    cases c with
    | true => exact ⟨env, w1, T1, A, rel1, t1, p1⟩
    | false => exact p1 H1 T1 .refl t1
theorem gw_or {κ μ : EM Bool} {rest : List Expr} (h : GT X E a κ) (h' : GW X E (.BoolOp .Or (b :: rest) pos) μ) : GW X E (.BoolOp .Or (a :: b :: rest) pos) (dOrT κ μ) :=
  pw_mono (pw_or h h') fun σ H Q ⟨env, w, T, A, rel, t, p⟩ => goB (P := fun T H r => PostT X.mg E T H Q r) (fun _ _ _ _ h => h) (fun _ _ h => h) (fun _ _ _ _ _ h x => h.ext x) rel t p fun c w1 H1 T1 x t1 rel1 p1 => by
    cases c with
    | false => exact ⟨env, w1, T1, A, rel1, t1, p1⟩
    | true => exact p1 H1 T1 .refl t1
theorem gw_pt {κ : EM Bool} (h : GW X E a κ) : GT X E a κ := h.pt
/-! as values -/
def dNot (e : EM D) : EM D := fun env w => (dTru e env w).bind fun b w => .ok (.bl (!b)) w
theorem ge_not (h : GE X E ar ac a ea) : GE X E [] [] (.UnaryOp .Not a pos) (dNot ea) :=
  pe_mono (pe_notT h) fun σ H Q ⟨env, w, T, A, rel, t, p⟩ => by
    have e : dNot ea env w = (ea env w).bind fun d w => (truM d w).bind fun b w => .ok (.bl (!b)) w := by
      unfold dNot dTru; cases ea env w <;> rfl
    rw [e] at p
    refine go1 rel t p fun d w1 v H1 T1 x t1 rel1 r p1 => ?_
    unfold truM at p1
    split at p1
    · rename_i b e
      exact ⟨b, tru_rep r e, p1.bl t1⟩
    · exact p1.elim
def dAnd (e f : EM D) : EM D := fun env w => (e env w).bind fun d w => (truM d w).bind fun b w => if b then f env w else .ok d w
def dOr (e f : EM D) : EM D := fun env w => (e env w).bind fun d w => (truM d w).bind fun b w => if b then .ok d w else f env w
theorem ge_one {op} (h : GE X E ar ac a ea) : GE X E ar ac (.BoolOp op [a] pos) ea := pe_one h
theorem ge_and {rest : List Expr} (ha : GE X E ar1 ac1 a ea) (hb : GE X E ar2 ac2 (.BoolOp .And (b :: rest) pos) eb) (s1 : ar1 ⊆ ar := by simp) (s2 : ac1 ⊆ ac := by simp) (s3 : ar2 ⊆ ar := by simp) (s4 : ac2 ⊆ ac := by simp) : GE X E ar ac (.BoolOp .And (a :: b :: rest) pos) (dAnd ea eb) :=
  pe_mono (pe_andT ha hb) fun σ H Q ⟨env, w, T, A, rel, t, p⟩ => go1 (f := fun d w => (truM d w).bind fun b w => if b then eb env w else .ok d w) rel t p fun d w1 v H1 T1 x t1 rel1 r p1 => by
    unfold truM at p1
    split at p1
    · rename_i k e
      refine ⟨k, tru_rep r e, ?_⟩
      cases k with
      | true => exact ⟨env, w1, T1, A, rel1, t1, Post.wk p1 s3 s4⟩
      | false => exact p1.same t1 (r.wk s1 s2)
    · exact p1.elim
theorem ge_or {rest : List Expr} (ha : GE X E ar1 ac1 a ea) (hb : GE X E ar2 ac2 (.BoolOp .Or (b :: rest) pos) eb) (s1 : ar1 ⊆ ar := by simp) (s2 : ac1 ⊆ ac := by simp) (s3 : ar2 ⊆ ar := by simp) (s4 : ac2 ⊆ ac := by simp) : GE X E ar ac (.BoolOp .Or (a :: b :: rest) pos) (dOr ea eb) :=
  pe_mono (pe_orT ha hb) fun σ H Q ⟨env, w, T, A, rel, t, p⟩ => go1 (f := fun d w => (truM d w).bind fun b w => if b then .ok d w else eb env w) rel t p fun d w1 v H1 T1 x t1 rel1 r p1 => by
    unfold truM at p1
    split at p1
    · rename_i k e
      refine ⟨k, tru_rep r e, ?_⟩
      cases k with
      | false => exact ⟨env, w1, T1, A, rel1, t1, Post.wk p1 s3 s4⟩
      | true => exact p1.same t1 (r.wk s1 s2)
    · exact p1.elim
def dIf (κ : EM Bool) (e f : EM D) : EM D := fun env w => (κ env w).bind fun b w => if b then e env w else f env w
theorem ge_if {κ : EM Bool} (hc : GT X E c κ) (ha : GE X E ar1 ac1 a ea) (hb : GE X E ar2 ac2 b eb) (s1 : ar1 ⊆ ar := by simp) (s2 : ac1 ⊆ ac := by simp) (s3 : ar2 ⊆ ar := by simp) (s4 : ac2 ⊆ ac := by simp) : GE X E ar ac (.IfExp c a b pos) (dIf κ ea eb) :=
  pe_mono (pe_ifExp hc ha hb) fun σ H Q ⟨env, w, T, A, rel, t, p⟩ => goB (P := fun T H r => Post X.K X.mg E T A ar ac H Q r) (fun _ _ _ _ h => h) (fun _ _ h => h) (fun _ _ _ _ _ h x => h.ext x) rel t p fun k w1 H1 T1 x t1 rel1 p1 => by
    cases k with
    | true => exact ⟨env, w1, T1, A, rel1, t1, Post.wk p1 s1 s2⟩
    | false => exact ⟨env, w1, T1, A, rel1, t1, Post.wk p1 s3 s4⟩
/-! a < b < c -/
def dChain (g g' : D → D → M D) (e f h : EM D) : EM D := fun env w => (e env w).bind fun x w => (f env w).bind fun y w => (g x y w).bind fun z w => (boolM z w).bind fun k w => if k then (h env w).bind fun u w => g' y u w else .ok (.bl false) w
theorem ge_chain {op op' : CmpOp} {r r' : R2} {g g' : D → D → M D} (ho : OpR X (compareOp op) r) (ho' : OpR X (compareOp op') r') (hg : ∀ E, OpG X.K X.mg E ac [] [] r g) (hg' : OpG X.K X.mg E ac [] [] r' g') (ha : GE X E ar1 ac1 a ea) (hb : GE X E ar2 ac2 b eb) (hc : GE X E ar3 ac3 c ec)
    (s1 : ac1 ⊆ ac := by simp) (s2 : ac2 ⊆ ac := by simp) (s3 : ac3 ⊆ ac := by simp) (hm : lastMarks [op, op'] [b, c] = false := by with_unfolding_all rfl) : GE X E [] [] (.Compare a [op, op'] [b, c] pos) (dChain g g' ea eb ec) :=
  pe_mono (pe_chain ho ho' ha hb hc hm) fun σ H Q ⟨env, w, T, A, rel, t, p⟩ => by
    refine go1 (f := fun x w => (eb env w).bind fun y w => (g x y w).bind fun z w => (boolM z w).bind fun k w => if k then (ec env w).bind fun u w => g' y u w else .ok (.bl false) w) rel t p fun d1 w1 v1 H1 T1 x1 t1 rel1 r1 p1 => ?_
    refine go1 (f := fun y w => (g d1 y w).bind fun z w => (boolM z w).bind fun k w => if k then (ec env w).bind fun u w => g' y u w else .ok (.bl false) w) rel1 t1 p1 fun d2 w2 v2 H2 T2 x2 t2 rel2 r2 p2 => ?_
    refine hg E T2 A H2 w2 _ (ar1 ++ ar2) d1 v1 d2 v2 (rel2.fr t2) ((rep2_ext r1 x2).wk (by simp) s1) (r2.wk (by simp) s2) ?_
    cases q : g d1 d2 w2 with
    | ok d w3 =>
      rw [q] at p2
      intro v H' T' x t' rp
      cases d with
      | bl k =>
        refine ⟨k, bl_of rp, ?_⟩
        have p3 := Post.ext p2 x
        have rel3 := rel2.ext x
        cases k with
        | false => exact p3.bl t'
        | true =>
          exact go1 (f := fun u w => g' d2 u w) rel3 t' p3 fun d3 w3 v3 H3 T3 x3 t3 rel3 r3 p3 => hg' T3 A H3 w3 Q (ar2 ++ ar3) d2 v2 d3 v3 (rel3.fr t3) ((rep2_ext (rep2_ext r2 x) x3).wk (by simp) s2) (r3.wk (by simp) s3) p3
      | _ => exact p2.elim
    | ex e w => rw [q] at p2; exact p2
    | st => rw [q] at p2; exact p2
theorem gt_chain {op op' : CmpOp} {r r' : R2} {g g' : D → D → M D} (ho : OpR X (compareOp op) r) (ho' : OpR X (compareOp op') r') (hg : ∀ E, OpG X.K X.mg E ac [] [] r g) (hg' : ∀ E, OpG X.K X.mg E ac [] [] r' g') (ha : GE X E ar1 ac1 a ea) (hb : GE X E ar2 ac2 b eb) (hc : GE X E ar3 ac3 c ec)
    (s1 : ac1 ⊆ ac := by simp) (s2 : ac2 ⊆ ac := by simp) (s3 : ac3 ⊆ ac := by simp) (hm : lastMarks [op, op'] [b, c] = false := by with_unfolding_all rfl) : GT X E (.Compare a [op, op'] [b, c] pos) (dB (dChain g g' ea eb ec)) :=
  pt_mono (pt_chain ho ho' ha hb hc hm) fun σ H Q ⟨env, w, T, A, rel, t, p⟩ => by
    have e : dB (dChain g g' ea eb ec) env w = (ea env w).bind fun x w => (eb env w).bind fun y w => (g x y w).bind fun z w => (boolM z w).bind fun k w => if k then (ec env w).bind fun u w => (g' y u w).bind boolM else .ok false w := by
      unfold dB dChain
      cases ea env w with
      | ok x w =>
        show Res.bind (Res.bind (eb env w) _) _ = Res.bind (eb env w) _
        cases eb env w with
        | ok y w =>
          show Res.bind (Res.bind (g x y w) _) _ = Res.bind (g x y w) _
          cases g x y w with
          | ok z w =>
            show Res.bind (Res.bind (boolM z w) _) _ = Res.bind (boolM z w) _
            cases boolM z w with
            | ok k w =>
              cases k with
              | true => show Res.bind (Res.bind (ec env w) _) _ = Res.bind (ec env w) _; cases ec env w <;> rfl
              | false => rfl
            | ex e w => rfl
            | st => rfl
          | ex e w => rfl
          | st => rfl
        | ex e w => rfl
        | st => rfl
      | ex e w => rfl
      | st => rfl
    rw [e] at p
    refine goT (f := fun x w => (eb env w).bind fun y w => (g x y w).bind fun z w => (boolM z w).bind fun k w => if k then (ec env w).bind fun u w => (g' y u w).bind boolM else .ok false w) rel t p fun d1 w1 v1 H1 T1 x1 t1 rel1 r1 p1 => ?_
    refine goT (f := fun y w => (g d1 y w).bind fun z w => (boolM z w).bind fun k w => if k then (ec env w).bind fun u w => (g' y u w).bind boolM else .ok false w) rel1 t1 p1 fun d2 w2 v2 H2 T2 x2 t2 rel2 r2 p2 => ?_
    refine hg E T2 A H2 w2 _ (ar1 ++ ar2) d1 v1 d2 v2 (rel2.fr t2) ((rep2_ext r1 x2).wk (by simp) s1) (r2.wk (by simp) s2) ?_
    cases q : g d1 d2 w2 with
    | ok d w3 =>
      rw [q] at p2
      intro v H' T' x t' rp
      cases d with
      | bl k =>
        refine ⟨k, bl_of rp, ?_⟩
        have p3 := PostT.ext p2 x
        have rel3 := rel2.ext x
        cases k with
        | false => exact ⟨false, rfl, p3 H' T' .refl t'⟩
        | true =>
          refine goT (f := fun u w => (g' d2 u w).bind boolM) rel3 t' p3 fun d3 w3 v3 H3 T3 x3 t3 rel3 r3 p3 => hg' E T3 A H3 w3 _ (ar2 ++ ar3) d2 v2 d3 v3 (rel3.fr t3) ((rep2_ext (rep2_ext r2 x) x3).wk (by simp) s2) (r3.wk (by simp) s3) ?_
          cases q : g' d2 d3 w3 with
          | ok d w3 =>
            rw [q] at p3
            intro v H' T' x t' rp
            cases d with
            | bl b => exact ⟨b, bl_of rp, p3 H' T' x t'⟩
            | _ => exact p3.elim
          | ex e w => rw [q] at p3; exact p3
          | st => rw [q] at p3; exact p3
      | _ => exact p2.elim
    | ex e w => rw [q] at p2; exact p2
    | st => rw [q] at p2; exact p2
/-! - and not -/
def unI' (g : Int → Int) : D → M D
  | .int i => fun w => .ok (.int (g i)) w
  | _ => fun _ => .st
def dNeg (e : EM D) : EM D := fun env w => (e env w).bind (unI' fun i => -i)
theorem ge_neg (h : GE X E ar ac a ea) : GE X E [] [] (.UnaryOp .USub a pos) (dNeg ea) :=
  pe_mono (pe_un un_neg h) fun σ H Q ⟨env, w, T, A, rel, t, p⟩ => go1 rel t p fun d w1 v H1 T1 x t1 rel1 r p1 => by
    unfold unI' at p1
    split at p1
    · exact ⟨_, int_of r, p1.int t1⟩
    · exact p1.elim
end
end DL
namespace DL
open PySem PySem.Spec PyProof.Rows L2
/-! ### argument lists, displays -/
def PostA (K : PySem.W.Frag) (mg : Mg) (E : XK) (T : Tt) (A : Nat → Option Addr) (al : List Nat) (H : Hp) (Q : List V → Hp → Prop) : Res (List D) → Prop
  | .ok ds w => ∀ vs H' T', Ext T H T' H' → Tins H' T' w → Reps K mg T' (Bad T' A al) H' ds vs → Q vs H'
  | .ex e w => ∀ cls oa H' T', Ext T H T' H' → Tins H' T' w → XR mg e cls oa H' → E cls oa H'
  | .st => False
def liftA (K : PySem.W.Frag) (mg : Mg) (E : XK) (al : List Nat) (α : EM (List D)) : TA := fun σ H Q => ∃ env w T A, RelS K mg T A σ H env ∧ Tins H T w ∧ PostA K mg E T A al H Q (α env w)
def GA (X : Cx) (E : XK) (al : List Nat) (es : List Expr) (α : EM (List D)) : Prop := PA X es (liftA X.K X.mg E al α)
theorem pa_mono {X : Cx} {e : List Expr} {t u : TA} (h : PA X e t) (m : ∀ σ H Q, u σ H Q → t σ H Q) : PA X e u := ⟨fun pos pins s σ H Q I q => h.run pos pins s σ H Q I (m _ _ _ q)⟩
section
variable {X : Cx} {E : XK} {al al1 ar ac ar1 ac1 ar2 ac2 : List Nat} {a b : Expr} {es : List Expr} {pos : Pos} {ea eb : EM D} {K : PySem.W.Frag} {mg : Mg}
theorem PostA.ext {T A H T' H' Q} {r : Res (List D)} (h : PostA K mg E T A al H Q r) (x : Ext T H T' H') : PostA K mg E T' A al H' Q r := by
  cases r with
  | ok d w => exact fun v H2 T2 y t r => h v H2 T2 (x.trans y) t r
  | ex e w => exact fun c o H2 T2 y t r => h c o H2 T2 (x.trans y) t r
  | st => exact h
theorem goA1 {T A σ H env w} {Q : List V → Hp → Prop} {ε : EM D} {f : D → W → Res (List D)} {R : VK} (rel : RelS K mg T A σ H env) (t : Tins H T w) (hp : PostA K mg E T A al H Q ((ε env w).bind f))
    (k : ∀ d w1 v H1 T1, Ext T H T1 H1 → Tins H1 T1 w1 → RelS K mg T1 A σ H1 env → Rep2 K mg T1 A ar ac H1 d v → PostA K mg E T1 A al H1 Q (f d w1) → R v H1) : liftE K mg E ar ac ε σ H R :=
  goP (P := fun T H r => PostA K mg E T A al H Q r) (fun _ _ _ _ h => h) (fun _ _ h => h) (fun _ _ _ _ _ h x => h.ext x) rel t hp k
def aNil : EM (List D) := fun _ w => .ok [] w
def aCons (e : EM D) (r : EM (List D)) : EM (List D) := fun env w => (e env w).bind fun d w => (r env w).bind fun ds w => .ok (d :: ds) w
theorem ga_nil : GA X E [] [] aNil := pa_mono pa_nil fun σ H Q ⟨env, w, T, A, rel, t, p⟩ => p [] H T .refl t .nil
theorem ga_cons {α : EM (List D)} (ha : GE X E ar ac a ea) (hr : GA X E al1 es α) (s1 : ar ⊆ al := by simp) (s2 : ac ⊆ al := by simp) (s3 : al1 ⊆ al := by simp) (hs : starEach (a :: es) X.env = (false, eval a X.env) :: starEach es X.env := by rfl) : GA X E al (a :: es) (aCons ea α) :=
  pa_mono (pa_cons ha hr hs) fun σ H Q ⟨env, w, T, A, rel, t, p⟩ => goA1 (f := fun d w => (α env w).bind fun ds w => .ok (d :: ds) w) rel t p fun d w1 v H1 T1 x t1 rel1 r p1 => by
    refine ⟨env, w1, T1, A, rel1, t1, ?_⟩
    cases q : α env w1 with
    | ok ds w2 =>
      rw [q] at p1
      exact fun vs H2 T2 x2 t2 rs => p1 (v :: vs) H2 T2 x2 t2 (.cons ((rep2_ext r x2).rep s1 s2) (reps_al rs s3))
    | ex e w => rw [q] at p1; exact p1
    | st => rw [q] at p1; exact p1
/-- an argument list, then the rest -/
theorem goA {α' : Type} {T A σ H env w} {P : Tt → Hp → Res α' → Prop} (pex : ∀ T H e w, P T H (.ex e w) → ∀ cls oa H' T', Ext T H T' H' → Tins H' T' w → XR mg e cls oa H' → E cls oa H') (pst : ∀ T H, ¬ P T H .st) (pext : ∀ T H T' H' r, P T H r → Ext T H T' H' → P T' H' r)
    {α : EM (List D)} {f : List D → W → Res α'} {R : List V → Hp → Prop} (rel : RelS K mg T A σ H env) (t : Tins H T w) (hp : P T H ((α env w).bind f))
    (k : ∀ ds w1 vs H1 T1, Ext T H T1 H1 → Tins H1 T1 w1 → RelS K mg T1 A σ H1 env → Reps K mg T1 (Bad T1 A al) H1 ds vs → P T1 H1 (f ds w1) → R vs H1) : liftA K mg E al α σ H R := by
  refine ⟨env, w, T, A, rel, t, ?_⟩
  cases q : α env w with
  | ok d w1 =>
    rw [q] at hp
    exact fun vs H1 T1 x t1 rs => k d w1 vs H1 T1 x t1 (rel.ext x) rs (pext T H T1 H1 (f d w1) hp x)
  | ex e w1 => rw [q] at hp; exact pex _ _ _ _ hp
  | st => rw [q] at hp; exact (pst _ _ hp).elim
theorem goAE {T A σ H env w} {Q : VK} {α : EM (List D)} {f : List D → W → Res D} {R : List V → Hp → Prop} (rel : RelS K mg T A σ H env) (t : Tins H T w) (hp : Post K mg E T A ar ac H Q ((α env w).bind f))
    (k : ∀ ds w1 vs H1 T1, Ext T H T1 H1 → Tins H1 T1 w1 → RelS K mg T1 A σ H1 env → Reps K mg T1 (Bad T1 A al) H1 ds vs → Post K mg E T1 A ar ac H1 Q (f ds w1) → R vs H1) : liftA K mg E al α σ H R :=
  goA (P := fun T H r => Post K mg E T A ar ac H Q r) (fun _ _ _ _ h => h) (fun _ _ h => h) (fun _ _ _ _ _ h x => h.ext x) rel t hp k
theorem goAF {T A σ H env w} {Q : VK} {α : EM (List D)} {f : List D → W → Res (List D)} {R : List V → Hp → Prop} (rel : RelS K mg T A σ H env) (t : Tins H T w) (hp : PostF K mg E T A ac H Q ((α env w).bind f))
    (k : ∀ ds w1 vs H1 T1, Ext T H T1 H1 → Tins H1 T1 w1 → RelS K mg T1 A σ H1 env → Reps K mg T1 (Bad T1 A al) H1 ds vs → PostF K mg E T1 A ac H1 Q (f ds w1) → R vs H1) : liftA K mg E al α σ H R :=
  goA (P := fun T H r => PostF K mg E T A ac H Q r) (fun _ _ _ _ h => h) (fun _ _ h => h) (fun _ _ _ _ _ h x => h.ext x) rel t hp k
def dTup (α : EM (List D)) : EM D := fun env w => (α env w).bind fun ds w => if ds.length ≤ sizeLine then .ok (.tup ds) w else .st
def dLst (α : EM (List D)) : EM (List D) := fun env w => (α env w).bind fun ds w => if ds.length ≤ sizeLine then .ok ds w else .st
theorem ge_tup {x1} {α : EM (List D)} (h : GA X E al es α) : GE X E [] al (.Tuple es x1 pos) (dTup α) :=
  pe_mono (pe_tup h) fun σ H Q ⟨env, w, T, A, rel, t, p⟩ => goAE rel t p fun ds w1 vs H1 T1 x t1 rel1 r p1 => by
    split at p1
    · rename_i z
      rw [r.len] at z
      exact ⟨z, fun q n => p1.tup (rel1.fr t1) r z n⟩
    · exact p1.elim
theorem gf_lst {α : EM (List D)} (h : GA X E al es α) : GF X E al (.List es pos) (dLst α) :=
  pe_mono (pe_lst h) fun σ H Q ⟨env, w, T, A, rel, t, p⟩ => goAF rel t p fun ds w1 vs H1 T1 x t1 rel1 r p1 => by
    split at p1
    · rename_i z
      rw [r.len] at z
      exact ⟨z, fun q n => p1.lst (rel1.fr t1) r z n⟩
    · exact p1.elim

/-! ### items -/
def ixD : D → D → M D
  | .tup ds, .int i => fun w => match atI ds i with
    | some d => .ok d w
    | none => .st
  | .lst ds, .int i => fun w => match atI ds i with
    | some d => .ok d w
    | none => .st
  | .str z, .int i => fun w => if z.length ≤ sizeLine then (match atI z.cps.toList i with
    | some c => .ok (.str ⟨#[c]⟩) w
    | none => .st) else .st
  | .box b, .int i => fun w => match w[b]? with
    | some t => (match atI [D.int t.1, D.int t.2.1, D.int t.2.2] i with
      | some d => .ok d w
      | none => .st)
    | none => .st
  | _, _ => fun _ => .st
theorem at_rep {T B H} {ds : List D} {vs : List V} {i : Int} {d : D} (r : Reps K mg T B H ds vs) (h : atI ds i = some d) : ∃ v, atI vs i = some v ∧ Rep K mg T B H d v := by
  unfold atI at h ⊢
  rw [← r.len]
  cases q : ixN ds.length i with
  | none => rw [q] at h; cases h
  | some j => rw [q] at h; exact r.get h
theorem og_ix {al : List Nat} : OpG K mg E al al al (rIx K) ixD := by
  intro T A H w Q ar d1 v1 d2 v2 f r1 r2 p
  unfold ixD at p
  split at p
  · obtain ⟨a, vs, rfl, l1, q1⟩ := tp_of r1
    split at p
    · rename_i d e
      obtain ⟨v, e2, rv⟩ := at_rep q1 e
      exact .inr (.inl ⟨a, vs, _, v, rfl, int_of r2, l1.sq, e2, p.same f.tins (rep2_of rv)⟩)
    · exact p.elim
  · obtain ⟨a, vs, rfl, l1, q1⟩ := r1
    split at p
    · rename_i d e
      obtain ⟨v, e2, rv⟩ := at_rep q1 e
      exact .inl ⟨a, vs, _, v, rfl, int_of r2, l1.sq, e2, p.same f.tins (rep2_of rv)⟩
    · exact p.elim
  · split at p
    · rename_i z
      split at p
      · rename_i c e
        exact .inr (.inr ⟨_, _, c, str_of r1, int_of r2, z, e, p.str f.tins⟩)
      · exact p.elim
    · exact p.elim
  · rename_i b i
    have r1 : Rep K mg T (Bad T A al) H (.box b) v1 := r1
    cases r1 with
    | box hb =>
      rename_i a
      cases qw : w[b]? with
      | none => simp only [qw] at p; exact p.elim
      | some t =>
        simp only [qw] at p
        split at p
        · rename_i d e
          have hh := f.tins.2.2.1 b a t hb qw
          obtain ⟨v, e2, rv⟩ := at_rep (K := K) (mg := mg) (T := T) (B := Bad T A al) (H := H) (vs := [.int t.1, .int t.2.1, .int t.2.2]) (.cons (.int _) (.cons (.int _) (.cons (.int _) .nil))) e
          exact .inl ⟨a, _, _, v, rfl, int_of r2, .inl (.inl hh), e2, p.same f.tins (rep2_of rv)⟩
        · exact p.elim
  · exact p.elim
theorem ge_ix (ha : GE X E ar1 ac1 a ea) (hb : GE X E ar2 ac2 b eb) (hs : PlainIx b := by exact fun _ _ => rfl) (s1 : ac1 ⊆ ac := by simp) (s2 : ac2 ⊆ ac := by simp) : GE X E ac ac (.Subscript a b pos) (dBin ixD ea eb) :=
  pe_mono (pe_ix ix_seq ha hb hs) (bin_lift og_ix s1 s2)

/-! ### slices -/
def PostO (mg : Mg) (E : XK) (T : Tt) (H : Hp) (Q : Option Int → Hp → Prop) : Res (Option Int) → Prop
  | .ok b w => ∀ H' T', Ext T H T' H' → Tins H' T' w → Q b H'
  | .ex e w => ∀ cls oa H' T', Ext T H T' H' → Tins H' T' w → XR mg e cls oa H' → E cls oa H'
  | .st => False
def liftO (K : PySem.W.Frag) (mg : Mg) (E : XK) (κ : EM (Option Int)) : TO := fun σ H Q => ∃ env w T A, RelS K mg T A σ H env ∧ Tins H T w ∧ PostO mg E T H Q (κ env w)
def GO (X : Cx) (E : XK) (e : Option Expr) (κ : EM (Option Int)) : Prop := PO X e (liftO X.K X.mg E κ)
theorem po_mono {e : Option Expr} {t u : TO} (h : PO X e t) (m : ∀ σ H Q, u σ H Q → t σ H Q) : PO X e u := ⟨fun pins s σ H Q I q => h.run pins s σ H Q I (m _ _ _ q)⟩
theorem PostO.ext {T H T' H' Q} {r : Res (Option Int)} (h : PostO mg E T H Q r) (x : Ext T H T' H') : PostO mg E T' H' Q r := by
  cases r with
  | ok d w => exact fun H2 T2 y t => h H2 T2 (x.trans y) t
  | ex e w => exact fun c o H2 T2 y t r => h c o H2 T2 (x.trans y) t r
  | st => exact h
def oNo : EM (Option Int) := fun _ w => .ok none w
def intM : D → M (Option Int)
  | .int i => fun w => .ok (some i) w
  | _ => fun _ => .st
def oSo (e : EM D) : EM (Option Int) := fun env w => (e env w).bind intM
theorem go_none : GO X E none oNo := po_mono po_none fun σ H Q ⟨env, w, T, A, rel, t, p⟩ => p H T .refl t
theorem go_some (h : GE X E ar ac a ea) : GO X E (some a) (oSo ea) := po_mono (po_some h) fun σ H Q ⟨env, w, T, A, rel, t, p⟩ =>
  goP (P := fun T H r => PostO X.mg E T H Q r) (fun _ _ _ _ h => h) (fun _ _ h => h) (fun _ _ _ _ _ h x => h.ext x) rel t p fun d w1 v H1 T1 x t1 rel1 r p1 => by
    unfold intM at p1
    split at p1
    · exact ⟨_, int_of r, p1 H1 T1 .refl t1⟩
    · exact p1.elim
theorem goO {α : Type} {T A σ H env w} {P : Tt → Hp → Res α → Prop} (pex : ∀ T H e w, P T H (.ex e w) → ∀ cls oa H' T', Ext T H T' H' → Tins H' T' w → XR mg e cls oa H' → E cls oa H') (pst : ∀ T H, ¬ P T H .st) (pext : ∀ T H T' H' r, P T H r → Ext T H T' H' → P T' H' r)
    {κ : EM (Option Int)} {f : Option Int → W → Res α} {R : Option Int → Hp → Prop} (rel : RelS K mg T A σ H env) (t : Tins H T w) (hp : P T H ((κ env w).bind f))
    (k : ∀ b w1 H1 T1, Ext T H T1 H1 → Tins H1 T1 w1 → RelS K mg T1 A σ H1 env → P T1 H1 (f b w1) → R b H1) : liftO K mg E κ σ H R := by
  refine ⟨env, w, T, A, rel, t, ?_⟩
  cases q : κ env w with
  | ok d w1 =>
    rw [q] at hp
    exact fun H1 T1 x t1 => k d w1 H1 T1 x t1 (rel.ext x) (pext T H T1 H1 (f d w1) hp x)
  | ex e w1 => rw [q] at hp; exact pex _ _ _ _ hp
  | st => rw [q] at hp; exact (pst _ _ hp).elim
def cutG {α : Type} (xs : List α) (lo hi : Option Int) : List α := (xs.drop (HT.sIx xs.length 0 lo)).take (HT.sIx xs.length xs.length hi - HT.sIx xs.length 0 lo)
def slD : D → Option Int → Option Int → M D
  | .tup ds, lo, hi => fun w => .ok (.tup (cutG ds lo hi)) w
  | .str z, lo, hi => fun w => if z.length ≤ sizeLine then .ok (.str (cutS z lo hi)) w else .st
  | .lst ds, lo, hi => fun w => .ok (.lst (cutG ds lo hi)) w
  | _, _, _ => fun _ => .st
def slF : D → Option Int → Option Int → M (List D)
  | .lst ds, lo, hi => fun w => .ok (cutG ds lo hi) w
  | .scr ns, lo, hi => fun w => if ns.length ≤ sizeLine then .ok (cutG (ns.map D.int) lo hi) w else .st
  | _, _, _ => fun _ => .st
theorem reps_ints {T B H} : ∀ (ns : List Int), Reps K mg T B H (ns.map D.int) (ns.map V.int)
  | [] => .nil
  | n :: ns => .cons (.int n) (reps_ints ns)
theorem cut_rep {T B H} {ds : List D} {vs : List V} (r : Reps K mg T B H ds vs) (lo hi : Option Int) : Reps K mg T B H (cutG ds lo hi) (cutV vs lo hi) := by
  unfold cutG cutV
  rw [r.len]
  exact (r.drop _).take _
theorem sx_le (n : Nat) (o : Option Int) : HT.sIx n 0 o ≤ n := HT.sIx_le n 0 (Nat.zero_le _) o
theorem cut_all {α : Type} {xs : List α} {lo hi : Option Int} (h : HT.sIx xs.length 0 lo = 0 ∧ HT.sIx xs.length xs.length hi = xs.length) : cutG xs lo hi = xs := by
  unfold cutG
  rw [h.1, h.2]; simp
def dSl {α : Type} (g : D → Option Int → Option Int → M α) (e : EM D) (lo hi : EM (Option Int)) : EM α := fun env w => (e env w).bind fun d w => (lo env w).bind fun l w => (hi env w).bind fun h w => g d l h w
theorem ge_slice {lo hi : Option Expr} {κ μ : EM (Option Int)} {p2 : Pos} (he : GE X E ar ac a ea) (hl : GO X E lo κ) (hu : GO X E hi μ) : GE X E ac ac (.Subscript a (.Slice lo hi none p2) pos) (dSl slD ea κ μ) :=
  pe_mono (pe_slice (sl_tupA.or (sl_str.or sl_list)) he hl hu) fun σ H Q ⟨env, w, T, A, rel, t, p⟩ => by
    refine go1 (f := fun d w => (κ env w).bind fun l w => (μ env w).bind fun h w => slD d l h w) rel t p fun d w1 v H1 T1 x1 t1 rel1 r1 p1 => ?_
    refine goO (P := fun T H r => Post X.K X.mg E T A ac ac H Q r) (fun _ _ _ _ h => h) (fun _ _ h => h) (fun _ _ _ _ _ h x => h.ext x) rel1 t1 p1 fun l w2 H2 T2 x2 t2 rel2 p2 => ?_
    refine goO (P := fun T H r => Post X.K X.mg E T A ac ac H Q r) (fun _ _ _ _ h => h) (fun _ _ h => h) (fun _ _ _ _ _ h x => h.ext x) rel2 t2 p2 fun h w3 H3 T3 x3 t3 rel3 p3 => ?_
    have r3 := rep2_ext (rep2_ext r1 x2) x3
    unfold slD at p3
    split at p3
    · obtain ⟨q, vs, rfl, l1, q1⟩ := tp_of r3
      refine .inl ⟨q, vs, rfl, l1.sq, fun e => ?_, fun _ n hn => p3.tup (rel3.fr t3) (cut_rep q1 _ _) ?_ hn⟩
      · rw [← q1.len] at e
        rw [cut_all e] at p3
        exact p3.same t3 (show Rep _ _ _ _ _ (.tup _) _ from .tup l1 q1)
      · exact Nat.le_trans (cutV_length _ _ _) l1.size
    · split at p3
      · rename_i z
        exact .inr (.inl ⟨_, str_of r3, z, p3.str t3⟩)
      · exact p3.elim
    · obtain ⟨q, vs, rfl, l1, q1⟩ := r3
      exact .inr (.inr ⟨q, vs, rfl, l1.sq, fun n hn => p3.lstNew (rel3.fr t3) (cut_rep q1 _ _) (Nat.le_trans (cutV_length _ _ _) l1.size) hn⟩)
    · exact p3.elim
theorem gf_slice {lo hi : Option Expr} {κ μ : EM (Option Int)} {p2 : Pos} (he : GE X E ar ac a ea) (hl : GO X E lo κ) (hu : GO X E hi μ) : GF X E ac (.Subscript a (.Slice lo hi none p2) pos) (dSl slF ea κ μ) :=
  pe_mono (pe_slice sl_list he hl hu) fun σ H Q ⟨env, w, T, A, rel, t, p⟩ => by
    refine goF (f := fun d w => (κ env w).bind fun l w => (μ env w).bind fun h w => slF d l h w) rel t p fun d w1 v H1 T1 x1 t1 rel1 r1 p1 => ?_
    refine goO (P := fun T H r => PostF X.K X.mg E T A ac H Q r) (fun _ _ _ _ h => h) (fun _ _ h => h) (fun _ _ _ _ _ h x => h.ext x) rel1 t1 p1 fun l w2 H2 T2 x2 t2 rel2 p2 => ?_
    refine goO (P := fun T H r => PostF X.K X.mg E T A ac H Q r) (fun _ _ _ _ h => h) (fun _ _ h => h) (fun _ _ _ _ _ h x => h.ext x) rel2 t2 p2 fun h w3 H3 T3 x3 t3 rel3 p3 => ?_
    have r3 := rep2_ext (rep2_ext r1 x2) x3
    unfold slF at p3
    split at p3
    · obtain ⟨q, vs, rfl, l1, q1⟩ := r3
      exact ⟨q, vs, rfl, l1.sq, fun n hn => p3.lst (rel3.fr t3) (cut_rep q1 _ _) (Nat.le_trans (cutV_length _ _ _) l1.size) hn⟩
    · rename_i ns
      have r3 : Rep X.K X.mg T3 (Bad T3 A ac) H3 (.scr ns) v := r3
      split at p3
      · rename_i hz
        cases r3 with
        | scr h1 => exact ⟨_, _, rfl, h1.sq, fun n hn => p3.lst (rel3.fr t3) (cut_rep (reps_ints ns) _ _) (Nat.le_trans (cutV_length _ _ _) (by rw [List.length_map]; exact hz)) hn⟩
      · exact p3.elim
    · exact p3.elim

/-! ### built-ins of one, of two arguments -/
def Op1 (K : PySem.W.Frag) (mg : Mg) (E : XK) (ar ac ar' ac' : List Nat) (r : List V → Hp → VK → Prop) (g : D → M D) : Prop :=
  ∀ T A H w Q d v, Fr T A H w → Rep2 K mg T A ar ac H d v → Post K mg E T A ar' ac' H Q (g d w) → r [v] H Q
def Op1F (K : PySem.W.Frag) (mg : Mg) (E : XK) (ar ac ac' : List Nat) (r : List V → Hp → VK → Prop) (g : D → M (List D)) : Prop :=
  ∀ T A H w Q d v, Fr T A H w → Rep2 K mg T A ar ac H d v → PostF K mg E T A ac' H Q (g d w) → r [v] H Q
def dUn {α : Type} (g : D → M α) (e : EM D) : EM α := fun env w => (e env w).bind g
theorem un_lift {r : List V → Hp → VK → Prop} {g : D → M D} (hg : Op1 X.K X.mg E ar1 ac1 ar ac r g) : ∀ σ H Q, liftE X.K X.mg E ar ac (dUn g ea) σ H Q → tCB r (tCons (liftE X.K X.mg E ar1 ac1 ea) tNil) σ H Q := fun σ H Q ⟨env, w, T, A, rel, t, p⟩ =>
  go1 rel t p fun d w1 v H1 T1 x t1 rel1 r p1 => hg T1 A H1 w1 Q d v (rel1.fr t1) r p1
theorem unF_lift {r : List V → Hp → VK → Prop} {g : D → M (List D)} (hg : Op1F X.K X.mg E ar1 ac1 ac r g) : ∀ σ H Q, liftF X.K X.mg E ac (dUn g ea) σ H Q → tCB r (tCons (liftE X.K X.mg E ar1 ac1 ea) tNil) σ H Q := fun σ H Q ⟨env, w, T, A, rel, t, p⟩ =>
  goF rel t p fun d w1 v H1 T1 x t1 rel1 r p1 => hg T1 A H1 w1 Q d v (rel1.fr t1) r p1
section calls
variable {x : Str} {id Ty : String} {p : Pos} {r : List V → Hp → VK → Prop}
theorem ge_b1 {g : D → M D} (hc : CallR X (.builtin id) r) (hg : Op1 X.K X.mg E ar1 ac1 ar ac r g) (hm : X.mg x = none) (hv : bootBuiltins x = some (.builtin id)) (ha : GE X E ar1 ac1 a ea) (hgl : Gl X x := by rfl) (hn : x ≠ "__name__" := by decide) (hdb : (x == ("__debug__" : Str)) = false := by decide)
    (hs : starEach [a] X.env = (false, eval a X.env) :: starEach [] X.env := by rfl) (hpl : (backTo pos (starEach [] X.env)).any (·.1) = false := by rfl) : GE X E ar ac (.Call (.Name x p) [a] [] pos) (dUn g ea) :=
  pe_mono (pe_callB hc hgl hm hv (pa_cons ha pa_nil hs) hn hdb hs hpl) (un_lift hg)
theorem ge_t1 {g : D → M D} (hc : CallR X (.type Ty) r) (hg : Op1 X.K X.mg E ar1 ac1 ar ac r g) (hm : X.mg x = none) (hv : bootBuiltins x = some (.type Ty)) (ha : GE X E ar1 ac1 a ea) (hgl : Gl X x := by rfl) (hn : x ≠ "__name__" := by decide) (hdb : (x == ("__debug__" : Str)) = false := by decide)
    (hs : starEach [a] X.env = (false, eval a X.env) :: starEach [] X.env := by rfl) (hpl : (backTo pos (starEach [] X.env)).any (·.1) = false := by rfl) : GE X E ar ac (.Call (.Name x p) [a] [] pos) (dUn g ea) :=
  pe_mono (pe_callTy hc hgl hm hv (pa_cons ha pa_nil hs) hn hdb hs hpl) (un_lift hg)
theorem gf_b1 {g : D → M (List D)} (hc : CallR X (.builtin id) r) (hg : Op1F X.K X.mg E ar1 ac1 ac r g) (hm : X.mg x = none) (hv : bootBuiltins x = some (.builtin id)) (ha : GE X E ar1 ac1 a ea) (hgl : Gl X x := by rfl) (hn : x ≠ "__name__" := by decide) (hdb : (x == ("__debug__" : Str)) = false := by decide)
    (hs : starEach [a] X.env = (false, eval a X.env) :: starEach [] X.env := by rfl) (hpl : (backTo pos (starEach [] X.env)).any (·.1) = false := by rfl) : GF X E ac (.Call (.Name x p) [a] [] pos) (dUn g ea) :=
  pe_mono (pe_callB hc hgl hm hv (pa_cons ha pa_nil hs) hn hdb hs hpl) (unF_lift hg)
theorem gf_t1 {g : D → M (List D)} (hc : CallR X (.type Ty) r) (hg : Op1F X.K X.mg E ar1 ac1 ac r g) (hm : X.mg x = none) (hv : bootBuiltins x = some (.type Ty)) (ha : GE X E ar1 ac1 a ea) (hgl : Gl X x := by rfl) (hn : x ≠ "__name__" := by decide) (hdb : (x == ("__debug__" : Str)) = false := by decide)
    (hs : starEach [a] X.env = (false, eval a X.env) :: starEach [] X.env := by rfl) (hpl : (backTo pos (starEach [] X.env)).any (·.1) = false := by rfl) : GF X E ac (.Call (.Name x p) [a] [] pos) (dUn g ea) :=
  pe_mono (pe_callTy hc hgl hm hv (pa_cons ha pa_nil hs) hn hdb hs hpl) (unF_lift hg)
/-- two arguments -/
theorem ge_b2 {al : List Nat} {g : D → D → M D} (hc : CallR X (.builtin id) r) (hg : OpG X.K X.mg E al ar ac (fun x y H Q => r [x, y] H Q) g) (hm : X.mg x = none) (hv : bootBuiltins x = some (.builtin id)) (ha : GE X E ar1 ac1 a ea) (hb : GE X E ar2 ac2 b eb) (s1 : ac1 ⊆ al := by simp) (s2 : ac2 ⊆ al := by simp) (hgl : Gl X x := by rfl) (hn : x ≠ "__name__" := by decide) (hdb : (x == ("__debug__" : Str)) = false := by decide)
    (hs : starEach [a, b] X.env = (false, eval a X.env) :: starEach [b] X.env := by rfl) (hs2 : starEach [b] X.env = (false, eval b X.env) :: starEach [] X.env := by rfl) (hpl : (backTo pos (starEach [b] X.env)).any (·.1) = false := by rfl) : GE X E ar ac (.Call (.Name x p) [a, b] [] pos) (dBin g ea eb) :=
  pe_mono (pe_callB hc hgl hm hv (pa_cons ha (pa_cons hb pa_nil hs2) hs) hn hdb hs hpl) fun σ H Q h => bin_lift (ar1 := ar1) (ar2 := ar2) hg s1 s2 σ H Q h
end calls
/-! abs, max, min, len, int, str, list, tuple, sum, all, any -/
def absD : D → M D
  | .int i => fun w => .ok (.int (if i < 0 then -i else i)) w
  | _ => fun _ => .st
theorem o1_abs {K mg} : Op1 K mg E ar ac [] [] (fun xs H Q => ∃ i, xs = [.int i] ∧ Q (.int (if i < 0 then -i else i)) H) absD := by
  intro T A H w Q d v f r p
  unfold absD at p
  split at p
  · exact ⟨_, by rw [int_of r], p.int f.tins⟩
  · exact p.elim
def maxD : D → D → M D := intG tt2 fun i j => .int (if j > i then j else i)
def minD : D → D → M D := intG tt2 fun i j => .int (if j < i then j else i)
theorem og_max {K mg} {al : List Nat} : OpG K mg E al [] [] (fun x y H Q => ∃ i j, [x, y] = [.int i, .int j] ∧ Q (.int (if j > i then j else i)) H) maxD := fun T A H w Q ar d1 v1 d2 v2 f r1 r2 p => by
  obtain ⟨i, j, e1, e2, _, q⟩ := og_int (C := tt2) (gv := fun i j => .int (if j > i then j else i)) (fun i j => .inl ⟨_, rfl, rfl⟩) T A H w Q ar d1 v1 d2 v2 f r1 r2 p
  exact ⟨i, j, by rw [e1, e2], q⟩
theorem og_min {K mg} {al : List Nat} : OpG K mg E al [] [] (fun x y H Q => ∃ i j, [x, y] = [.int i, .int j] ∧ Q (.int (if j < i then j else i)) H) minD := fun T A H w Q ar d1 v1 d2 v2 f r1 r2 p => by
  obtain ⟨i, j, e1, e2, _, q⟩ := og_int (C := tt2) (gv := fun i j => .int (if j < i then j else i)) (fun i j => .inl ⟨_, rfl, rfl⟩) T A H w Q ar d1 v1 d2 v2 f r1 r2 p
  exact ⟨i, j, by rw [e1, e2], q⟩
def lenD : D → M D
  | .tup ds => fun w => .ok (.int ds.length) w
  | .lst ds => fun w => .ok (.int ds.length) w
  | .scr ns => fun w => .ok (.int ns.length) w
  | .str z => fun w => if z.length ≤ sizeLine then .ok (.int z.length) w else .st
  | _ => fun _ => .st
theorem o1_len {K mg} : Op1 K mg E ar ac [] [] (fun xs H Q => ∃ x n, xs = [x] ∧ LenV K x H n ∧ Q (.int n) H) lenD := by
  intro T A H w Q d v f r p
  unfold lenD at p
  split at p
  · obtain ⟨a, vs, rfl, l, q⟩ := tp_of r
    exact ⟨_, _, rfl, .inr ⟨vs, l.sq, q.len⟩, p.int f.tins⟩
  · obtain ⟨a, vs, rfl, l, q⟩ := r
    exact ⟨_, _, rfl, .inl ⟨vs, l.sq, q.len⟩, p.int f.tins⟩
  · cases (show Rep K mg T (Bad T A ac) H (.scr _) v from r) with
    | scr h1 => exact ⟨_, _, rfl, .inl ⟨_, h1.sq, by simp⟩, p.int f.tins⟩
  · split at p
    · rename_i z
      exact ⟨_, _, rfl, by rw [str_of r]; exact ⟨z, rfl⟩, p.int f.tins⟩
    · exact p.elim
  · exact p.elim
def toIntD : D → M D
  | .int i => fun w => .ok (.int i) w
  | .bl b => fun w => .ok (.int (if b then 1 else 0)) w
  | .str a => fun w => match PySem.intText? a with
    | some n => if a.length ≤ 640 then .ok (.int n) w else .st
    | none => .st
  | _ => fun _ => .st
def rIntD : List V → Hp → VK → Prop := fun xs H Q => ((∃ i, xs = [.int i] ∧ Q (.int i) H) ∨ ∃ k, xs = [.bl k] ∧ Q (.int (if k then 1 else 0)) H) ∨ (∃ a n, xs = [.str a] ∧ PySem.intText? a = some n ∧ a.length ≤ 640 ∧ Q (.int n) H)
theorem cr_intD : CallR X (.type "int") rIntD := call_int1.or call_int_str
theorem o1_int {K mg} : Op1 K mg E ar ac [] [] rIntD toIntD := by
  intro T A H w Q d v f r p
  unfold toIntD at p
  split at p
  · exact .inl (.inl ⟨_, by rw [int_of r], p.int f.tins⟩)
  · exact .inl (.inr ⟨_, by rw [bl_of r], p.int f.tins⟩)
  · split at p
    · rename_i n e
      split at p
      · rename_i z
        exact .inr ⟨_, n, by rw [str_of r], e, z, p.int f.tins⟩
      · exact p.elim
    · exact p.elim
  · exact p.elim
def strD : D → M D
  | .int i => fun w => if i.natAbs.log2 < 1920 then .ok (.str (toString i)) w else .st
  | _ => fun _ => .st
theorem o1_str {K mg} : Op1 K mg E ar ac [] [] (fun xs H Q => ∃ i : Int, xs = [.int i] ∧ i.natAbs.log2 < 1920 ∧ Q (.str (toString i)) H) strD := by
  intro T A H w Q d v f r p
  unfold strD at p
  split at p
  · split at p
    · rename_i z
      exact ⟨_, by rw [int_of r], z, p.str f.tins⟩
    · exact p.elim
  · exact p.elim
def listF : D → M (List D)
  | .tup ds => fun w => .ok ds w
  | .lst ds => fun w => .ok ds w
  | _ => fun _ => .st
theorem o1_list {K mg} : Op1F K mg E ar ac ac (fun xs H Q => ∃ p ys, xs = [.ref p] ∧ (SqL K H p ys ∨ SqT K H p ys) ∧ ∀ l, H l = none → Q (.ref l) (upd H l (.lst ys))) listF := by
  intro T A H w Q d v f r p
  unfold listF at p
  split at p
  · obtain ⟨a, vs, rfl, l, q⟩ := tp_of r
    exact ⟨a, vs, rfl, .inr l.sq, fun n hn => p.lst f q l.size hn⟩
  · obtain ⟨a, vs, rfl, l, q⟩ := r
    exact ⟨a, vs, rfl, .inl l.sq, fun n hn => p.lst f q l.size hn⟩
  · exact p.elim
def tupleD : D → M D
  | .tup ds => fun w => .ok (.tup ds) w
  | .lst ds => fun w => .ok (.tup ds) w
  | _ => fun _ => .st
theorem o1_tuple {K mg} : Op1 K mg E ar ac [] ac (fun xs H Q => ∃ p ys, xs = [.ref p] ∧ ((SqL K H p ys ∧ ∀ l, H l = none → Q (.ref l) (upd H l (.tup ys))) ∨ (SqT K H p ys ∧ Q (.ref p) H))) tupleD := by
  intro T A H w Q d v f r p
  unfold tupleD at p
  split at p
  · obtain ⟨a, vs, rfl, l, q⟩ := tp_of r
    exact ⟨a, vs, rfl, .inr ⟨l.sq, p.same f.tins (show Rep K mg T (Bad T A ac) H (.tup _) (.ref a) from .tup l q)⟩⟩
  · obtain ⟨a, vs, rfl, l, q⟩ := r
    exact ⟨a, vs, rfl, .inl ⟨l.sq, fun n hn => p.tup f q l.size hn⟩⟩
  · exact p.elim
/-- the ints, the truth values of a list -/
def intsOf : List D → Option (List Int)
  | [] => some []
  | .int i :: ds => (intsOf ds).map (i :: ·)
  | _ => none
def blsOf : List D → Option (List Bool)
  | [] => some []
  | .bl i :: ds => (blsOf ds).map (i :: ·)
  | _ => none
theorem ints_rep {K mg T B H} : ∀ {ds : List D} {vs : List V} {ns : List Int}, Reps K mg T B H ds vs → intsOf ds = some ns → vs = ns.map V.int := by
  intro ds
  induction ds with
  | nil => intro vs ns r e; cases r; cases e; rfl
  | cons d ds ih =>
    intro vs ns r e
    cases r with
    | cons r1 r2 =>
      cases r1 <;> try cases e
      rename_i i
      have e : (intsOf ds).map (i :: ·) = some ns := e
      cases q : intsOf ds with
      | none => rw [q] at e; cases e
      | some ms => rw [q] at e; cases e; rw [ih r2 q]; rfl
theorem bls_rep {K mg T B H} : ∀ {ds : List D} {vs : List V} {ns : List Bool}, Reps K mg T B H ds vs → blsOf ds = some ns → vs = ns.map V.bl := by
  intro ds
  induction ds with
  | nil => intro vs ns r e; cases r; cases e; rfl
  | cons d ds ih =>
    intro vs ns r e
    cases r with
    | cons r1 r2 =>
      cases r1 <;> try cases e
      rename_i i
      have e : (blsOf ds).map (i :: ·) = some ns := e
      cases q : blsOf ds with
      | none => rw [q] at e; cases e
      | some ms => rw [q] at e; cases e; rw [ih r2 q]; rfl
def lstI (g : List Int → D) : D → M D
  | .lst ds => fun w => match intsOf ds with
    | some ns => .ok (g ns) w
    | none => .st
  | _ => fun _ => .st
def lstB (g : List Bool → D) : D → M D
  | .lst ds => fun w => match blsOf ds with
    | some ns => .ok (g ns) w
    | none => .st
  | _ => fun _ => .st
def sumD : D → M D := lstI fun ns => .int ns.sum
def allD : D → M D := lstB fun bs => .bl (bs.all id)
def anyD : D → M D := lstB fun bs => .bl (bs.any id)
theorem o1_sum {K mg} : Op1 K mg E ar ac [] [] (rSum K) sumD := by
  intro T A H w Q d v f r p
  unfold sumD lstI at p
  split at p
  · obtain ⟨a, vs, rfl, l, q⟩ := r
    split at p
    · rename_i ns e
      exact ⟨a, ns, rfl, by rw [← ints_rep q e]; exact l.sq, p.int f.tins⟩
    · exact p.elim
  · exact p.elim
theorem o1_all {K mg} : Op1 K mg E ar ac [] [] (rAll K) allD := by
  intro T A H w Q d v f r p
  unfold allD lstB at p
  split at p
  · obtain ⟨a, vs, rfl, l, q⟩ := r
    split at p
    · rename_i ns e
      exact ⟨a, ns, rfl, by rw [← bls_rep q e]; exact l.sq, p.bl f.tins⟩
    · exact p.elim
  · exact p.elim
theorem o1_any {K mg} : Op1 K mg E ar ac [] [] (rAny K) anyD := by
  intro T A H w Q d v f r p
  unfold anyD lstB at p
  split at p
  · obtain ⟨a, vs, rfl, l, q⟩ := r
    split at p
    · rename_i ns e
      exact ⟨a, ns, rfl, by rw [← bls_rep q e]; exact l.sq, p.bl f.tins⟩
    · exact p.elim
  · exact p.elim
/-- the greatest, the least of a list that is not empty -/
def greatest : List Int → Option Int
  | [] => none
  | x :: r => some (r.foldl (fun m y => if y > m then y else m) x)
def least : List Int → Option Int
  | [] => none
  | x :: r => some (r.foldl (fun m y => if y < m then y else m) x)
theorem holds_ints {h : Heap} : ∀ {us : List Value} {ns : List Int}, IntsAre us ns → PySem.W.HoldAll h us ns
  | _, _, .nil => .nil
  | _, _, .cons n t r => .cons ⟨_, .int n t⟩ (holds_ints r)
theorem greatest_mem : ∀ (r : List Int) (x : Int), r.foldl (fun m y => if y > m then y else m) x ∈ x :: r ∧ ∀ y ∈ x :: r, y ≤ r.foldl (fun m y => if y > m then y else m) x
  | [], x => by simp
  | z :: r, x => by
    rw [List.foldl_cons]
    by_cases hz : z > x
    · rw [if_pos hz]
      have h := greatest_mem r z
      have h0 := h.2 _ List.mem_cons_self
      exact ⟨List.mem_cons_of_mem _ h.1, fun y hy => by
        rcases List.mem_cons.mp hy with e | hy
        · subst e; omega
        · exact h.2 y hy⟩
    · rw [if_neg hz]
      have h := greatest_mem r x
      have h0 := h.2 _ List.mem_cons_self
      refine ⟨?_, fun y hy => ?_⟩
      · rcases List.mem_cons.mp h.1 with e | e
        · rw [e]; simp
        · simp [e]
      · rcases List.mem_cons.mp hy with e | hy
        · subst e; exact h0
        · rcases List.mem_cons.mp hy with e | hy
          · subst e; omega
          · exact h.2 y (List.mem_cons_of_mem _ hy)
theorem least_mem : ∀ (r : List Int) (x : Int), r.foldl (fun m y => if y < m then y else m) x ∈ x :: r ∧ ∀ y ∈ x :: r, r.foldl (fun m y => if y < m then y else m) x ≤ y
  | [], x => by simp
  | z :: r, x => by
    rw [List.foldl_cons]
    by_cases hz : z < x
    · rw [if_pos hz]
      have h := least_mem r z
      have h0 := h.2 _ List.mem_cons_self
      exact ⟨List.mem_cons_of_mem _ h.1, fun y hy => by
        rcases List.mem_cons.mp hy with e | hy
        · subst e; omega
        · exact h.2 y hy⟩
    · rw [if_neg hz]
      have h := least_mem r x
      have h0 := h.2 _ List.mem_cons_self
      refine ⟨?_, fun y hy => ?_⟩
      · rcases List.mem_cons.mp h.1 with e | e
        · rw [e]; simp
        · simp [e]
      · rcases List.mem_cons.mp hy with e | hy
        · subst e; exact h0
        · rcases List.mem_cons.mp hy with e | hy
          · subst e; omega
          · exact h.2 y (List.mem_cons_of_mem _ hy)
def maxL : D → M D
  | .lst ds => fun w => match (intsOf ds).bind greatest with
    | some n => .ok (.int n) w
    | none => .st
  | .tup ds => fun w => match (intsOf ds).bind greatest with
    | some n => .ok (.int n) w
    | none => .st
  | _ => fun _ => .st
def minL : D → M D
  | .lst ds => fun w => match (intsOf ds).bind least with
    | some n => .ok (.int n) w
    | none => .st
  | .tup ds => fun w => match (intsOf ds).bind least with
    | some n => .ok (.int n) w
    | none => .st
  | _ => fun _ => .st
def rMaxA (K : PySem.W.Frag) : List V → Hp → VK → Prop := fun vs H Q => rMax K vs H Q ∨ ∃ (a : Addr) (ns : List Int), vs = [V.ref a] ∧ SqT K H a (ns.map V.int) ∧ 0 < ns.length ∧ ∀ m, m ∈ ns → (∀ y, y ∈ ns → y ≤ m) → Q (.int m) H
theorem cr_maxA (hc : X.calm = true) (hu : X.A.units + 64 < cLine) : CallR X (.builtin "max") (rMaxA X.K) := by
  intro pins s σ H vs us Q I r h
  rcases h with h | ⟨a, ns, rfl, hs, hne, q⟩
  · exact cr_max hc pins s σ H vs us Q I r h
  · obtain ⟨its, rv, hl, _⟩ := I.tuple hs
    rw [Vals.ref1 r]
    cases ns with
    | nil => simp at hne
    | cons x xs =>
      refine PySem.W.max_tuple_datum (α := Int) (vs := its.toArray) (x := x) (xs := xs) (I.ok.hd hc) hl (holds_ints rv.ints) (by have : PySem.W.Datum.depth Int ≤ 63 := (by decide); omega) fun i v h' tk hv hh hk => ?_
      obtain ⟨as, rd⟩ := hh
      cases rd with
      | int _ t =>
        have g := greatest_mem xs x
        have e : PySem.W.maxOf x xs = xs.foldl (fun m y => if y > m then y else m) x := by
          unfold PySem.W.maxOf
          congr 1
          funext a y
          show (if decide (a < y) = true then y else a) = _
          by_cases h : a < y <;> simp [h]
        rw [← e] at g
        exact ⟨.int _, H, I.kept hk, ⟨_, rfl⟩, q _ g.1 g.2⟩
theorem o1_maxL {K mg} : Op1 K mg E ar ac [] [] (rMaxA K) maxL := by
  intro T A H w Q d v f r p
  unfold maxL at p
  split at p
  · rename_i ds
    obtain ⟨a, vs, rfl, l, q⟩ := r
    cases e : intsOf ds with
    | none => rw [e] at p; exact p.elim
    | some ns =>
      cases ns with
      | nil => rw [e] at p; exact p.elim
      | cons x r =>
        rw [e] at p
        refine .inl ⟨a, x :: r, rfl, by rw [← ints_rep q e]; exact l.sq, by simp, fun m hm hl => ?_⟩
        have g := greatest_mem r x
        have e2 : m = r.foldl (fun m y => if y > m then y else m) x := Int.le_antisymm (g.2 m hm) (hl _ g.1)
        rw [e2]
        exact Post.int (i := r.foldl (fun m y => if y > m then y else m) x) p f.tins
  · rename_i ds
    obtain ⟨a, vs, rfl, l, q⟩ := tp_of r
    cases e : intsOf ds with
    | none => rw [e] at p; exact p.elim
    | some ns =>
      cases ns with
      | nil => rw [e] at p; exact p.elim
      | cons x r =>
        rw [e] at p
        refine .inr ⟨a, x :: r, rfl, by rw [← ints_rep q e]; exact l.sq, by simp, fun m hm hl => ?_⟩
        have g := greatest_mem r x
        have e2 : m = r.foldl (fun m y => if y > m then y else m) x := Int.le_antisymm (g.2 m hm) (hl _ g.1)
        rw [e2]
        exact Post.int (i := r.foldl (fun m y => if y > m then y else m) x) p f.tins
  · exact p.elim
def rMinA (K : PySem.W.Frag) : List V → Hp → VK → Prop := fun vs H Q => rMin K vs H Q ∨ ∃ (a : Addr) (ns : List Int), vs = [V.ref a] ∧ SqT K H a (ns.map V.int) ∧ 0 < ns.length ∧ ∀ m, m ∈ ns → (∀ y, y ∈ ns → m ≤ y) → Q (.int m) H
theorem cr_minA (hc : X.calm = true) (hu : X.A.units + 64 < cLine) : CallR X (.builtin "min") (rMinA X.K) := by
  intro pins s σ H vs us Q I r h
  rcases h with h | ⟨a, ns, rfl, hs, hne, q⟩
  · exact cr_min hc pins s σ H vs us Q I r h
  · obtain ⟨its, rv, hl, _⟩ := I.tuple hs
    rw [Vals.ref1 r]
    cases ns with
    | nil => simp at hne
    | cons x xs =>
      refine PySem.W.min_tuple_datum (α := Int) (vs := its.toArray) (x := x) (xs := xs) (I.ok.hd hc) hl (holds_ints rv.ints) (by have : PySem.W.Datum.depth Int ≤ 63 := (by decide); omega) fun i v h' tk hv hh hk => ?_
      obtain ⟨as, rd⟩ := hh
      cases rd with
      | int _ t =>
        have g := least_mem xs x
        have e : PySem.W.minOf x xs = xs.foldl (fun m y => if y < m then y else m) x := by
          unfold PySem.W.minOf
          congr 1
          funext a y
          show (if decide (y < a) = true then y else a) = _
          by_cases h : y < a <;> simp [h]
        rw [← e] at g
        exact ⟨.int _, H, I.kept hk, ⟨_, rfl⟩, q _ g.1 g.2⟩
theorem o1_minL {K mg} : Op1 K mg E ar ac [] [] (rMinA K) minL := by
  intro T A H w Q d v f r p
  unfold minL at p
  split at p
  · rename_i ds
    obtain ⟨a, vs, rfl, l, q⟩ := r
    cases e : intsOf ds with
    | none => rw [e] at p; exact p.elim
    | some ns =>
      cases ns with
      | nil => rw [e] at p; exact p.elim
      | cons x r =>
        rw [e] at p
        refine .inl ⟨a, x :: r, rfl, by rw [← ints_rep q e]; exact l.sq, by simp, fun m hm hl => ?_⟩
        have g := least_mem r x
        have e2 : m = r.foldl (fun m y => if y < m then y else m) x := Int.le_antisymm (hl _ g.1) (g.2 m hm)
        rw [e2]
        exact Post.int (i := r.foldl (fun m y => if y < m then y else m) x) p f.tins
  · rename_i ds
    obtain ⟨a, vs, rfl, l, q⟩ := tp_of r
    cases e : intsOf ds with
    | none => rw [e] at p; exact p.elim
    | some ns =>
      cases ns with
      | nil => rw [e] at p; exact p.elim
      | cons x r =>
        rw [e] at p
        refine .inr ⟨a, x :: r, rfl, by rw [← ints_rep q e]; exact l.sq, by simp, fun m hm hl => ?_⟩
        have g := least_mem r x
        have e2 : m = r.foldl (fun m y => if y < m then y else m) x := Int.le_antisymm (hl _ g.1) (g.2 m hm)
        rw [e2]
        exact Post.int (i := r.foldl (fun m y => if y < m then y else m) x) p f.tins
  · exact p.elim

/-! isinstance -/
def tyD : D → Option String
  | .non => some "NoneType" | .bl _ => some "bool" | .int _ => some "int" | .str _ => some "str"
  | .tup _ => some "tuple" | .lst _ => some "list" | .scr _ => some "list" | _ => none
def subTy (t c : String) : Bool := t == c || (t == "bool" && c == "int")
def isiD (cs : List String) (d : D) : M D := fun w => match tyD d with
  | some t => .ok (.bl (cs.any (subTy t))) w
  | none => .st
theorem ty_rep {K mg T A ar ac H d v t} (r : Rep2 K mg T A ar ac H d v) (h : tyD d = some t) : TyX K H v (.type t) := by
  have r := r.rep (al := ar ++ ac) (by simp) (by simp)
  cases r with
  | non => cases h; exact .base .non
  | bl b => cases h; exact .base (.bl b)
  | int b => cases h; exact .base (.int b)
  | str b => cases h; exact .base (.str b)
  | tup l _ =>
    cases h
    rcases l with ⟨_, _, l⟩ | ⟨_, l⟩
    · exact .base (.tup l)
    · rcases l with (l | ⟨_, l⟩) | ⟨o, its, n, hk, hc, _⟩
      · cases l
      · cases l
      · exact .kTuple hk hc
  | lst l _ => cases h; exact .base (.lst l.2.2)
  | fn _ => cases h
  | box _ => cases h
  | scr l =>
    cases h
    rcases l with ⟨_, _, l⟩ | l
    · exact .base (.frz l)
    · rcases l with (l | ⟨_, l⟩) | ⟨o, its, n, hk, hc, _⟩
      · cases l
      · cases l
      · exact .kList hk hc
theorem kit_sub {d : D} {t : String} (h : tyD d = some t) {c : String} (hc : c ∈ ["int", "str", "bool", "list", "tuple"]) : kitB t c = some (subTy t c) := by
  have ht : t ∈ ["NoneType", "bool", "int", "str", "tuple", "list"] := by
    cases d <;> (first | cases h; done | (cases h; simp))
  have all : ∀ t ∈ ["NoneType", "bool", "int", "str", "tuple", "list"], ∀ c ∈ ["int", "str", "bool", "list", "tuple"], kitB t c = some (subTy t c) := by decide +kernel
  exact all t ht c hc
/-- a class's name as a value -/
def ClsN (X : Cx) (e : Expr) (c : String) : Prop := PE X e (tC (.ty c))
theorem cls_n {x : Str} {c : String} {p : Pos} (hm : X.mg x = none) (hv : bootBuiltins x = some (.type c)) (hg : Gl X x := by rfl) (hn : x ≠ "__name__" := by decide) (hd : (x == ("__debug__" : Str)) = false := by decide) : ClsN X (.Name x p) c := pe_bltn hg hm hv rfl hn hd
theorem ge_isi {x : Str} {p : Pos} {c : String} (hm : X.mg x = none) (hv : bootBuiltins x = some (.builtin "isinstance")) (ha : GE X E ar1 ac1 a ea) (hb : ClsN X b c) (hc : c ∈ ["int", "str", "bool", "list", "tuple"] := by decide) (hgl : Gl X x := by rfl) (hn : x ≠ "__name__" := by decide) (hdb : (x == ("__debug__" : Str)) = false := by decide)
    (hs : starEach [a, b] X.env = (false, eval a X.env) :: starEach [b] X.env := by rfl) (hs2 : starEach [b] X.env = (false, eval b X.env) :: starEach [] X.env := by rfl) (hpl : (backTo pos (starEach [b] X.env)).any (·.1) = false := by rfl) : GE X E [] [] (.Call (.Name x p) [a, b] [] pos) (dUn (isiD [c]) ea) :=
  pe_mono (pe_callB call_isi hgl hm hv (pa_cons ha (pa_cons hb pa_nil hs2) hs) hn hdb hs hpl) fun σ H Q ⟨env, w, T, A, rel, t, p⟩ =>
    go1 rel t p fun d w1 v H1 T1 x t1 rel1 r p1 => by
      unfold isiD at p1
      split at p1
      · rename_i t' e
        refine ⟨v, .ty c, _, .type c, _, rfl, .ty c, ty_rep r e, kit_ty (kit_sub e hc), ?_⟩
        have z := p1.bl t1
        simpa using z
      · exact p1.elim
theorem kit_any {K : PySem.W.Frag} {d : D} {t : String} (h : tyD d = some t) : ∀ cs : List String, (∀ c ∈ cs, c ∈ ["int", "str", "bool", "list", "tuple"]) → PySem.W.kitAny K (.type t) (cs.map Value.type) = some (cs.any (subTy t)) := by
  intro cs
  induction cs with
  | nil => intro _; rfl
  | cons c cs ih =>
    intro hc
    have h1 := kit_ty (K := K) (kit_sub h (hc c List.mem_cons_self))
    refine kitAny_cons h1 (fun hb => ?_) fun hb => ?_
    · rw [ih fun c m => hc c (List.mem_cons_of_mem _ m)]; simp [hb]
    · simp [hb]
theorem ge_isi2 {x : Str} {p p2 : Pos} {k : Nat} {e1 e2 : Expr} {c1 c2 : String} (hm : X.mg x = none) (hv : bootBuiltins x = some (.builtin "isinstance")) (ha : GE X E ar1 ac1 a ea) (h1 : ClsN X e1 c1) (h2 : ClsN X e2 c2) (hc : ∀ c ∈ [c1, c2], c ∈ ["int", "str", "bool", "list", "tuple"] := by decide) (hgl : Gl X x := by rfl) (hn : x ≠ "__name__" := by decide) (hdb : (x == ("__debug__" : Str)) = false := by decide)
    (hs : starEach [a, .Tuple [e1, e2] k p2] X.env = (false, eval a X.env) :: starEach [.Tuple [e1, e2] k p2] X.env := by rfl) (hs2 : starEach [.Tuple [e1, e2] k p2] X.env = (false, eval (.Tuple [e1, e2] k p2) X.env) :: starEach [] X.env := by rfl)
    (hs3 : starEach [e1, e2] X.env = (false, eval e1 X.env) :: starEach [e2] X.env := by rfl) (hs4 : starEach [e2] X.env = (false, eval e2 X.env) :: starEach [] X.env := by rfl) (hpl : (backTo pos (starEach [.Tuple [e1, e2] k p2] X.env)).any (·.1) = false := by rfl) :
    GE X E [] [] (.Call (.Name x p) [a, .Tuple [e1, e2] k p2] [] pos) (dUn (isiD [c1, c2]) ea) :=
  pe_mono (pe_callB call_isiT hgl hm hv (pa_cons ha (pa_cons (pe_tup (pa_cons h1 (pa_cons h2 pa_nil hs4) hs3)) pa_nil hs2) hs) hn hdb hs hpl) fun σ H Q ⟨env, w, T, A, rel, t, p⟩ =>
    go1 rel t p fun d w1 v H1 T1 x t1 rel1 r p1 => by
      unfold isiD at p1
      split at p1
      · rename_i t' e
        refine ⟨show 2 ≤ sizeLine by decide, fun q hq => ⟨v, q, [.ty c1, .ty c2], .type t', [.type c1, .type c2], _, rfl, upd_same, .cons (.ty c1) (.cons (.ty c2) .nil), ty_rep (rep2_ext r (Ext.new (T := T1) hq)) e, kit_any e [c1, c2] hc, ?_⟩⟩
        exact Post.bl (i := [c1, c2].any (subTy t')) (p1.ext (.new hq)) (t1.new hq)
      · exact p1.elim
end
end DL
namespace DL
open PySem PySem.Spec PyProof.Rows L2
abbrev Ow := Nat → Option Addr
/-- what statements may do -/
structure Step (T : Tt) (A : Ow) (H : Hp) (T' : Tt) (A' : Ow) (H' : Hp) : Prop where
  pre : ∃ N : List Addr, T' = T ++ N ∧ ∀ a ∈ N, H a = none
  kp : ∀ a o, a ∉ T.l → (∀ i, A i ≠ some a) → H a = some o → H' a = some o
  there : ∀ a, H a ≠ none → H' a ≠ none
  own : ∀ i a, A' i = some a → (∃ j, A j = some a) ∨ H a = none
theorem Step.keep {T A H T' A' H'} (x : Step T A H T' A' H') (a : Addr) (o : HO) (n : ¬ Bad T A [] a) (h : H a = some o) : H' a = some o := x.kp a o (fun m => n (.inl (.inl m))) (fun i e => n (.inr ⟨i, by simp, e⟩)) h
def erA (A : Ow) (j : Nat) : Ow := fun k => if k = j then none else A k
def addA (A : Ow) (j : Nat) (a : Addr) : Ow := fun k => if k = j then some a else A k
def frz1 (env : Env) (j : Nat) : Env := match env[j]? with
  | some (.ow (.lst ds)) => env.set j (.fz (.lst ds))
  | some (.ow _) => env.set j .un
  | _ => env
def frzs (env : Env) (al : List Nat) : Env := al.foldl frz1 env
def erAs (A : Ow) (al : List Nat) : Ow := al.foldl erA A
section
variable {K : PySem.W.Frag} {mg : Mg} {T T' T'' : Tt} {A A' A'' : Ow} {H H' H'' : Hp} {σ : L2.St} {env : Env} {w : W} {al : List Nat} {i j : Nat} {a : Addr} {d : D} {v : V}
theorem Step.refl : Step T A H T A H := ⟨⟨[], by simp [app_nil]⟩, fun _ _ _ _ h => h, fun _ h => h, fun i a e => .inl ⟨i, e⟩⟩
theorem Step.of_ext (x : Ext T H T' H') : Step T A H T' A H' := ⟨x.pre, fun a o n _ e => x.kp a o n e, x.there, fun i a e => .inl ⟨i, e⟩⟩
theorem Step.trans (x : Step T A H T' A' H') (y : Step T' A' H' T'' A'' H'') : Step T A H T'' A'' H'' := by
  obtain ⟨N, e, hN⟩ := x.pre
  obtain ⟨N', e', hN'⟩ := y.pre
  have hn : ∀ a, H' a = none → H a = none := fun a h => by
    cases q : H a with
    | none => rfl
    | some o => exact absurd h (x.there a (by rw [q]; intro z; cases z))
  refine ⟨⟨N ++ N', by rw [e', e, app_app], fun a ha => ?_⟩, fun a o n n2 h => ?_, fun a h => y.there a (x.there a h), fun i a h => ?_⟩
  · rcases List.mem_append.mp ha with h | h
    · exact hN a h
    · exact hn a (hN' a h)
  · refine y.kp a o (fun m => ?_) (fun i m => ?_) (x.kp a o n n2 h)
    · rw [e, app_l] at m
      rcases List.mem_append.mp m with m | m
      · exact n m
      · rw [hN a m] at h; cases h
    · rcases x.own i a m with ⟨j, m⟩ | m
      · exact n2 j m
      · rw [m] at h; cases h
  · rcases y.own i a h with ⟨j, h⟩ | h
    · exact x.own j a h
    · exact .inr (hn a h)
theorem Step.ext (x : Step T (fun _ => none) H T' A' H') : Ext T H T' H' := ⟨x.pre, fun a o n e => x.kp a o n (fun _ z => nomatch z) e, x.there⟩
theorem Step.bad (x : Step T A H T' A' H') {b : Addr} (n : H b ≠ none) (m : Bad T' A' [] b) : Bad T A [] b := by
  obtain ⟨N, e, hN⟩ := x.pre
  rcases m with m | ⟨i, _, m⟩
  · rw [e] at m
    rcases app_mem.mp m with m | m
    · exact .inl m
    · exact absurd (hN b m) n
  · rcases x.own i b m with ⟨j, m⟩ | m
    · exact .inr ⟨j, by simp, m⟩
    · exact absurd m n
theorem Step.at (x : Step T A H T' A' H') (i : Nat) (a : Addr) (h : T.l[i]? = some a) : T'.l[i]? = some a := by
  obtain ⟨N, e, _⟩ := x.pre
  rw [e, app_l, List.getElem?_append_left (List.getElem?_eq_some_iff.mp h).1]; exact h
theorem rep_step (h : Rep K mg T (Bad T A []) H d v) (x : Step T A H T' A' H') : Rep K mg T' (Bad T' A' []) H' d v := Rep.keep x.keep (fun _ n m => x.bad n m) x.at d v h
theorem reps_step {ds : List D} {vs : List V} (h : Reps K mg T (Bad T A []) H ds vs) (x : Step T A H T' A' H') : Reps K mg T' (Bad T' A' []) H' ds vs := Reps.keep x.keep (fun _ n m => x.bad n m) x.at ds vs h
/-- giving up what is owned -/
theorem bad_er {b : Addr} (m : Bad T (erA A j) [] b) : Bad T A [] b := by
  rcases m with m | ⟨i, _, m⟩
  · exact .inl m
  · unfold erA at m
    split at m
    · cases m
    · exact .inr ⟨i, by simp, m⟩
theorem erA_le (h : erA A j i = some a) : A i = some a ∧ i ≠ j := by
  unfold erA at h
  split at h
  · cases h
  · exact ⟨h, by assumption⟩
theorem Step.er : Step T A H T (erA A j) H := ⟨⟨[], by simp [app_nil]⟩, fun _ _ _ _ h => h, fun _ h => h, fun i a e => .inl ⟨i, (erA_le e).1⟩⟩
theorem erA_ne (h : i ≠ j) : erA A j i = A i := by unfold erA; rw [if_neg h]
theorem erA_self : erA A j j = none := by unfold erA; rw [if_pos rfl]
theorem RelS.er (r : RelS K mg T A σ H env) (s : Slot) (hs : SlotOk K mg T (erA A j) H j σ[j]? s) (hn : ∀ d, s ≠ .ow d) : RelS K mg T (erA A j) σ H (env.set j s) where
  len := by rw [List.length_set]; exact r.len
  slot := fun i s' e => by
    by_cases hi : i = j
    · subst hi
      have hl : i < env.length := by
        have z := (List.getElem?_eq_some_iff.mp e).1
        simpa using z
      rw [List.getElem?_set_self hl] at e
      cases e
      exact hs
    · rw [List.getElem?_set_ne (Ne.symm hi)] at e
      have z := r.slot i s' e
      cases s' with
      | un => trivial
      | fz d => obtain ⟨v, e1, e2⟩ := z; exact ⟨v, e1, e2.le fun b m => bad_er m⟩
      | ow d =>
        obtain ⟨b, e1, e2, e3⟩ := z
        refine ⟨b, by rw [erA_ne hi]; exact e1, e2, ?_⟩
        cases e3 with
        | lst h1 h2 h3 => exact .lst h1 h2 (h3.le fun b m => bad_er m)
        | dic h1 h2 h3 => exact .dic h1 h2 (h3.le fun b m => bad_er m)
  inj := fun i k a h1 h2 => r.inj i k a (erA_le h1).1 (erA_le h2).1
  nT := fun i a h => r.nT i a (erA_le h).1
  own := fun i a h hl => by
    obtain ⟨h1, hne⟩ := erA_le h
    rw [List.length_set] at hl
    obtain ⟨d, e⟩ := r.own i a h1 hl
    exact ⟨d, by rw [List.getElem?_set_ne (Ne.symm hne)]; exact e⟩
  ownT := fun i a h => r.ownT i a (erA_le h).1
  bnd := by
    obtain ⟨n, h⟩ := r.bnd
    exact ⟨n, fun i hi => by unfold erA; split; rfl; exact h i hi⟩
theorem RelS.er0 (r : RelS K mg T A σ H env) (hn : ∀ d, env[j]? ≠ some (.ow d)) : RelS K mg T (erA A j) σ H env where
  len := r.len
  slot := fun i s' e => by
    have z := r.slot i s' e
    cases s' with
    | un => trivial
    | fz d => obtain ⟨v, e1, e2⟩ := z; exact ⟨v, e1, e2.le fun b m => bad_er m⟩
    | ow d =>
      obtain ⟨b, e1, e2, e3⟩ := z
      have hi : i ≠ j := fun h => hn d (h ▸ e)
      refine ⟨b, by rw [erA_ne hi]; exact e1, e2, ?_⟩
      cases e3 with
      | lst h1 h2 h3 => exact .lst h1 h2 (h3.le fun b m => bad_er m)
      | dic h1 h2 h3 => exact .dic h1 h2 (h3.le fun b m => bad_er m)
  inj := fun i k a h1 h2 => r.inj i k a (erA_le h1).1 (erA_le h2).1
  nT := fun i a h => r.nT i a (erA_le h).1
  own := fun i a h hl => r.own i a (erA_le h).1 hl
  ownT := fun i a h => r.ownT i a (erA_le h).1
  bnd := by
    obtain ⟨n, h⟩ := r.bnd
    exact ⟨n, fun i hi => by unfold erA; split; rfl; exact h i hi⟩
theorem RelS.frz1 (r : RelS K mg T A σ H env) (j : Nat) : RelS K mg T (erA A j) σ H (frz1 env j) := by
  unfold DL.frz1
  split
  · rename_i ds e
    obtain ⟨a, hA, e1, o⟩ := r.slot j _ e
    cases o with
    | lst h1 h2 h3 =>
      refine r.er _ ⟨.ref a, e1, .lst ⟨fun m => ?_, h2, h1⟩ (h3.le fun b m => bad_er m)⟩ (fun _ z => nomatch z)
      rcases m with m | ⟨k, _, m⟩
      · exact r.nT _ _ hA m
      · obtain ⟨m1, m2⟩ := erA_le m
        exact m2 (r.inj _ _ _ m1 hA)
  · exact r.er _ trivial (fun _ z => nomatch z)
  · rename_i h1 h2
    exact r.er0 fun d z => by
      cases d with
      | lst ds => exact h1 ds z
      | _ => exact h2 _ z
theorem frzs_rel : ∀ (al : List Nat) {A : Ow} {env : Env}, RelS K mg T A σ H env → RelS K mg T (erAs A al) σ H (frzs env al)
  | [], _, _, r => r
  | j :: al, A, env, r => frzs_rel al (r.frz1 j)
theorem erAs_le : ∀ {al : List Nat} {A : Ow} {i : Nat} {a : Addr}, erAs A al i = some a → A i = some a ∧ i ∉ al
  | [], _, _, _, h => ⟨h, by simp⟩
  | j :: al, A, i, a, h => by
    obtain ⟨h1, h2⟩ := erAs_le (al := al) (A := erA A j) h
    obtain ⟨h3, h4⟩ := erA_le h1
    exact ⟨h3, by simp [h2, h4]⟩
theorem erAs_bad {b : Addr} (m : Bad T (erAs A al) [] b) : Bad T A al b := by
  rcases m with m | ⟨i, _, m⟩
  · exact .inl m
  · obtain ⟨h1, h2⟩ := erAs_le m
    exact .inr ⟨i, h2, h1⟩
theorem Step.ers : Step T A H T (erAs A al) H := ⟨⟨[], by simp [app_nil]⟩, fun _ _ _ _ h => h, fun _ h => h, fun i a e => .inl ⟨i, (erAs_le e).1⟩⟩
/-- a slot is set -/
theorem RelS.setFz (r : RelS K mg T A σ H env) (h : Rep K mg T (Bad T A []) H d v) (i : Nat) : RelS K mg T (erA A i) (σ.set i (some v)) H (env.set i (.fz d)) where
  len := by rw [List.length_set, List.length_set]; exact r.len
  slot := fun k s' e => by
    by_cases hi : k = i
    · subst hi
      have hl : k < env.length := by
        have z := (List.getElem?_eq_some_iff.mp e).1
        simpa using z
      rw [List.getElem?_set_self hl] at e
      cases e
      exact ⟨v, by rw [List.getElem?_set_self (by rw [r.len]; exact hl)], h.le fun b m => bad_er m⟩
    · rw [List.getElem?_set_ne (Ne.symm hi)] at e
      have z := r.slot k s' e
      rw [List.getElem?_set_ne (Ne.symm hi)]
      cases s' with
      | un => trivial
      | fz d => obtain ⟨v, e1, e2⟩ := z; exact ⟨v, e1, e2.le fun b m => bad_er m⟩
      | ow d =>
        obtain ⟨b, e1, e2, e3⟩ := z
        refine ⟨b, by rw [erA_ne hi]; exact e1, e2, ?_⟩
        cases e3 with
        | lst h1 h2 h3 => exact .lst h1 h2 (h3.le fun b m => bad_er m)
        | dic h1 h2 h3 => exact .dic h1 h2 (h3.le fun b m => bad_er m)
  inj := fun i k a h1 h2 => r.inj i k a (erA_le h1).1 (erA_le h2).1
  nT := fun i a h => r.nT i a (erA_le h).1
  own := fun k a h hl => by
    obtain ⟨h1, hne⟩ := erA_le h
    rw [List.length_set] at hl
    obtain ⟨d, e⟩ := r.own k a h1 hl
    exact ⟨d, by rw [List.getElem?_set_ne (Ne.symm hne)]; exact e⟩
  ownT := fun i a h => r.ownT i a (erA_le h).1
  bnd := by
    obtain ⟨n, h⟩ := r.bnd
    exact ⟨n, fun i hi => by unfold erA; split; rfl; exact h i hi⟩
theorem addA_self : addA A i a i = some a := by unfold addA; rw [if_pos rfl]
theorem addA_of {k : Nat} {b : Addr} (h : addA A i a k = some b) : (k = i ∧ b = a) ∨ (k ≠ i ∧ A k = some b) := by
  unfold addA at h
  split at h
  · cases h; exact .inl ⟨by assumption, rfl⟩
  · exact .inr ⟨by assumption, h⟩
theorem addA_ne {k : Nat} (h : k ≠ i) : addA A i a k = A k := by unfold addA; rw [if_neg h]
theorem addA_bnd (r : ∃ n, ∀ i, n ≤ i → A i = none) : ∃ n, ∀ k, n ≤ k → addA A i a k = none := by
  obtain ⟨n, h⟩ := r
  exact ⟨n + i + 1, fun k hk => by rw [addA_ne (by omega)]; exact h k (by omega)⟩
theorem bad_add (x : Ext T H T' H') (n : H a = none) {b : Addr} (hb : H b ≠ none) (m : Bad T' (addA A i a) [] b) : Bad T A [] b := by
  rcases m with m | ⟨k, _, m⟩
  · exact .inl (x.back m hb)
  · rcases addA_of m with ⟨_, e⟩ | ⟨_, e⟩
    · rw [e] at hb; exact absurd n hb
    · exact .inr ⟨k, by simp, e⟩
theorem keep_ext (x : Ext T H T' H') : Keep (Bad T A []) H H' := fun a o n e => x.keep a o (fun m => n (.inl m)) e
theorem slot_add {s : Slot} {k : Nat} {y : Option (Option V)} (r : RelS K mg T A σ H env) (e : env[k]? = some s) (x : Ext T H T' H') (n : H a = none) (hi : k ≠ i) (z : SlotOk K mg T A H k y s) : SlotOk K mg T' (addA A i a) H' k y s := by
  cases s with
  | un => trivial
  | fz d => obtain ⟨v, e1, e2⟩ := z; exact ⟨v, e1, Rep.keep (keep_ext x) (fun _ hb m => bad_add x n hb m) x.at _ _ e2⟩
  | ow d =>
    obtain ⟨b, e1, e2, e3⟩ := z
    refine ⟨b, by rw [addA_ne hi]; exact e1, e2, ?_⟩
    cases e3 with
    | lst h1 h2 h3 => exact .lst (x.keep _ _ (r.nT _ _ e1) h1) h2 (Reps.keep (keep_ext x) (fun _ hb m => bad_add x n hb m) x.at _ _ h3)
    | dic h1 h2 h3 => exact .dic (x.keep _ _ (r.nT _ _ e1) h1) h2 (Reps.keep (keep_ext x) (fun _ hb m => bad_add x n hb m) x.at _ _ h3)
/-- a slot takes a new object as its own -/
theorem RelS.setOw (r : RelS K mg T A σ H env) (x : Ext T H T' H') (n : H a = none) (n' : H' a ≠ none) (nT : a ∉ T') (i : Nat) (o : Own K mg T' (Bad T' (addA A i a) []) H' a d) : RelS K mg T' (addA A i a) (σ.set i (some (.ref a))) H' (env.set i (.ow d)) where
  len := by rw [List.length_set, List.length_set]; exact r.len
  slot := fun k s' e => by
    by_cases hi : k = i
    · subst hi
      have hl : k < env.length := by
        have z := (List.getElem?_eq_some_iff.mp e).1
        simpa using z
      rw [List.getElem?_set_self hl] at e
      cases e
      exact ⟨a, addA_self, by rw [List.getElem?_set_self (by rw [r.len]; exact hl)], o⟩
    · rw [List.getElem?_set_ne (Ne.symm hi)] at e
      rw [List.getElem?_set_ne (Ne.symm hi)]
      exact slot_add r e x n hi (r.slot k s' e)
  inj := fun k l b h1 h2 => by
    rcases addA_of h1 with ⟨e1, e2⟩ | ⟨e1, e2⟩ <;> rcases addA_of h2 with ⟨e3, e4⟩ | ⟨e3, e4⟩
    · omega
    · rw [e2] at e4; exact absurd n (r.ownT _ _ e4)
    · rw [e4] at e2; exact absurd n (r.ownT _ _ e2)
    · exact r.inj _ _ _ e2 e4
  nT := fun k b h => by
    rcases addA_of h with ⟨_, e⟩ | ⟨_, e⟩
    · rw [e]; exact nT
    · exact fun m => r.nT _ _ e (x.back m (r.ownT _ _ e))
  own := fun k b h hl => by
    rw [List.length_set] at hl
    rcases addA_of h with ⟨e, _⟩ | ⟨hne, e⟩
    · subst e; exact ⟨d, by rw [List.getElem?_set_self hl]⟩
    · obtain ⟨d', e'⟩ := r.own k b e hl
      exact ⟨d', by rw [List.getElem?_set_ne (Ne.symm hne)]; exact e'⟩
  ownT := fun k b h => by
    rcases addA_of h with ⟨_, e⟩ | ⟨_, e⟩
    · rw [e]; exact n'
    · exact x.there b (r.ownT _ _ e)
  bnd := addA_bnd r.bnd
/-- .. a place beyond the slots -/
theorem RelS.setPh (r : RelS K mg T A σ H env) (x : Ext T H T' H') (n : H a = none) (n' : H' a ≠ none) (nT : a ∉ T') (hi : env.length ≤ i) : RelS K mg T' (addA A i a) σ H' env where
  len := r.len
  slot := fun k s' e => slot_add r e x n (by have z := (List.getElem?_eq_some_iff.mp e).1; omega) (r.slot k s' e)
  inj := fun k l b h1 h2 => by
    rcases addA_of h1 with ⟨e1, e2⟩ | ⟨e1, e2⟩ <;> rcases addA_of h2 with ⟨e3, e4⟩ | ⟨e3, e4⟩
    · omega
    · rw [e2] at e4; exact absurd n (r.ownT _ _ e4)
    · rw [e4] at e2; exact absurd n (r.ownT _ _ e2)
    · exact r.inj _ _ _ e2 e4
  nT := fun k b h => by
    rcases addA_of h with ⟨_, e⟩ | ⟨_, e⟩
    · rw [e]; exact nT
    · exact fun m => r.nT _ _ e (x.back m (r.ownT _ _ e))
  own := fun k b h hl => by
    rcases addA_of h with ⟨e, _⟩ | ⟨hne, e⟩
    · omega
    · exact r.own k b e hl
  ownT := fun k b h => by
    rcases addA_of h with ⟨_, e⟩ | ⟨_, e⟩
    · rw [e]; exact n'
    · exact x.there b (r.ownT _ _ e)
  bnd := addA_bnd r.bnd
theorem keep_upd {o : HO} (m : Bad T A [] a) : Keep (Bad T A []) H (upd H a o) := fun b u n e => by
  by_cases h : b = a
  · subst h; exact absurd m n
  · rw [upd_ne h]; exact e
theorem there_upd {o : HO} {b : Addr} (h : H b ≠ none) : upd H a o b ≠ none := by
  by_cases e : b = a
  · rw [e, upd_same]; intro z; cases z
  · rw [upd_ne e]; exact h
/-- what a slot owns is changed -/
theorem RelS.mut (r : RelS K mg T A σ H env) (hA : A i = some a) {o : HO} (os : i < env.length → Own K mg T (Bad T A []) (upd H a o) a d) : RelS K mg T A σ (upd H a o) (env.set i (.ow d)) where
  len := by rw [List.length_set]; exact r.len
  slot := fun k s' e => by
    have kb : Keep (Bad T A []) H (upd H a o) := keep_upd (.inr ⟨i, by simp, hA⟩)
    by_cases hi : k = i
    · subst hi
      have hl : k < env.length := by
        have z := (List.getElem?_eq_some_iff.mp e).1
        simpa using z
      rw [List.getElem?_set_self hl] at e
      cases e
      obtain ⟨d0, e0⟩ := r.own k a hA hl
      obtain ⟨b, e1, e2, _⟩ := r.slot k _ e0
      rw [hA] at e1; cases e1
      exact ⟨a, hA, e2, os hl⟩
    · rw [List.getElem?_set_ne (Ne.symm hi)] at e
      have z := r.slot k s' e
      cases s' with
      | un => trivial
      | fz d => obtain ⟨v, e1, e2⟩ := z; exact ⟨v, e1, Rep.keep kb (fun _ _ m => m) (fun _ _ e => e) _ _ e2⟩
      | ow d =>
        obtain ⟨b, e1, e2, e3⟩ := z
        have hb : b ≠ a := fun h => hi (r.inj _ _ _ (h ▸ e1) hA)
        refine ⟨b, e1, e2, ?_⟩
        cases e3 with
        | lst h1 h2 h3 => exact .lst (by rw [upd_ne hb]; exact h1) h2 (Reps.keep kb (fun _ _ m => m) (fun _ _ e => e) _ _ h3)
        | dic h1 h2 h3 => exact .dic (by rw [upd_ne hb]; exact h1) h2 (Reps.keep kb (fun _ _ m => m) (fun _ _ e => e) _ _ h3)
  inj := r.inj
  nT := r.nT
  own := fun k b h hl => by
    rw [List.length_set] at hl
    by_cases hi : k = i
    · subst hi; exact ⟨d, by rw [List.getElem?_set_self hl]⟩
    · obtain ⟨d', e'⟩ := r.own k b h hl
      exact ⟨d', by rw [List.getElem?_set_ne (Ne.symm hi)]; exact e'⟩
  ownT := fun k b h => there_upd (r.ownT k b h)
  bnd := r.bnd
theorem Step.mut {o : HO} (hA : A i = some a) : Step T A H T A (upd H a o) := ⟨⟨[], by simp [app_nil]⟩, fun b u _ n e => by rw [upd_ne (fun z => n i (by rw [z]; exact hA))]; exact e, fun b h => there_upd h, fun i a e => .inl ⟨i, e⟩⟩
theorem Tins.mut {o : HO} (t : Tins H T w) (n : a ∉ T) : Tins (upd H a o) T w := ⟨t.1, t.2.1, fun k b x h1 h2 => by
  have hb : b ≠ a := fun e => n (.inl (e ▸ List.mem_of_getElem? h1))
  rw [upd_ne hb]; exact t.2.2.1 k b x h1 h2, fun b hb => there_upd (t.2.2.2 b hb)⟩
theorem reps_mut {o : HO} {ds : List D} {vs : List V} (h : Reps K mg T (Bad T A []) H ds vs) (m : Bad T A [] a) : Reps K mg T (Bad T A []) (upd H a o) ds vs := Reps.keep (keep_upd m) (fun _ _ m => m) (fun _ _ e => e) _ _ h
theorem Step.add (x : Ext T H T' H') (n : H a = none) : Step T A H T' (addA A i a) H' := ⟨x.pre, fun a o n _ e => x.kp a o n e, x.there, fun k b e => by
  rcases addA_of e with ⟨_, e⟩ | ⟨_, e⟩
  · rw [e]; exact .inr n
  · exact .inl ⟨k, e⟩⟩
end

/-! ### statements -/
def PostS (K : PySem.W.Frag) (mg : Mg) (E : XK) (T : Tt) (A : Ow) (H : Hp) (Dn : Ends) : Out → Prop
  | .nx env w => ∀ σ' H' T' A', Step T A H T' A' H' → RelS K mg T' A' σ' H' env → Tins H' T' w → Dn.nx σ' H'
  | .bk env w => ∀ σ' H' T' A', Step T A H T' A' H' → RelS K mg T' A' σ' H' env → Tins H' T' w → Dn.bk σ' H'
  | .ct env w => ∀ σ' H' T' A', Step T A H T' A' H' → RelS K mg T' A' σ' H' env → Tins H' T' w → Dn.ct σ' H'
  | .rt d w => ∀ v H' T' A', Step T A H T' A' H' → Tins H' T' w → Rep K mg T' (· ∈ T') H' d v → Dn.rt v H'
  | .ex e w => ∀ cls oa H' T' A', Step T A H T' A' H' → Tins H' T' w → XR mg e cls oa H' → E cls oa H'
  | .st => False
def liftS (K : PySem.W.Frag) (mg : Mg) (E : XK) (τ : SM) : TS := fun Dn σ H => ∃ env w T A, RelS K mg T A σ H env ∧ Tins H T w ∧ PostS K mg E T A H Dn (τ env w)
def GS (X : Cx) (E : XK) (st : Stmt) (τ : SM) : Prop := PS X st (liftS X.K X.mg E τ)
def GSs (X : Cx) (E : XK) (st : List Stmt) (τ : SM) : Prop := PSs X st (liftS X.K X.mg E τ)
theorem ps_mono {X : Cx} {e : Stmt} {t u : TS} (h : PS X e t) (m : ∀ D σ H, u D σ H → t D σ H) : PS X e u := ⟨fun pins s σ H Q I q => h.run pins s σ H Q I (m _ _ _ q)⟩
theorem pss_mono {X : Cx} {e : List Stmt} {t u : TS} (h : PSs X e t) (m : ∀ D σ H, u D σ H → t D σ H) : PSs X e u := ⟨fun pins s σ H Q I q => h.run pins s σ H Q I (m _ _ _ q)⟩
def Out.bind {α : Type} (r : Res α) (f : α → W → Out) : Out := match r with
  | .ok a w => f a w
  | .ex e w => .ex e w
  | .st => .st
section
variable {X : Cx} {E : XK} {al ar ac ar1 ac1 ar2 ac2 : List Nat} {a b : Expr} {st : Stmt} {rest : List Stmt} {pos : Pos} {ea eb : EM D} {K : PySem.W.Frag} {mg : Mg} {τ μ : SM}
theorem PostS.step {T T' A A' H H' Dn} {r : Out} (h : PostS K mg E T A H Dn r) (x : Step T A H T' A' H') : PostS K mg E T' A' H' Dn r := by
  cases r with
  | nx env w => exact fun s H2 T2 A2 y r t => h s H2 T2 A2 (x.trans y) r t
  | bk env w => exact fun s H2 T2 A2 y r t => h s H2 T2 A2 (x.trans y) r t
  | ct env w => exact fun s H2 T2 A2 y r t => h s H2 T2 A2 (x.trans y) r t
  | rt d w => exact fun v H2 T2 A2 y t r => h v H2 T2 A2 (x.trans y) t r
  | ex e w => exact fun c o H2 T2 A2 y t r => h c o H2 T2 A2 (x.trans y) t r
  | st => exact h
/-- an expression's value, then a statement's rest -/
theorem goS {T A σ H env w Dn} {ε : EM D} {f : D → W → Out} {R : VK} (rel : RelS K mg T A σ H env) (t : Tins H T w) (hp : PostS K mg E T A H Dn (Out.bind (ε env w) f))
    (k : ∀ d w1 v H1 T1, Ext T H T1 H1 → Tins H1 T1 w1 → RelS K mg T1 A σ H1 env → Rep2 K mg T1 A ar ac H1 d v → PostS K mg E T1 A H1 Dn (f d w1) → R v H1) : liftE K mg E ar ac ε σ H R := by
  refine ⟨env, w, T, A, rel, t, ?_⟩
  cases q : ε env w with
  | ok d w1 =>
    rw [q] at hp
    exact fun v H1 T1 x t1 r => k d w1 v H1 T1 x t1 (rel.ext x) r (PostS.step (r := f d w1) hp (.of_ext x))
  | ex e w1 => rw [q] at hp; exact fun c o H' T' x t r => hp c o H' T' A (.of_ext x) t r
  | st => rw [q] at hp; exact hp
theorem goST {T A σ H env w Dn} {κ : EM Bool} {f : Bool → W → Out} {R : Bool → Hp → Prop} (rel : RelS K mg T A σ H env) (t : Tins H T w) (hp : PostS K mg E T A H Dn (Out.bind (κ env w) f))
    (k : ∀ b w1 H1 T1, Ext T H T1 H1 → Tins H1 T1 w1 → RelS K mg T1 A σ H1 env → PostS K mg E T1 A H1 Dn (f b w1) → R b H1) : liftT K mg E κ σ H R := by
  refine ⟨env, w, T, A, rel, t, ?_⟩
  cases q : κ env w with
  | ok d w1 =>
    rw [q] at hp
    exact fun H1 T1 x t1 => k d w1 H1 T1 x t1 (rel.ext x) (PostS.step (r := f d w1) hp (.of_ext x))
  | ex e w1 => rw [q] at hp; exact fun c o H' T' x t r => hp c o H' T' A (.of_ext x) t r
  | st => rw [q] at hp; exact hp
/-! blocks -/
def sNil : SM := fun env w => .nx env w
def sSeq (τ μ : SM) : SM := fun env w => match τ env w with
  | .nx env w => μ env w
  | o => o
theorem gss_nil : GSs X E [] sNil := pss_mono pss_nil fun Dn σ H ⟨env, w, T, A, rel, t, p⟩ => p σ H T A .refl rel t
theorem gss_cons (h1 : GS X E st τ) (h2 : GSs X E rest μ) : GSs X E (st :: rest) (sSeq τ μ) := pss_mono (pss_cons h1 h2) fun Dn σ H ⟨env, w, T, A, rel, t, p⟩ => by
  refine ⟨env, w, T, A, rel, t, ?_⟩
  unfold sSeq at p
  cases q : τ env w with
  | nx env' w' => rw [q] at p; exact fun σ' H' T' A' x r t => ⟨env', w', T', A', r, t, PostS.step (r := μ env' w') p x⟩
  | bk env' w' => rw [q] at p; exact p
  | ct env' w' => rw [q] at p; exact p
  | rt d w' => rw [q] at p; exact p
  | ex d w' => rw [q] at p; exact p
  | st => rw [q] at p; exact p
theorem gss_one (h1 : GS X E st τ) : GSs X E [st] τ := pss_one h1
def sBreak : SM := fun env w => .bk env w
def sCont : SM := fun env w => .ct env w
theorem gs_pass : GS X E (.Pass pos) sNil := ps_mono ps_pass fun Dn σ H ⟨env, w, T, A, rel, t, p⟩ => p σ H T A .refl rel t
theorem gs_break : GS X E (.Break pos) sBreak := ps_mono ps_break fun Dn σ H ⟨env, w, T, A, rel, t, p⟩ => p σ H T A .refl rel t
theorem gs_cont : GS X E (.Continue pos) sCont := ps_mono ps_continue fun Dn σ H ⟨env, w, T, A, rel, t, p⟩ => p σ H T A .refl rel t
def sDrop (e : EM D) : SM := fun env w => Out.bind (e env w) fun _ w => .nx env w
theorem gs_expr (he : GE X E ar ac a ea) (hs : swapsWith a none pos.line X.env = pure false := by rfl) : GS X E (.Expr a pos) (sDrop ea) := ps_mono (ps_expr he hs) fun Dn σ H ⟨env, w, T, A, rel, t, p⟩ =>
  goS rel t p fun d w1 v H1 T1 x t1 rel1 r p1 => p1 σ H1 T1 A .refl rel1 t1
def sRet (e : EM D) : SM := fun env w => Out.bind (e env w) fun d w => .rt d w
theorem rep_out {T A H d v} (r : Rep K mg T (Bad T A al) H d v) : Rep K mg T (· ∈ T) H d v := r.le fun b m => .inl m
theorem gs_ret (he : GE X E ar ac a ea) : GS X E (.Return (some a) pos) (sRet ea) := ps_mono (ps_ret he) fun Dn σ H ⟨env, w, T, A, rel, t, p⟩ =>
  goS rel t p fun d w1 v H1 T1 x t1 rel1 r p1 => p1 v H1 T1 A .refl t1 (rep_out (r.rep (al := ar ++ ac) (by simp) (by simp)))
def sIf (κ : EM Bool) (τ μ : SM) : SM := fun env w => Out.bind (κ env w) fun b w => if b then τ env w else μ env w
theorem gs_if {c : Expr} {p q : List Stmt} {κ : EM Bool} (hc : GT X E c κ) (ha : GSs X E p τ) (hb : GSs X E q μ) : GS X E (.If c p q pos) (sIf κ τ μ) := ps_mono (ps_if hc ha hb) fun Dn σ H ⟨env, w, T, A, rel, t, p⟩ =>
  goST rel t p fun b w1 H1 T1 x t1 rel1 p1 => by
    cases b with
    | true => exact ⟨env, w1, T1, A, rel1, t1, p1⟩
    | false => exact ⟨env, w1, T1, A, rel1, t1, p1⟩

/-! ### targets -/
/-- what a target does with a value that is nobody's own -/
abbrev TM := D → Env → Option Env
def Chg (js : List Nat) (σ σ' : L2.St) : Prop := σ'.length = σ.length ∧ ∀ k, k ∉ js → σ'[k]? = σ[k]?
def liftG (K : PySem.W.Frag) (mg : Mg) (js : List Nat) (β : TM) : TG := fun v σ H Q => ∃ env w T A d, RelS K mg T A σ H env ∧ Tins H T w ∧ Rep K mg T (Bad T A []) H d v ∧ match β d env with
  | some env' => ∀ σ' A', Step T A H T A' H → RelS K mg T A' σ' H env' → Chg js σ σ' → (∀ k, k ∉ js → A' k = A k) → Q σ' H
  | none => False
def GG (X : Cx) (js : List Nat) (tg : Expr) (β : TM) : Prop := PG X tg (liftG X.K X.mg js β)
abbrev TMs := List D → Env → Option Env
def liftGs (K : PySem.W.Frag) (mg : Mg) (js : List Nat) (β : TMs) : TGs := fun vs σ H Q => ∃ env w T A ds, RelS K mg T A σ H env ∧ Tins H T w ∧ Reps K mg T (Bad T A []) H ds vs ∧ match β ds env with
  | some env' => ∀ σ' A', Step T A H T A' H → RelS K mg T A' σ' H env' → Chg js σ σ' → (∀ k, k ∉ js → A' k = A k) → Q σ' H
  | none => False
def GGs (X : Cx) (js : List Nat) (tg : List Expr) (β : TMs) : Prop := PGs X tg (liftGs X.K X.mg js β)
theorem pg_mono {X : Cx} {e : Expr} {t u : TG} (h : PG X e t) (m : ∀ v σ H Q, u v σ H Q → t v σ H Q) : PG X e u := ⟨fun pins s σ H v uu Q I r q => h.run pins s σ H v uu Q I r (m _ _ _ _ q)⟩
theorem pgs_mono {X : Cx} {e : List Expr} {t u : TGs} (h : PGs X e t) (m : ∀ v σ H Q, u v σ H Q → t v σ H Q) : PGs X e u := ⟨fun pins s σ H v uu Q I r q => h.run pins s σ H v uu Q I r (m _ _ _ _ q)⟩
def bName (i : Nat) : TM := fun d env => some (env.set i (.fz d))
def bNil : TMs := fun ds env => match ds with
  | [] => some env
  | _ => none
def bCons (β : TM) (γ : TMs) : TMs := fun ds env => match ds with
  | d :: ds => (β d env).bind (γ ds)
  | [] => none
def bTup (n : Nat) (γ : TMs) : TM := fun d env => match d with
  | .tup ds => if ds.length = n then γ ds env else none
  | .lst ds => if ds.length = n then γ ds env else none
  | _ => none
theorem gg_name {i : Nat} {x : Str} (hN : X.N.Nodup) (hi : X.N[i]? = some x) (hx : Loc X.env.scope x) (hf : X.fn x = true ∨ X.env.scope.names.lookup x = some .local := by first | exact .inl rfl | exact .inr rfl | assumption) : GG X [i] (.Name x pos) (bName i) :=
  pg_mono (pg_name hN hi hx hf) fun v σ H Q ⟨env, w, T, A, d, rel, t, r, h⟩ => h _ _ .er (rel.setFz r i) ⟨by rw [List.length_set], fun k hk => by rw [List.getElem?_set_ne (fun e => hk (by simp [e]))]⟩ (fun k hk => erA_ne (fun e => hk (by simp [e])))
theorem ggs_nil : GGs X [] [] bNil := pgs_mono pgs_nil fun vs σ H Q ⟨env, w, T, A, ds, rel, t, r, h⟩ => by
  unfold bNil at h
  split at h
  · rename_i e
    split at e
    · cases e; cases r; exact ⟨rfl, h σ A .refl rel ⟨rfl, fun _ _ => rfl⟩ (fun _ _ => rfl)⟩
    · cases e
  · exact h.elim
theorem ggs_cons {e : Expr} {es : List Expr} {j1 j2 : List Nat} {β : TM} {γ : TMs} (h1 : GG X j1 e β) (h2 : GGs X j2 es γ) (hs : (assignEach (e :: es) X.env).map (·.2) = assign e X.env :: (assignEach es X.env).map (·.2) := by rfl) : GGs X (j1 ++ j2) (e :: es) (bCons β γ) :=
  pgs_mono (pgs_cons h1 h2 hs) fun vs σ H Q ⟨env, w, T, A, ds, rel, t, r, h⟩ => by
    cases r with
    | nil => exact h.elim
    | @cons d ds v vs r1 r2 =>
      refine ⟨v, vs, rfl, env, w, T, A, d, rel, t, r1, ?_⟩
      have h : match (β d env).bind (γ ds) with | some env' => ∀ σ' A', Step T A H T A' H → RelS X.K X.mg T A' σ' H env' → Chg (j1 ++ j2) σ σ' → (∀ k, k ∉ j1 ++ j2 → A' k = A k) → Q σ' H | none => False := h
      cases q : β d env with
      | none => rw [q] at h; exact h.elim
      | some env1 =>
        rw [q] at h
        refine fun σ1 A1 x1 rel1 c1 b1 => ⟨env1, w, T, A1, ds, rel1, t, reps_step r2 x1, ?_⟩
        have h : match γ ds env1 with | some env' => ∀ σ' A', Step T A H T A' H → RelS X.K X.mg T A' σ' H env' → Chg (j1 ++ j2) σ σ' → (∀ k, k ∉ j1 ++ j2 → A' k = A k) → Q σ' H | none => False := h
        cases q : γ ds env1 with
        | none => rw [q] at h; exact h.elim
        | some env2 => rw [q] at h; exact fun σ2 A2 x2 rel2 c2 b2 => h σ2 A2 (x1.trans x2) rel2 ⟨c2.1.trans c1.1, fun k hk => by
          simp only [List.mem_append, not_or] at hk
          rw [c2.2 k hk.2, c1.2 k hk.1]⟩ (fun k hk => by
          simp only [List.mem_append, not_or] at hk
          rw [b2 k hk.2, b1 k hk.1])
theorem gg_tup {es : List Expr} {k n : Nat} {js : List Nat} {γ : TMs} (hc : X.calm = true) (h : GGs X js es γ) (hn : (assignEach es X.env).length = n := by rfl) (hst : (assignEach es X.env).findIdx? (·.1) = none := by rfl) : GG X js (.Tuple es k pos) (bTup n γ) := by
  refine ⟨fun pins s σ H v u Q I r hw => ?_⟩
  obtain ⟨env, w, T, A, d, rel, t, rp, hw⟩ := hw
  unfold bTup at hw
  cases d with
  | tup ds =>
    simp only at hw
    by_cases hl : ds.length = n
    · rw [if_pos hl] at hw
      cases rp with
      | tup l q =>
        exact (pg_tup hc h hn hst).run pins s σ H _ u Q I r ⟨_, _, rfl, l.sq, by rw [← q.len]; exact hl, env, w, T, A, ds, rel, t, q, hw⟩
    · rw [if_neg hl] at hw; exact hw.elim
  | lst ds =>
    simp only at hw
    by_cases hl : ds.length = n
    · rw [if_pos hl] at hw
      cases rp with
      | lst l q =>
        exact (pg_lst hc h hn hst).run pins s σ H _ u Q I r ⟨_, _, rfl, l.sq, by rw [← q.len]; exact hl, env, w, T, A, ds, rel, t, q, hw⟩
    · rw [if_neg hl] at hw; exact hw.elim
  | _ => exact hw.elim
/-! ### assignments -/
/-- the slots of al give up what they own; then the target takes the value -/
def sAsg (β : TM) (al : List Nat) (e : EM D) : SM := fun env w => Out.bind (e env w) fun d w => match β d (frzs env al) with
  | some env' => .nx env' w
  | none => .st
theorem asg_lift {β : TM} {js : List Nat} (s1 : ar ⊆ al) (s2 : ac ⊆ al) : ∀ Dn σ H, liftS X.K X.mg E (sAsg β al ea) Dn σ H → tAsg (liftE X.K X.mg E ar ac ea) (liftG X.K X.mg js β) Dn σ H := fun Dn σ H ⟨env, w, T, A, rel, t, p⟩ =>
  goS (f := fun d w => match β d (frzs env al) with | some env' => .nx env' w | none => .st) rel t p fun d w1 v H1 T1 x t1 rel1 r p1 => by
    refine ⟨frzs env al, w1, T1, erAs A al, d, frzs_rel al rel1, t1, (r.rep s1 s2).le fun b m => erAs_bad m, ?_⟩
    cases q : β d (frzs env al) with
    | none => simp only [q] at p1; exact p1.elim
    | some env' => simp only [q] at p1; exact fun σ' A' x rel2 _ _ => p1 σ' H1 T1 A' (Step.ers.trans x) rel2 t1
theorem gs_asg {tg : Expr} {β : TM} {js : List Nat} (hg : GG X js tg β) (he : GE X E ar ac a ea) (s1 : ar ⊆ al := by simp) (s2 : ac ⊆ al := by simp) (hs : swapsWithSole [tg] a pos.line X.env = pure false := by rfl) (hw : swappedStores [tg] a X.env = pure none := by rfl) (h1 : (assignEach [tg] X.env).map (·.2) = [assign tg X.env] := by rfl) : GS X E (.Assign [tg] a pos) (sAsg β al ea) :=
  ps_mono (ps_asg he hg hs hw h1) (asg_lift s1 s2)
theorem gs_set {i : Nat} {x : Str} {pos' : Pos} (hN : X.N.Nodup) (hi : X.N[i]? = some x) (hx : Loc X.env.scope x) (he : GE X E ar ac a ea) (s1 : ar ⊆ al := by simp) (s2 : ac ⊆ al := by simp) (hs : swapsWith a (some (.Name x pos')) pos.line X.env = pure false := by rfl) (hf : X.fn x = true ∨ X.env.scope.names.lookup x = some .local := by first | exact .inl rfl | exact .inr rfl | assumption) : GS X E (.Assign [.Name x pos'] a pos) (sAsg (bName i) al ea) :=
  ps_mono (ps_set hN hi hx he hs hf) fun Dn σ H ⟨env, w, T, A, rel, t, p⟩ =>
    goS (f := fun d w => match bName i d (frzs env al) with | some env' => .nx env' w | none => .st) rel t p fun d w1 v H1 T1 x t1 rel1 r p1 =>
      p1 _ H1 T1 _ (Step.ers.trans .er) ((frzs_rel al rel1).setFz ((r.rep s1 s2).le fun b m => erAs_bad m) i) t1
end
end DL
namespace DL
open PySem PySem.Spec PyProof.Rows L2
section
variable {X : Cx} {E : XK} {al ar ac ar1 ac1 ar2 ac2 : List Nat} {a b : Expr} {st : Stmt} {rest : List Stmt} {pos : Pos} {ea eb : EM D} {K : PySem.W.Frag} {mg : Mg} {τ μ : SM}
/-! ### a slot takes a new list as its own -/
def sOwn (i : Nat) (ac : List Nat) (e : EM (List D)) : SM := fun env w => Out.bind (e env w) fun ds w => .nx ((frzs env ac).set i (.ow (.lst ds))) w
theorem frzs_len (al : List Nat) : ∀ env : Env, (frzs env al).length = env.length := by
  induction al with
  | nil => intro env; rfl
  | cons j al ih =>
    intro env
    show (frzs (frz1 env j) al).length = _
    rw [ih]
    unfold frz1
    split <;> simp
theorem goSF {T A σ H env w Dn} {ε : EM (List D)} {f : List D → W → Out} {R : VK} (rel : RelS K mg T A σ H env) (t : Tins H T w) (hp : PostS K mg E T A H Dn (Out.bind (ε env w) f))
    (k : ∀ ds w1 a vs H1 T1, Ext T H T1 H1 → Tins H1 T1 w1 → H a = none → H1 a = some (.lst vs) → a ∉ T1 → vs.length ≤ sizeLine → Reps K mg T1 (fun x => Bad T1 A ac x ∨ x = a) H1 ds vs → PostS K mg E T A H Dn (f ds w1) → R (.ref a) H1) : liftF K mg E ac ε σ H R := by
  refine ⟨env, w, T, A, rel, t, ?_⟩
  cases q : ε env w with
  | ok d w1 => rw [q] at hp; exact fun a vs H1 T1 x t1 n e m z r => k d w1 a vs H1 T1 x t1 n e m z r hp
  | ex e w1 => rw [q] at hp; exact fun c o H' T' x t r => hp c o H' T' A (.of_ext x) t r
  | st => rw [q] at hp; exact hp
theorem gs_own {i : Nat} {x : Str} {pos' : Pos} {ε : EM (List D)} (hN : X.N.Nodup) (hi : X.N[i]? = some x) (hx : Loc X.env.scope x) (he : GF X E ac a ε) (hs : swapsWith a (some (.Name x pos')) pos.line X.env = pure false := by rfl) (hf : X.fn x = true ∨ X.env.scope.names.lookup x = some .local := by first | exact .inl rfl | exact .inr rfl | assumption) : GS X E (.Assign [.Name x pos'] a pos) (sOwn i ac ε) :=
  ps_mono (ps_set hN hi hx he hs hf) fun Dn σ H ⟨env, w, T, A, rel, t, p⟩ =>
    goSF (f := fun ds w => .nx ((frzs env ac).set i (.ow (.lst ds))) w) rel t p fun ds w1 a vs H1 T1 x t1 n e m z r p1 => by
      have rel1 := frzs_rel ac rel
      refine p1 _ H1 T1 _ (Step.ers.trans (Step.add (i := i) x n)) (rel1.setOw x n (by rw [e]; intro z; cases z) m i (.lst e z ?_)) t1
      refine r.le fun b hb => ?_
      rcases hb with hb | ⟨k, _, hb⟩
      · exact .inl (.inl hb)
      · rcases addA_of hb with ⟨_, hb⟩ | ⟨_, hb⟩
        · exact .inr hb
        · obtain ⟨h1, h2⟩ := erAs_le hb
          exact .inl (.inr ⟨k, h2, h1⟩)

/-! ### a, b = x, y: each an empty list of its own, or what is nobody's own -/
inductive PK1 where
  | nil | val (d : D) | ints (l : List Int) | dic0 | own (ds : List D)
def kSlot : PK1 → Slot
  | .nil => .ow (.lst [])
  | .val d => .fz d
  | .ints l => .ow (.lst (l.map D.int))
  | .dic0 => .ow (.dic [])
  | .own ds => .ow (.lst ds)
/-- the reps of such a row; a new list stands at a place of ns, beyond the slots -/
inductive RepK (K : PySem.W.Frag) (mg : Mg) (T : Tt) (A : Ow) (H : Hp) (len : Nat) (al : List Nat) : List Nat → List PK1 → List V → Prop
  | nil : RepK K mg T A H len al [] [] []
  | own {n : Nat} {a : Addr} {ns : List Nat} {ks : List PK1} {vs : List V} : len ≤ n → A n = some a → H a = some (.lst []) → n ∉ ns → RepK K mg T A H len al ns ks vs → RepK K mg T A H len al (n :: ns) (.nil :: ks) (.ref a :: vs)
  | ownI {n : Nat} {a : Addr} {l : List Int} {ns : List Nat} {ks : List PK1} {vs : List V} : len ≤ n → A n = some a → H a = some (.lst (l.map V.int)) → (l.map V.int).length ≤ sizeLine → n ∉ ns → RepK K mg T A H len al ns ks vs → RepK K mg T A H len al (n :: ns) (.ints l :: ks) (.ref a :: vs)
  | ownG {n : Nat} {a : Addr} {ds : List D} {ws : List V} {ns : List Nat} {ks : List PK1} {vs : List V} : len ≤ n → A n = some a → H a = some (.lst ws) → ws.length ≤ sizeLine → Reps K mg T (Bad T A al) H ds ws → n ∉ ns → RepK K mg T A H len al ns ks vs → RepK K mg T A H len al (n :: ns) (.own ds :: ks) (.ref a :: vs)
  | ownD {n : Nat} {a : Addr} {ns : List Nat} {ks : List PK1} {vs : List V} : len ≤ n → A n = some a → H a = some (.dK []) → n ∉ ns → RepK K mg T A H len al ns ks vs → RepK K mg T A H len al (n :: ns) (.dic0 :: ks) (.ref a :: vs)
  | val {d : D} {v : V} {ns : List Nat} {ks : List PK1} {vs : List V} : Rep K mg T (Bad T A al) H d v → RepK K mg T A H len al ns ks vs → RepK K mg T A H len al ns (.val d :: ks) (v :: vs)
/-- what a row of expressions may do: places beyond the slots may be taken -/
structure Row (T : Tt) (A : Ow) (H : Hp) (T' : Tt) (A' : Ow) (H' : Hp) : Prop where
  ext : Ext T H T' H'
  up : ∀ i b, A i = some b → A' i = some b
  dn : ∀ i b, A' i = some b → A i = some b ∨ H b = none
theorem Row.step {T A H T' A' H'} (r : Row T A H T' A' H') : Step T A H T' A' H' := ⟨r.ext.pre, fun a o n _ e => r.ext.kp a o n e, r.ext.there, fun i b e => (r.dn i b e).imp (fun h => ⟨i, h⟩) id⟩
theorem Row.refl {T A H} : Row T A H T A H := ⟨.refl, fun _ _ e => e, fun _ _ e => .inl e⟩
theorem ext_none {T H T' H'} (x : Ext T H T' H') {b : Addr} (h : H' b = none) : H b = none := by
  cases q : H b with
  | none => rfl
  | some o => exact absurd h (x.there b (by rw [q]; intro z; cases z))
theorem Row.trans {T A H T' A' H' T'' A'' H''} (r : Row T A H T' A' H') (q : Row T' A' H' T'' A'' H'') : Row T A H T'' A'' H'' := ⟨r.ext.trans q.ext, fun i b e => q.up i b (r.up i b e), fun i b e => by
  rcases q.dn i b e with h | h
  · exact r.dn i b h
  · exact .inr (ext_none r.ext h)⟩
theorem Row.of_ext {T A H T' H'} (x : Ext T H T' H') : Row T A H T' A H' := ⟨x, fun _ _ e => e, fun _ _ e => .inl e⟩
def PostK (K : PySem.W.Frag) (mg : Mg) (E : XK) (T : Tt) (A : Ow) (σ : L2.St) (H : Hp) (env : Env) (al : List Nat) (Q : List V → Hp → Prop) : Res (List PK1) → Prop
  | .ok ks w => ∀ vs H' T' A' ns, Row T A H T' A' H' → Tins H' T' w → RelS K mg T' A' σ H' env → RepK K mg T' A' H' env.length al ns ks vs → (∀ n ∈ ns, A n = none) → Q vs H'
  | .ex e w => ∀ cls oa H' T', Ext T H T' H' → Tins H' T' w → XR mg e cls oa H' → E cls oa H'
  | .st => False
def liftK (K : PySem.W.Frag) (mg : Mg) (E : XK) (al : List Nat) (α : EM (List PK1)) : TA := fun σ H Q => ∃ env w T A, RelS K mg T A σ H env ∧ Tins H T w ∧ PostK K mg E T A σ H env al Q (α env w)
def GK (X : Cx) (E : XK) (al : List Nat) (es : List Expr) (α : EM (List PK1)) : Prop := PA X es (liftK X.K X.mg E al α)
def kNil : EM (List PK1) := fun _ w => .ok [] w
def kOwn (r : EM (List PK1)) : EM (List PK1) := fun env w => (r env w).bind fun ks w => .ok (.nil :: ks) w
def kVal (e : EM D) (r : EM (List PK1)) : EM (List PK1) := fun env w => (e env w).bind fun d w => (r env w).bind fun ks w => .ok (.val d :: ks) w
theorem PostK.ext {T A σ H T' H' env Q} {r : Res (List PK1)} (h : PostK K mg E T A σ H env al Q r) (x : Ext T H T' H') : PostK K mg E T' A σ H' env al Q r := by
  cases r with
  | ok d w => exact fun vs H2 T2 A2 ns y t r k hn => h vs H2 T2 A2 ns ((Row.of_ext x).trans y) t r k hn
  | ex e w => exact fun c o H2 T2 y t r => h c o H2 T2 (x.trans y) t r
  | st => exact h
theorem gk_nil : GK X E al [] kNil := pa_mono pa_nil fun σ H Q ⟨env, w, T, A, rel, t, p⟩ => p [] H T A [] .refl t rel .nil (fun _ m => nomatch m)
theorem gk_own {es : List Expr} {p2 : Pos} {α : EM (List PK1)} (hr : GK X E al es α) (hs : starEach (.List [] p2 :: es) X.env = (false, eval (.List [] p2) X.env) :: starEach es X.env := by rfl) : GK X E al (.List [] p2 :: es) (kOwn α) :=
  pa_mono (pa_cons (pe_lst pa_nil) hr hs) fun σ H Q ⟨env, w, T, A, rel, t, p⟩ => by
    refine ⟨Nat.zero_le _, fun a n => ?_⟩
    obtain ⟨m, hm⟩ := rel.bnd
    have nT : a ∉ T := fun m => (rel.fr t).nb (al := []) n (.inl m)
    have x := Ext.new (T := T) (o := .lst []) n
    have hme : A (m + env.length) = none := hm _ (by omega)
    have rel1 := rel.setPh x n (by rw [upd_same]; intro z; cases z) nT (i := m + env.length) (by omega)
    have row : Row T A H T (addA A (m + env.length) a) (upd H a (.lst [])) := ⟨x, fun i b e => by rw [addA_ne (fun h => by rw [h, hme] at e; cases e)]; exact e, fun i b e => by
      rcases addA_of e with ⟨_, e⟩ | ⟨_, e⟩
      · rw [e]; exact .inr n
      · exact .inl e⟩
    refine ⟨env, w, T, _, rel1, t.new n, ?_⟩
    unfold kOwn at p
    cases q : α env w with
    | ok ks w1 =>
      rw [q] at p
      refine fun vs H1 T1 A1 ns y t1 r k hn => p (.ref a :: vs) H1 T1 A1 ((m + env.length) :: ns) (row.trans y) t1 r (.own (by omega) (y.up _ _ addA_self) (y.ext.keep _ _ nT upd_same) (fun hm => ?_) k) (fun j hj => ?_)
      · have z := hn _ hm; rw [addA_self] at z; cases z
      · rcases List.mem_cons.mp hj with e | hj
        · rw [e]; exact hme
        · have z := hn j hj
          unfold addA at z
          split at z
          · cases z
          · exact z
    | ex e w1 => rw [q] at p; exact fun c o H' T' y t r => p c o H' T' (x.trans y) t r
    | st => rw [q] at p; exact p
/-- a new dict, its own -/
def kDic (r : EM (List PK1)) : EM (List PK1) := fun env w => (r env w).bind fun ks w => .ok (.dic0 :: ks) w
theorem gk_dic {es : List Expr} {p2 : Pos} {α : EM (List PK1)} (hr : GK X E al es α) (hs : starEach (.Dict [] [] p2 :: es) X.env = (false, eval (.Dict [] [] p2) X.env) :: starEach es X.env := by rfl) : GK X E al (.Dict [] [] p2 :: es) (kDic α) :=
  pa_mono (pa_cons pe_dnewK hr hs) fun σ H Q ⟨env, w, T, A, rel, t, p⟩ => by
    intro a n
    obtain ⟨m, hm⟩ := rel.bnd
    have nT : a ∉ T := fun m => (rel.fr t).nb (al := []) n (.inl m)
    have x := Ext.new (T := T) (o := .dK []) n
    have hme : A (m + env.length) = none := hm _ (by omega)
    have rel1 := rel.setPh x n (by rw [upd_same]; intro z; cases z) nT (i := m + env.length) (by omega)
    have row : Row T A H T (addA A (m + env.length) a) (upd H a (.dK [])) := ⟨x, fun i b e => by rw [addA_ne (fun h => by rw [h, hme] at e; cases e)]; exact e, fun i b e => by
      rcases addA_of e with ⟨_, e⟩ | ⟨_, e⟩
      · rw [e]; exact .inr n
      · exact .inl e⟩
    refine ⟨env, w, T, _, rel1, t.new n, ?_⟩
    unfold kDic at p
    cases q : α env w with
    | ok ks w1 =>
      rw [q] at p
      refine fun vs H1 T1 A1 ns y t1 r k hn => p (.ref a :: vs) H1 T1 A1 ((m + env.length) :: ns) (row.trans y) t1 r (.ownD (by omega) (y.up _ _ addA_self) (y.ext.keep _ _ nT upd_same) (fun hm => ?_) k) (fun j hj => ?_)
      · have z := hn _ hm; rw [addA_self] at z; cases z
      · rcases List.mem_cons.mp hj with e | hj
        · rw [e]; exact hme
        · have z := hn j hj
          unfold addA at z
          split at z
          · cases z
          · exact z
    | ex e w1 => rw [q] at p; exact fun c o H' T' y t r => p c o H' T' (x.trans y) t r
    | st => rw [q] at p; exact p
/-- a new list of whole numbers, its own -/
def kLst (e : EM (List D)) (r : EM (List PK1)) : EM (List PK1) := fun env w => (e env w).bind fun ds w => match intsOf ds with
  | some l => (r env w).bind fun ks w => .ok (.ints l :: ks) w
  | none => .st
theorem gk_ints {es : List Expr} {ε : EM (List D)} {α : EM (List PK1)} (ha : GF X E ac a ε) (hr : GK X E al es α) (hs : starEach (a :: es) X.env = (false, eval a X.env) :: starEach es X.env := by rfl) : GK X E al (a :: es) (kLst ε α) :=
  pa_mono (pa_cons ha hr hs) fun σ H Q ⟨env, w, T, A, rel, t, p⟩ => by
    refine ⟨env, w, T, A, rel, t, ?_⟩
    unfold kLst at p
    cases q : ε env w with
    | st => rw [q] at p; exact p
    | ex e w1 => rw [q] at p; exact p
    | ok ds w1 =>
      rw [q] at p
      have p : PostK X.K X.mg E T A σ H env al Q (match intsOf ds with | some l => (α env w1).bind fun ks w => .ok (.ints l :: ks) w | none => .st) := p
      intro a vs H1 T1 x t1 n e m z rs
      cases hl : intsOf ds with
      | none => rw [hl] at p; exact p.elim
      | some l =>
        rw [hl] at p
        have ev := ints_rep rs hl
        subst ev
        obtain ⟨mm, hm⟩ := rel.bnd
        have nT : a ∉ T := fun mT => (rel.fr t).nb (al := []) n (.inl mT)
        have hme : A (mm + env.length) = none := hm _ (by omega)
        have rel1 := rel.setPh x n (by rw [e]; intro z; cases z) m (i := mm + env.length) (by omega)
        have row : Row T A H T1 (addA A (mm + env.length) a) H1 := ⟨x, fun i b e => by rw [addA_ne (fun h => by rw [h, hme] at e; cases e)]; exact e, fun i b e => by
          rcases addA_of e with ⟨_, e⟩ | ⟨_, e⟩
          · rw [e]; exact .inr n
          · exact .inl e⟩
        refine ⟨env, w1, T1, _, rel1, t1, ?_⟩
        have p : PostK X.K X.mg E T A σ H env al Q ((α env w1).bind fun ks w => .ok (.ints l :: ks) w) := p
        cases q2 : α env w1 with
        | ok ks w2 =>
          rw [q2] at p
          refine fun vs H2 T2 A2 ns y t2 r k hn => p (.ref a :: vs) H2 T2 A2 ((mm + env.length) :: ns) (row.trans y) t2 r (.ownI (by omega) (y.up _ _ addA_self) (y.ext.keep _ _ m e) z (fun hm => ?_) k) (fun j hj => ?_)
          · have z := hn _ hm; rw [addA_self] at z; cases z
          · rcases List.mem_cons.mp hj with e | hj
            · rw [e]; exact hme
            · have z := hn j hj
              unfold addA at z
              split at z
              · cases z
              · exact z
        | ex e w => rw [q2] at p; exact fun c o H' T' y t r => p c o H' T' (x.trans y) t r
        | st => rw [q2] at p; exact p
/-- a new list, its own, whatever it bears -/
def kLstG (e : EM (List D)) (r : EM (List PK1)) : EM (List PK1) := fun env w => (e env w).bind fun ds w => (r env w).bind fun ks w => .ok (.own ds :: ks) w
theorem gk_lstG {es : List Expr} {ε : EM (List D)} {α : EM (List PK1)} (ha : GF X E ac a ε) (hr : GK X E al es α) (s1 : ac ⊆ al := by simp) (hs : starEach (a :: es) X.env = (false, eval a X.env) :: starEach es X.env := by rfl) : GK X E al (a :: es) (kLstG ε α) :=
  pa_mono (pa_cons ha hr hs) fun σ H Q ⟨env, w, T, A, rel, t, p⟩ => by
    refine ⟨env, w, T, A, rel, t, ?_⟩
    unfold kLstG at p
    cases q : ε env w with
    | st => rw [q] at p; exact p
    | ex e w1 => rw [q] at p; exact p
    | ok ds w1 =>
      rw [q] at p
      have p : PostK X.K X.mg E T A σ H env al Q ((α env w1).bind fun ks w => .ok (.own ds :: ks) w) := p
      intro a vs H1 T1 x t1 n e m z rs
      obtain ⟨mm, hm⟩ := rel.bnd
      have nT : a ∉ T := fun mT => (rel.fr t).nb (al := []) n (.inl mT)
      have hme : A (mm + env.length) = none := hm _ (by omega)
      have rel1 := rel.setPh x n (by rw [e]; intro z; cases z) m (i := mm + env.length) (by omega)
      have row : Row T A H T1 (addA A (mm + env.length) a) H1 := ⟨x, fun i b e => by rw [addA_ne (fun h => by rw [h, hme] at e; cases e)]; exact e, fun i b e => by
        rcases addA_of e with ⟨_, e⟩ | ⟨_, e⟩
        · rw [e]; exact .inr n
        · exact .inl e⟩
      refine ⟨env, w1, T1, _, rel1, t1, ?_⟩
      cases q2 : α env w1 with
      | ok ks w2 =>
        rw [q2] at p
        refine fun vs2 H2 T2 A2 ns y t2 r k hn => p (.ref a :: vs2) H2 T2 A2 ((mm + env.length) :: ns) (row.trans y) t2 r (.ownG (by omega) (y.up _ _ addA_self) (y.ext.keep _ _ m e) z ?_ (fun hm => ?_) k) (fun j hj => ?_)
        · refine Reps.keep (B := fun b => Bad T1 A ac b ∨ b = a) (fun b o nb e => y.ext.keep b o (fun m => nb (.inl (.inl m))) e) (fun b nb hb => ?_) y.ext.at ds vs rs
          rcases hb with hb | ⟨i, hi, hb⟩
          · exact .inl (.inl (y.ext.back hb nb))
          · rcases y.dn i b hb with hb | hb
            · rcases addA_of hb with ⟨_, hb⟩ | ⟨_, hb⟩
              · exact .inr hb
              · exact .inl (.inr ⟨i, fun m => hi (s1 m), hb⟩)
            · exact absurd hb nb
        · have z := hn _ hm; rw [addA_self] at z; cases z
        · rcases List.mem_cons.mp hj with e | hj
          · rw [e]; exact hme
          · have z := hn j hj
            unfold addA at z
            split at z
            · cases z
            · exact z
      | ex e w => rw [q2] at p; exact fun c o H' T' y t r => p c o H' T' (x.trans y) t r
      | st => rw [q2] at p; exact p
theorem gk_val {es : List Expr} {α : EM (List PK1)} (ha : GE X E ar ac a ea) (hr : GK X E al es α) (s1 : ar ⊆ al := by simp) (s2 : ac ⊆ al := by simp) (hs : starEach (a :: es) X.env = (false, eval a X.env) :: starEach es X.env := by rfl) : GK X E al (a :: es) (kVal ea α) :=
  pa_mono (pa_cons ha hr hs) fun σ H Q ⟨env, w, T, A, rel, t, p⟩ => goP (P := fun T H r => PostK X.K X.mg E T A σ H env al Q r) (fun _ _ _ _ h => h) (fun _ _ h => h) (fun _ _ _ _ _ h x => h.ext x)
    (f := fun d w => (α env w).bind fun ks w => .ok (.val d :: ks) w) rel t p fun d w1 v H1 T1 x t1 rel1 r p1 => by
    refine ⟨env, w1, T1, A, rel1, t1, ?_⟩
    cases q : α env w1 with
    | ok ds w2 =>
      rw [q] at p1
      refine fun vs H2 T2 A2 ns y t2 r2 k hn => p1 (v :: vs) H2 T2 A2 ns y t2 r2 (.val ?_ k) hn
      refine Rep.keep (fun b o nb e => y.ext.keep b o (fun m => nb (.inl m)) e) (fun b nb hb => ?_) y.ext.at d v (r.rep s1 s2)
      rcases hb with hb | ⟨i, hi, hb⟩
      · exact .inl (y.ext.back hb nb)
      · rcases y.dn i b hb with hb | hb
        · exact .inr ⟨i, hi, hb⟩
        · exact absurd hb nb
    | ex e w => rw [q] at p1; exact p1
    | st => rw [q] at p1; exact p1
/-- the slots set, one by one -/
def setK : List Nat → List PK1 → Env → Option Env
  | [], [], env => some env
  | i :: is, k :: ks, env => if i < env.length then setK is ks (env.set i (kSlot k)) else none
  | _, _, _ => none
def setV : List Nat → List V → L2.St → L2.St
  | i :: is, v :: vs, σ => setV is vs (σ.set i (some v))
  | _, _, σ => σ
theorem addA_er_bad {T A n i} {a b : Addr} (h : A n = some a) (m : Bad T (addA (erA A n) i a) [] b) : Bad T A [] b := by
  rcases m with m | ⟨k, _, m⟩
  · exact .inl m
  · rcases addA_of m with ⟨_, e⟩ | ⟨_, e⟩
    · rw [e]; exact .inr ⟨n, by simp, h⟩
    · exact .inr ⟨k, by simp, (erA_le e).1⟩
/-- a list beyond the slots comes into one -/
theorem RelS.move {T A σ H env n i} {a : Addr} {d : D} (r : RelS K mg T A σ H env) (hn : env.length ≤ n) (hA : A n = some a) (hi : i < env.length) (o : Own K mg T (Bad T A []) H a d) : RelS K mg T (addA (erA A n) i a) (σ.set i (some (.ref a))) H (env.set i (.ow d)) where
  len := by rw [List.length_set, List.length_set]; exact r.len
  slot := fun k s' e => by
    by_cases hk : k = i
    · subst hk
      rw [List.getElem?_set_self hi] at e
      cases e
      refine ⟨a, addA_self, by rw [List.getElem?_set_self (by rw [r.len]; exact hi)], ?_⟩
      cases o with
      | lst h1 h2 h3 => exact .lst h1 h2 (h3.le fun b m => addA_er_bad hA m)
      | dic h1 h2 h3 => exact .dic h1 h2 (h3.le fun b m => addA_er_bad hA m)
    · rw [List.getElem?_set_ne (Ne.symm hk)] at e
      rw [List.getElem?_set_ne (Ne.symm hk)]
      have z := r.slot k s' e
      have hkl := (List.getElem?_eq_some_iff.mp e).1
      cases s' with
      | un => trivial
      | fz d => obtain ⟨v, e1, e2⟩ := z; exact ⟨v, e1, e2.le fun b m => addA_er_bad hA m⟩
      | ow d =>
        obtain ⟨b, e1, e2, e3⟩ := z
        refine ⟨b, by rw [addA_ne hk, erA_ne (by omega)]; exact e1, e2, ?_⟩
        cases e3 with
        | lst h1 h2 h3 => exact .lst h1 h2 (h3.le fun b m => addA_er_bad hA m)
        | dic h1 h2 h3 => exact .dic h1 h2 (h3.le fun b m => addA_er_bad hA m)
  inj := fun k l b h1 h2 => by
    rcases addA_of h1 with ⟨e1, e2⟩ | ⟨e1, e2⟩ <;> rcases addA_of h2 with ⟨e3, e4⟩ | ⟨e3, e4⟩
    · omega
    · obtain ⟨e5, e6⟩ := erA_le e4; rw [e2] at e5; exact absurd (r.inj _ _ _ e5 hA) e6
    · obtain ⟨e5, e6⟩ := erA_le e2; rw [e4] at e5; exact absurd (r.inj _ _ _ e5 hA) e6
    · exact r.inj _ _ _ (erA_le e2).1 (erA_le e4).1
  nT := fun k b h => by
    rcases addA_of h with ⟨_, e⟩ | ⟨_, e⟩
    · rw [e]; exact r.nT _ _ hA
    · exact r.nT _ _ (erA_le e).1
  own := fun k b h hl => by
    rw [List.length_set] at hl
    rcases addA_of h with ⟨e, _⟩ | ⟨hne, e⟩
    · subst e; exact ⟨_, by rw [List.getElem?_set_self hl]⟩
    · obtain ⟨d', e'⟩ := r.own k b (erA_le e).1 hl
      exact ⟨d', by rw [List.getElem?_set_ne (Ne.symm hne)]; exact e'⟩
  ownT := fun k b h' => by
    rcases addA_of h' with ⟨_, e⟩ | ⟨_, e⟩
    · rw [e]; exact r.ownT _ _ hA
    · exact r.ownT _ _ (erA_le e).1
  bnd := by
    obtain ⟨m, h⟩ := r.bnd
    exact addA_bnd ⟨m, fun i hi => by unfold erA; split; rfl; exact h i hi⟩
theorem Step.move {T A H n i} {a : Addr} (hA : A n = some a) : Step T A H T (addA (erA A n) i a) H := ⟨⟨[], by simp [app_nil]⟩, fun _ _ _ _ h => h, fun _ h => h, fun k b e => by
  rcases addA_of e with ⟨_, e⟩ | ⟨_, e⟩
  · rw [e]; exact .inl ⟨n, hA⟩
  · exact .inl ⟨k, (erA_le e).1⟩⟩
theorem repK_mono {T A A' H len ns ks vs} (h : RepK K mg T A H len [] ns ks vs) (hb : ∀ b, Bad T A' [] b → Bad T A [] b) (hn : ∀ n ∈ ns, A' n = A n) : RepK K mg T A' H len [] ns ks vs := by
  induction h with
  | nil => exact .nil
  | own h1 h2 h3 h4 _ ih => exact .own h1 (by rw [hn _ List.mem_cons_self]; exact h2) h3 h4 (ih fun n m => hn n (List.mem_cons_of_mem _ m))
  | ownG h1 h2 h3 hz hr h4 _ ih => exact .ownG h1 (by rw [hn _ List.mem_cons_self]; exact h2) h3 hz (hr.le hb) h4 (ih fun n m => hn n (List.mem_cons_of_mem _ m))
  | ownD h1 h2 h3 h4 _ ih => exact .ownD h1 (by rw [hn _ List.mem_cons_self]; exact h2) h3 h4 (ih fun n m => hn n (List.mem_cons_of_mem _ m))
  | ownI h1 h2 h3 hz h4 _ ih => exact .ownI h1 (by rw [hn _ List.mem_cons_self]; exact h2) h3 hz h4 (ih fun n m => hn n (List.mem_cons_of_mem _ m))
  | val h1 _ ih => exact .val (h1.le hb) (ih hn)
theorem repK_ge {T A H len ns ks vs} (h : RepK K mg T A H len al ns ks vs) : ∀ m ∈ ns, len ≤ m := by
  induction h with
  | nil => intro m hm; cases hm
  | own q1 q2 q3 q4 _ ih =>
    intro m hm
    rcases List.mem_cons.mp hm with z | hm
    · rw [z]; exact q1
    · exact ih m hm
  | ownG q1 q2 q3 qz qr q4 _ ih =>
    intro m hm
    rcases List.mem_cons.mp hm with z | hm
    · rw [z]; exact q1
    · exact ih m hm
  | ownD q1 q2 q3 q4 _ ih =>
    intro m hm
    rcases List.mem_cons.mp hm with z | hm
    · rw [z]; exact q1
    · exact ih m hm
  | ownI q1 q2 q3 qz q4 _ ih =>
    intro m hm
    rcases List.mem_cons.mp hm with z | hm
    · rw [z]; exact q1
    · exact ih m hm
  | val _ _ ih => exact ih
theorem repK_len {T A H len ns ks vs} (h : RepK K mg T A H len al ns ks vs) : ks.length = vs.length := by
  induction h with
  | nil => rfl
  | own _ _ _ _ _ ih => simp [ih]
  | ownI _ _ _ _ _ _ ih => simp [ih]
  | ownD _ _ _ _ _ ih => simp [ih]
  | ownG _ _ _ _ _ _ _ ih => simp [ih]
  | val _ _ ih => simp [ih]
theorem setK_len : ∀ (is : List Nat) (ks : List PK1) (env env' : Env), setK is ks env = some env' → is.length = ks.length := by
  intro is
  induction is with
  | nil =>
    intro ks env env' e
    cases ks with
    | nil => rfl
    | cons _ _ => cases e
  | cons i is ih =>
    intro ks env env' e
    cases ks with
    | nil => cases e
    | cons c ks =>
      have e : (if i < env.length then setK is ks (env.set i (kSlot c)) else none) = some env' := e
      split at e
      · simp [ih _ _ _ e]
      · cases e
theorem setK_rel {T H} : ∀ (is : List Nat) (ks : List PK1) (vs : List V) {A : Ow} {σ : L2.St} {env env' : Env} {ns : List Nat} {len : Nat}, RelS K mg T A σ H env → env.length = len → RepK K mg T A H len [] ns ks vs → setK is ks env = some env' → ∃ A', RelS K mg T A' (setV is vs σ) H env' ∧ Step T A H T A' H := by
  intro is
  induction is with
  | nil =>
    intro ks vs A σ env env' ns len rel hl k e
    cases ks with
    | nil => cases e; cases k; exact ⟨A, rel, .refl⟩
    | cons _ _ => cases e
  | cons i is ih =>
    intro ks vs A σ env env' ns len rel hl k e
    cases ks with
    | nil => cases e
    | cons c ks =>
      have e : (if i < env.length then setK is ks (env.set i (kSlot c)) else none) = some env' := e
      by_cases hi : i < env.length
      · rw [if_pos hi] at e
        cases k with
        | @own n a ns _ vs h1 h2 h3 h4 k =>
          have rel1 := rel.move (by omega) h2 hi (.lst h3 (Nat.zero_le _) .nil)
          have k1 := repK_mono k (fun b m => addA_er_bad (i := i) h2 m) (fun m hm => by
            have e1 : m ≠ n := fun z => h4 (by rw [← z]; exact hm)
            have e2 := repK_ge k m hm
            rw [addA_ne (by omega), erA_ne e1])
          obtain ⟨A2, r2, s2⟩ := ih ks vs rel1 (by rw [List.length_set]; exact hl) k1 e
          exact ⟨A2, r2, (Step.move h2).trans s2⟩
        | @ownG n a ds ws ns _ vs h1 h2 h3 hz hr h4 k =>
          have rel1 := rel.move (by omega) h2 hi (.lst h3 hz hr)
          have k1 := repK_mono k (fun b m => addA_er_bad (i := i) h2 m) (fun m hm => by
            have e1 : m ≠ n := fun z => h4 (by rw [← z]; exact hm)
            have e2 := repK_ge k m hm
            rw [addA_ne (by omega), erA_ne e1])
          obtain ⟨A2, r2, s2⟩ := ih ks vs rel1 (by rw [List.length_set]; exact hl) k1 e
          exact ⟨A2, r2, (Step.move h2).trans s2⟩
        | @ownD n a ns _ vs h1 h2 h3 h4 k =>
          have rel1 := rel.move (by omega) h2 hi (.dic (kvs := []) (kws := []) h3 rfl .nil)
          have k1 := repK_mono k (fun b m => addA_er_bad (i := i) h2 m) (fun m hm => by
            have e1 : m ≠ n := fun z => h4 (by rw [← z]; exact hm)
            have e2 := repK_ge k m hm
            rw [addA_ne (by omega), erA_ne e1])
          obtain ⟨A2, r2, s2⟩ := ih ks vs rel1 (by rw [List.length_set]; exact hl) k1 e
          exact ⟨A2, r2, (Step.move h2).trans s2⟩
        | @ownI n a l ns _ vs h1 h2 h3 hz h4 k =>
          have rel1 := rel.move (by omega) h2 hi (.lst h3 hz (reps_ints l))
          have k1 := repK_mono k (fun b m => addA_er_bad (i := i) h2 m) (fun m hm => by
            have e1 : m ≠ n := fun z => h4 (by rw [← z]; exact hm)
            have e2 := repK_ge k m hm
            rw [addA_ne (by omega), erA_ne e1])
          obtain ⟨A2, r2, s2⟩ := ih ks vs rel1 (by rw [List.length_set]; exact hl) k1 e
          exact ⟨A2, r2, (Step.move h2).trans s2⟩
        | @val d v ns _ vs h1 k =>
          have rel1 := rel.setFz h1 i
          have k1 := repK_mono k (fun b m => bad_er (j := i) m) (fun m hm => by
            have e2 := repK_ge k m hm
            rw [erA_ne (by omega)])
          obtain ⟨A2, r2, s2⟩ := ih ks vs rel1 (by rw [List.length_set]; exact hl) k1 e
          exact ⟨A2, r2, Step.er.trans s2⟩
      · rw [if_neg hi] at e; cases e
theorem repK_ers {T H len ns ks vs} : ∀ {al : List Nat} {A : Ow}, (∀ j ∈ al, j < len) → RepK K mg T A H len al ns ks vs → RepK K mg T (erAs A al) H len [] ns ks vs := by
  intro al A ha h
  induction h with
  | nil => exact .nil
  | own h1 h2 h3 h4 _ ih =>
    refine .own h1 ?_ h3 h4 ih
    rename_i n a _ _ _ _
    have z : ∀ (al : List Nat) (A : Ow), (∀ j ∈ al, j ≠ n) → erAs A al n = A n := by
      intro al
      induction al with
      | nil => intro A _; rfl
      | cons j al ih =>
        intro A h
        show erAs (erA A j) al n = _
        rw [ih _ (fun k hk => h k (List.mem_cons_of_mem _ hk)), erA_ne (Ne.symm (h j List.mem_cons_self))]
    rw [z al A fun j hj => by have := ha j hj; omega]; exact h2
  | ownG h1 h2 h3 hz hr h4 _ ih =>
    refine .ownG h1 ?_ h3 hz (hr.le fun b m => erAs_bad m) h4 ih
    rename_i n a _ _ _ _ _ _
    have z : ∀ (al : List Nat) (A : Ow), (∀ j ∈ al, j ≠ n) → erAs A al n = A n := by
      intro al
      induction al with
      | nil => intro A _; rfl
      | cons j al ih =>
        intro A h
        show erAs (erA A j) al n = _
        rw [ih _ (fun k hk => h k (List.mem_cons_of_mem _ hk)), erA_ne (Ne.symm (h j List.mem_cons_self))]
    rw [z al A fun j hj => by have := ha j hj; omega]; exact h2
  | ownD h1 h2 h3 h4 _ ih =>
    refine .ownD h1 ?_ h3 h4 ih
    rename_i n a _ _ _ _
    have z : ∀ (al : List Nat) (A : Ow), (∀ j ∈ al, j ≠ n) → erAs A al n = A n := by
      intro al
      induction al with
      | nil => intro A _; rfl
      | cons j al ih =>
        intro A h
        show erAs (erA A j) al n = _
        rw [ih _ (fun k hk => h k (List.mem_cons_of_mem _ hk)), erA_ne (Ne.symm (h j List.mem_cons_self))]
    rw [z al A fun j hj => by have := ha j hj; omega]; exact h2
  | ownI h1 h2 h3 hz h4 _ ih =>
    refine .ownI h1 ?_ h3 hz h4 ih
    rename_i n a _ _ _ _ _
    have z : ∀ (al : List Nat) (A : Ow), (∀ j ∈ al, j ≠ n) → erAs A al n = A n := by
      intro al
      induction al with
      | nil => intro A _; rfl
      | cons j al ih =>
        intro A h
        show erAs (erA A j) al n = _
        rw [ih _ (fun k hk => h k (List.mem_cons_of_mem _ hk)), erA_ne (Ne.symm (h j List.mem_cons_self))]
    rw [z al A fun j hj => by have := ha j hj; omega]; exact h2
  | val h1 _ ih => exact .val (h1.le fun b m => erAs_bad m) ih
def sPar (is al : List Nat) (α : EM (List PK1)) : SM := fun env w => Out.bind (α env w) fun ks w => if al.all (· < env.length) then (match setK is ks (frzs env al) with
  | some env' => .nx env' w
  | none => .st) else .st
theorem par_lift {is : List Nat} {α : EM (List PK1)} {Dn σ H} (h : liftS X.K X.mg E (sPar is al α) Dn σ H) : liftK X.K X.mg E al α σ H (fun vs H1 => vs.length = is.length ∧ Dn.nx (setV is vs σ) H1) := by
  obtain ⟨env, w, T, A, rel, t, p⟩ := h
  refine ⟨env, w, T, A, rel, t, ?_⟩
  unfold sPar at p
  cases q : α env w with
  | ok ks w1 =>
    rw [q] at p
    have p : PostS X.K X.mg E T A H Dn (if al.all (· < env.length) then (match setK is ks (frzs env al) with | some env' => .nx env' w1 | none => .st) else .st) := p
    intro vs H1 T1 A1 ns y t1 r k hn
    split at p
    · rename_i ha
      have ha : ∀ j ∈ al, j < env.length := fun j hj => by simpa using List.all_eq_true.mp ha j hj
      cases e : setK is ks (frzs env al) with
      | none => rw [e] at p; exact p.elim
      | some env' =>
        rw [e] at p
        obtain ⟨A2, r2, s2⟩ := setK_rel is ks vs (frzs_rel al r) (frzs_len al env) (repK_ers ha k) e
        exact ⟨by rw [← repK_len k, setK_len is ks _ _ e], p _ H1 T1 A2 (y.step.trans (Step.ers.trans s2)) r2 t1⟩
    · exact p.elim
  | ex e w1 => rw [q] at p; exact fun c o H' T' y t r => p c o H' T' A (.of_ext y) t r
  | st => rw [q] at p; exact p
theorem k_mono {α : EM (List PK1)} {σ H} {Q Q' : List V → Hp → Prop} (h : liftK K mg E al α σ H Q) (m : ∀ vs H, Q vs H → Q' vs H) : liftK K mg E al α σ H Q' := by
  obtain ⟨env, w, T, A, rel, t, p⟩ := h
  refine ⟨env, w, T, A, rel, t, ?_⟩
  cases q : α env w with
  | ok ks w1 => rw [q] at p; exact fun vs H' T' A' ns r1 r2 r3 r4 r5 => m _ _ (p vs H' T' A' ns r1 r2 r3 r4 r5)
  | ex e w1 => rw [q] at p; exact p
  | st => rw [q] at p; exact p
theorem gs_par2 {i j : Nat} {x y : Str} {px py pt : Pos} {kt k2 pt2} {α : EM (List PK1)} (hc : X.calm = true) (hN : X.N.Nodup) (hi : X.N[i]? = some x) (hj : X.N[j]? = some y) (hx : X.env.scope.names.lookup x = some .local) (hy : X.env.scope.names.lookup y = some .local) (ha : GK X E al [a, b] α) (hij : i ≠ j := by decide)
    (hw : swappedStores [.Tuple [.Name x px, .Name y py] kt pt] (.Tuple [a, b] k2 pt2) X.env = pure (some [x, y]) := by rfl) (hs : swapsWithSole [.Tuple [.Name x px, .Name y py] kt pt] (.Tuple [a, b] k2 pt2) pos.line X.env = pure false := by rfl) :
    GS X E (.Assign [.Tuple [.Name x px, .Name y py] kt pt] (.Tuple [a, b] k2 pt2) pos) (sPar [i, j] al α) :=
  ps_mono (ps_par hc hN hi hj hij hx hy ha hw hs) fun Dn σ H h => k_mono (par_lift h) fun vs H1 ⟨h1, h2⟩ => by
    match vs, h1, h2 with
    | [v, u], _, h2 => exact ⟨v, u, rfl, h2⟩
theorem gs_par3 {i j l : Nat} {x y z : Str} {c : Expr} {px py pz pt : Pos} {kt k2 pt2} {α : EM (List PK1)} (hc : X.calm = true) (hN : X.N.Nodup) (hi : X.N[i]? = some x) (hj : X.N[j]? = some y) (hl : X.N[l]? = some z) (hx : X.env.scope.names.lookup x = some .local) (hy : X.env.scope.names.lookup y = some .local) (hz : X.env.scope.names.lookup z = some .local) (ha : GK X E al [a, b, c] α) (hij : i ≠ j := by decide) (hil : i ≠ l := by decide) (hjl : j ≠ l := by decide)
    (hw : swappedStores [.Tuple [.Name x px, .Name y py, .Name z pz] kt pt] (.Tuple [a, b, c] k2 pt2) X.env = pure (some [x, y, z]) := by rfl) (hs : swapsWithSole [.Tuple [.Name x px, .Name y py, .Name z pz] kt pt] (.Tuple [a, b, c] k2 pt2) pos.line X.env = pure false := by rfl) :
    GS X E (.Assign [.Tuple [.Name x px, .Name y py, .Name z pz] kt pt] (.Tuple [a, b, c] k2 pt2) pos) (sPar [i, j, l] al α) :=
  ps_mono (ps_par3 hc hN hi hj hl hij hil hjl hx hy hz ha hw hs) fun Dn σ H h => k_mono (par_lift h) fun vs H1 ⟨h1, h2⟩ => by
    match vs, h1, h2 with
    | [v, u, t], _, h2 => exact ⟨v, u, t, rfl, h2⟩
end
end DL
namespace DL
open PySem PySem.Spec PyProof.Rows L2
section
variable {X : Cx} {E : XK} {al ar ac ar1 ac1 ar2 ac2 : List Nat} {a b : Expr} {st : Stmt} {rest : List Stmt} {pos : Pos} {ea eb : EM D} {K : PySem.W.Frag} {mg : Mg} {τ μ : SM}
/-! ### raise -/
theorem pmk_own0 {x : Str} {C : Addr} {bmB : List Value} {B newId initId : String} {p pos : Pos} (F : ExcBaseFacts B newId initId bmB) (q : PySem.W.excIn X.K C bmB newId = true) (gC : X.mg x = some (.ref C)) (kC : PySem.W.keepIn X.K (.ref C) = true) (r : Raises X (.ref C)) (hg : Gl X x)
    (hdb : (x == ("__debug__" : Str)) = false := by decide) : PMk X (.Call (.Name x p) [] [] pos) (fun _ H Q => Q (.ref C) none H) := by
  intro pins s σ H Q I h
  refine wpAny_Call_Name_kw (ld_glob I hg gC ?_ hdb)
  refine PySem.W.callWith_K0 I.kIn kC ?_
  obtain ⟨bm, N, nm, qn, bs, hdct, sn, sub, ab, col, dd, k0, k1, k2, k3, k5, mN, hC, hN, hni, T⟩ := exc_obj I.kIn q
  refine wpAny_call_exc_subT F T hC hN hni (fun h' e hm => ?_) (Nat.zero_le _)
  exact mk_of I hm r h (I.hok.gone hm.new)
/-- an own class over ValueError without a body -/
structure ExcN (K : PySem.W.Frag) (mg : Mg) (c : String) : Prop where
  ex : ∃ C, mg (Str.ofString c) = some (.ref C) ∧ PySem.W.excIn K C [.type "ValueError", .type "Exception", .type "BaseException", .type "object"] "ValueError.__new__" = true ∧ PySem.W.keepIn K (.ref C) = true ∧
    PySem.W.subIn K (.ref C) (.type "BaseException") = some true ∧ PySem.W.typeIn K (.ref C) = some (.type "type")
abbrev TakesE (X : Cx) (E : XK) : Prop := Takes X (fun cls d _ H => E cls d H)
def sRaise (e : Ex) : SM := fun _ w => .ex e w
theorem gs_raise {c : String} {p p2 : Pos} {x : Str} (ex : x = Str.ofString c) (hc : X.calm = true) (tk : TakesE X E) (n : ExcN X.K X.mg c) (hg : Gl X x := by rfl) (hdb : (x == ("__debug__" : Str)) = false := by decide) : GS X E (.Raise (some (.Call (.Name x p) [] [] p2)) none pos) (sRaise ⟨c, none⟩) := by
  subst ex
  obtain ⟨C, h1, h2, h3, h4, h5⟩ := n.ex
  exact ps_mono (ps_raise hc tk (pmk_own0 PySem.F.excBase_ValueError h2 h1 h3 (raises_own h4 h5) hg hdb)) fun Dn σ H ⟨env, w, T, A, rel, t, p⟩ => p (.ref C) none H T A .refl t ⟨C, h1, rfl, rfl⟩

/-! ### lists of one's own, changed -/
def ownL (env : Env) (i : Nat) : Option (List D) := match env[i]? with
  | some (.ow (.lst ds)) => some ds
  | _ => none
theorem own_at {T A σ H env i ds} (rel : RelS K mg T A σ H env) (h : ownL env i = some ds) : ∃ a vs, A i = some a ∧ σ[i]? = some (some (.ref a)) ∧ H a = some (.lst vs) ∧ vs.length ≤ sizeLine ∧ Reps K mg T (Bad T A []) H ds vs ∧ i < env.length := by
  unfold ownL at h
  split at h
  · rename_i ds' e
    cases h
    obtain ⟨a, h1, h2, o⟩ := rel.slot i _ e
    cases o with
    | lst h3 h4 h5 => exact ⟨a, _, h1, h2, h3, h4, h5, (List.getElem?_eq_some_iff.mp e).1⟩
  · cases h
/-- x.append(e) -/
def sApp (i : Nat) (al : List Nat) (e : EM D) : SM := fun env w => match ownL env i with
  | none => .st
  | some _ => Out.bind (e env w) fun d w => match ownL (frzs env al) i with
    | some ds => if ds.length < sizeLine then .nx ((frzs env al).set i (.ow (.lst (ds ++ [d])))) w else .st
    | none => .st
theorem gs_append {i : Nat} {x : Str} {p apos cpos : Pos} (hx : PE X (.Name x p) (tVar i)) (he : GE X E ar ac a ea) (s1 : ar ⊆ al := by simp) (s2 : ac ⊆ al := by simp)
    (hbase : attributeBase (.Name x p) "append" X.env (eval (.Name x p) X.env) = eval (.Name x p) X.env := by rfl)
    (hfew : ((backTo cpos (starEach [a] X.env)).all (fun x => !x.1) && (backToKw cpos (keywordEach [] X.env)).all (fun x => x.1.isSome)
      && decide ([a].length + ([] : List Keyword).length + (if ([] : List Keyword).isEmpty then 0 else 1) < 30)) = true := by rfl)
    (hline : (apos.endLine == cpos.line) = true := by rfl) (hs : starEach [a] X.env = (false, eval a X.env) :: starEach [] X.env := by rfl) (hplain : (backTo cpos (starEach [] X.env)).any (·.1) = false := by rfl)
    (hsw : swapsWith (.Call (.Attribute (.Name x p) "append" apos) [a] [] cpos) none pos.line X.env = pure false := by rfl) :
    GS X E (.Expr (.Call (.Attribute (.Name x p) "append" apos) [a] [] cpos) pos) (sApp i al ea) :=
  ps_mono (ps_expr (pe_bm PySem.F.plainAttrs_list PySem.F.slot_list_append PySem.F.type_list_append mt_append hx (pa_cons he pa_nil hs) hbase hfew hline hs hplain) hsw) fun Dn σ H ⟨env, w, T, A, rel, t, p⟩ => by
    unfold sApp at p
    cases q : ownL env i with
    | none => rw [q] at p; exact p.elim
    | some ds0 =>
      rw [q] at p
      obtain ⟨o, vs0, hA, hσ, hH, _, _, _⟩ := own_at rel q
      refine ⟨.ref o, hσ, .inl ⟨rfl, vs0, .inl (.inl hH)⟩, ?_⟩
      refine goS (f := fun d w => match ownL (frzs env al) i with | some ds => if ds.length < sizeLine then .nx ((frzs env al).set i (.ow (.lst (ds ++ [d])))) w else .st | none => .st) rel t p fun d w1 v H1 T1 x t1 rel1 r p1 => ?_
      have rel2 := frzs_rel al rel1
      cases q2 : ownL (frzs env al) i with
      | none => simp only [q2] at p1; exact p1.elim
      | some ds =>
        simp only [q2] at p1
        obtain ⟨o2, vs, hA2, hσ2, hH2, hl2, rs, _⟩ := own_at rel2 q2
        rw [hσ] at hσ2; cases hσ2
        split at p1
        · rename_i hlt
          rw [rs.len] at hlt
          refine ⟨o, vs, v, rfl, rfl, hH2, hlt, ?_⟩
          have rd : Rep X.K X.mg T1 (Bad T1 (erAs A al) []) H1 d v := (r.rep s1 s2).le fun b m => erAs_bad m
          refine p1 σ _ T1 (erAs A al) (Step.ers.trans (Step.mut hA2)) (rel2.mut hA2 fun _ => .lst upd_same (by rw [List.length_append]; exact hlt) ?_) (t1.mut (rel2.nT _ _ hA2))
          exact reps_mut (rs.app (.cons rd .nil)) (.inr ⟨i, by simp, hA2⟩)
        · exact p1.elim
/-- x.extend(e), e a list -/
def sExt (i : Nat) (al : List Nat) (e : EM D) : SM := fun env w => match ownL env i with
  | none => .st
  | some _ => Out.bind (e env w) fun d w => match ownL (frzs env al) i, d with
    | some ds, .lst es => if ds.length + es.length ≤ sizeLine then .nx ((frzs env al).set i (.ow (.lst (ds ++ es)))) w else .st
    | _, _ => .st
theorem gs_extend {i : Nat} {x : Str} {p apos cpos : Pos} (hx : PE X (.Name x p) (tVar i)) (he : GE X E ar ac a ea) (s1 : ar ⊆ al := by simp) (s2 : ac ⊆ al := by simp)
    (hbase : attributeBase (.Name x p) "extend" X.env (eval (.Name x p) X.env) = eval (.Name x p) X.env := by rfl)
    (hfew : ((backTo cpos (starEach [a] X.env)).all (fun x => !x.1) && (backToKw cpos (keywordEach [] X.env)).all (fun x => x.1.isSome)
      && decide ([a].length + ([] : List Keyword).length + (if ([] : List Keyword).isEmpty then 0 else 1) < 30)) = true := by rfl)
    (hline : (apos.endLine == cpos.line) = true := by rfl) (hs : starEach [a] X.env = (false, eval a X.env) :: starEach [] X.env := by rfl) (hplain : (backTo cpos (starEach [] X.env)).any (·.1) = false := by rfl)
    (hsw : swapsWith (.Call (.Attribute (.Name x p) "extend" apos) [a] [] cpos) none pos.line X.env = pure false := by rfl) :
    GS X E (.Expr (.Call (.Attribute (.Name x p) "extend" apos) [a] [] cpos) pos) (sExt i al ea) :=
  ps_mono (ps_expr (pe_bm PySem.F.plainAttrs_list PySem.F.slot_list_extend PySem.F.type_list_extend mt_extend hx (pa_cons he pa_nil hs) hbase hfew hline hs hplain) hsw) fun Dn σ H ⟨env, w, T, A, rel, t, p⟩ => by
    unfold sExt at p
    cases q : ownL env i with
    | none => rw [q] at p; exact p.elim
    | some ds0 =>
      rw [q] at p
      obtain ⟨o, vs0, hA, hσ, hH, _, _, _⟩ := own_at rel q
      refine ⟨.ref o, hσ, .inl ⟨rfl, vs0, .inl (.inl hH)⟩, ?_⟩
      refine goS (f := fun d w => match ownL (frzs env al) i, d with | some ds, .lst es => if ds.length + es.length ≤ sizeLine then .nx ((frzs env al).set i (.ow (.lst (ds ++ es)))) w else .st | _, _ => .st) rel t p fun d w1 v H1 T1 x t1 rel1 r p1 => ?_
      have rel2 := frzs_rel al rel1
      cases q2 : ownL (frzs env al) i with
      | none => simp only [q2] at p1; exact p1.elim
      | some ds =>
        simp only [q2] at p1
        obtain ⟨o2, vs, hA2, hσ2, hH2, hl2, rs, _⟩ := own_at rel2 q2
        rw [hσ] at hσ2; cases hσ2
        cases d with
        | lst es =>
          have rd : Rep X.K X.mg T1 (Bad T1 (erAs A al) []) H1 (.lst es) v := (r.rep s1 s2).le fun b m => erAs_bad m
          cases rd with
          | @lst c us _ l rd =>
            simp only at p1
            split at p1
            · rename_i hlt
              rw [rs.len, rd.len] at hlt
              refine ⟨o, c, vs, us, rfl, rfl, hH2, l.2.2, hlt, ?_⟩
              refine p1 σ _ T1 (erAs A al) (Step.ers.trans (Step.mut hA2)) (rel2.mut hA2 fun _ => .lst upd_same (by rw [List.length_append]; exact hlt) ?_) (t1.mut (rel2.nT _ _ hA2))
              exact reps_mut (rs.app rd) (.inr ⟨i, by simp, hA2⟩)
            · exact p1.elim
        | _ => exact p1.elim
/-- x.pop() -/
def sPop (i : Nat) : SM := fun env w => match ownL env i with
  | some ds => if ds.isEmpty then .st else .nx (env.set i (.ow (.lst ds.dropLast))) w
  | none => .st
theorem gs_pop {i : Nat} {x : Str} {p apos cpos : Pos} (hx : PE X (.Name x p) (tVar i))
    (hbase : attributeBase (.Name x p) "pop" X.env (eval (.Name x p) X.env) = eval (.Name x p) X.env := by rfl) (hline : (apos.endLine == cpos.line) = true := by rfl)
    (hsw : swapsWith (.Call (.Attribute (.Name x p) "pop" apos) [] [] cpos) none pos.line X.env = pure false := by rfl) :
    GS X E (.Expr (.Call (.Attribute (.Name x p) "pop" apos) [] [] cpos) pos) (sPop i) :=
  ps_mono (ps_expr (pe_bm0 PySem.F.plainAttrs_list PySem.F.slot_list_pop PySem.F.type_list_pop mt_pop hx hbase hline) hsw) fun Dn σ H ⟨env, w, T, A, rel, t, p⟩ => by
    unfold sPop at p
    cases q : ownL env i with
    | none => rw [q] at p; exact p.elim
    | some ds =>
      rw [q] at p
      obtain ⟨o, vs, hA, hσ, hH, hl, rs, _⟩ := own_at rel q
      simp only at p
      split at p
      · exact p.elim
      · rename_i hne
        have hv : vs ≠ [] := fun e => hne (by subst e; cases rs; rfl)
        obtain ⟨y, hy⟩ : ∃ y, vs[vs.length - 1]? = some y := ⟨_, List.getElem?_eq_getElem (by have := List.length_pos_iff.mpr hv; omega)⟩
        refine ⟨.ref o, hσ, .inl ⟨rfl, vs, .inl (.inl hH)⟩, o, vs, y, rfl, rfl, hH, hy, ?_⟩
        refine p σ _ T A (Step.mut hA) (rel.mut hA fun _ => .lst upd_same (by rw [List.length_dropLast]; omega) ?_) (t.mut (rel.nT _ _ hA))
        exact reps_mut rs.dropLast (.inr ⟨i, by simp, hA⟩)
/-- x.append(y.pop(e)) -/
def sAppPop (i j : Nat) (e : EM D) : SM := fun env w => match ownL env i, ownL env j with
  | some _, some _ => Out.bind (e env w) fun d w => match d, ownL env i, ownL env j with
    | .int k, some ds, some es => if i ≠ j ∧ -(2 ^ 63) ≤ k ∧ k < 2 ^ 63 ∧ ds.length < sizeLine then (match seqIndex? k es.length with
      | some n => (match es[n]? with
        | some d => .nx ((env.set j (.ow (.lst (es.eraseIdx n)))).set i (.ow (.lst (ds ++ [d])))) w
        | none => .st)
      | none => .st) else .st
    | _, _, _ => .st
  | _, _ => .st
theorem ownL_set {env : Env} {i j : Nat} {s : Slot} (h : i ≠ j) : ownL (env.set j s) i = ownL env i := by
  unfold ownL; rw [List.getElem?_set_ne (Ne.symm h)]
theorem gs_appPop {i j : Nat} {x y : Str} {p apos cpos p2 apos2 cpos2 : Pos} (hx : PE X (.Name x p) (tVar i)) (hy : PE X (.Name y p2) (tVar j)) (he : GE X E ar ac a ea)
    (hbase : attributeBase (.Name x p) "append" X.env (eval (.Name x p) X.env) = eval (.Name x p) X.env := by rfl)
    (hbase2 : attributeBase (.Name y p2) "pop" X.env (eval (.Name y p2) X.env) = eval (.Name y p2) X.env := by rfl)
    (hfew : ((backTo cpos (starEach [.Call (.Attribute (.Name y p2) "pop" apos2) [a] [] cpos2] X.env)).all (fun x => !x.1) && (backToKw cpos (keywordEach [] X.env)).all (fun x => x.1.isSome)
      && decide ([Expr.Call (.Attribute (.Name y p2) "pop" apos2) [a] [] cpos2].length + ([] : List Keyword).length + (if ([] : List Keyword).isEmpty then 0 else 1) < 30)) = true := by rfl)
    (hfew2 : ((backTo cpos2 (starEach [a] X.env)).all (fun x => !x.1) && (backToKw cpos2 (keywordEach [] X.env)).all (fun x => x.1.isSome)
      && decide ([a].length + ([] : List Keyword).length + (if ([] : List Keyword).isEmpty then 0 else 1) < 30)) = true := by rfl)
    (hline : (apos.endLine == cpos.line) = true := by rfl) (hline2 : (apos2.endLine == cpos2.line) = true := by rfl) (hs : starEach [.Call (.Attribute (.Name y p2) "pop" apos2) [a] [] cpos2] X.env = (false, eval (.Call (.Attribute (.Name y p2) "pop" apos2) [a] [] cpos2) X.env) :: starEach [] X.env := by rfl)
    (hs2 : starEach [a] X.env = (false, eval a X.env) :: starEach [] X.env := by rfl) (hplain : (backTo cpos (starEach [] X.env)).any (·.1) = false := by rfl) (hplain2 : (backTo cpos2 (starEach [] X.env)).any (·.1) = false := by rfl)
    (hsw : swapsWith (.Call (.Attribute (.Name x p) "append" apos) [.Call (.Attribute (.Name y p2) "pop" apos2) [a] [] cpos2] [] cpos) none pos.line X.env = pure false := by rfl) :
    GS X E (.Expr (.Call (.Attribute (.Name x p) "append" apos) [.Call (.Attribute (.Name y p2) "pop" apos2) [a] [] cpos2] [] cpos) pos) (sAppPop i j ea) :=
  ps_mono (ps_expr (pe_bm PySem.F.plainAttrs_list PySem.F.slot_list_append PySem.F.type_list_append mt_append hx (pa_cons (pe_bm PySem.F.plainAttrs_list PySem.F.slot_list_pop PySem.F.type_list_pop mt_popAt hy (pa_cons he pa_nil hs2) hbase2 hfew2 hline2 hs2 hplain2) pa_nil hs) hbase hfew hline hs hplain) hsw) fun Dn σ H ⟨env, w, T, A, rel, t, p⟩ => by
    unfold sAppPop at p
    cases q : ownL env i with
    | none => rw [q] at p; exact p.elim
    | some ds =>
    cases q' : ownL env j with
    | none => rw [q, q'] at p; exact p.elim
    | some es =>
      rw [q, q'] at p
      obtain ⟨o, vs0, hA, hσ, hH, hl, rs, _⟩ := own_at rel q
      obtain ⟨o', us0, hA', hσ', hH', hl', rs', hj'⟩ := own_at rel q'
      refine ⟨.ref o, hσ, .inl ⟨rfl, vs0, .inl (.inl hH)⟩, .ref o', hσ', .inl ⟨rfl, us0, .inl (.inl hH')⟩, ?_⟩
      refine goS (f := fun d w => match d, some ds, some es with
        | .int k, some ds, some es => if i ≠ j ∧ -(2 ^ 63) ≤ k ∧ k < 2 ^ 63 ∧ ds.length < sizeLine then (match seqIndex? k es.length with
          | some n => (match es[n]? with
            | some d => .nx ((env.set j (.ow (.lst (es.eraseIdx n)))).set i (.ow (.lst (ds ++ [d])))) w
            | none => .st)
          | none => .st) else .st
        | _, _, _ => .st) rel t p fun d w1 v H1 T1 x t1 rel1 r p1 => ?_
      obtain ⟨o2, vs, hA2, hσ2, hH2, hl2, rs2, _⟩ := own_at rel1 q
      obtain ⟨o2', us, hA2', hσ2', hH2', hl2', rs2', _⟩ := own_at rel1 q'
      rw [hσ] at hσ2; cases hσ2
      rw [hσ'] at hσ2'; cases hσ2'
      cases d with
      | int k =>
        simp only at p1
        split at p1
        · rename_i hk
          cases qn : seqIndex? k es.length with
          | none => rw [qn] at p1; exact p1.elim
          | some n =>
            rw [qn] at p1
            cases qe : es[n]? with
            | none => simp only [qe] at p1; exact p1.elim
            | some d =>
              simp only [qe] at p1
              obtain ⟨y, hy, ry⟩ := rs2'.get qe
              have hne : o ≠ o' := fun e => hk.1 (rel1.inj i j o hA2 (by rw [e]; exact hA2'))
              refine ⟨o', us, k, n, y, rfl, by rw [int_of r], hH2', hk.2.1, hk.2.2.1, by rw [← rs2'.len]; exact qn, hy, ?_⟩
              refine ⟨o, vs, y, rfl, rfl, by rw [upd_ne hne]; exact hH2, by rw [← rs2.len]; exact hk.2.2.2, ?_⟩
              have b' : Bad T1 A [] o' := .inr ⟨j, by simp, hA2'⟩
              have b : Bad T1 A [] o := .inr ⟨i, by simp, hA2⟩
              have rel2 := rel1.mut (d := .lst (es.eraseIdx n)) (o := .lst (us.eraseIdx n)) hA2' fun _ => .lst upd_same (Nat.le_trans (List.length_eraseIdx_le _ _) hl2') (reps_mut (rs2'.erase n) b')
              have rel3 := rel2.mut (d := .lst (ds ++ [d])) (o := .lst (vs ++ [y])) hA2 fun _ => .lst upd_same (by rw [List.length_append]; have := hk.2.2.2; rw [rs2.len] at this; exact this) (reps_mut (reps_mut (rs2.app (.cons ry .nil)) b') b)
              exact p1 σ _ T1 A ((Step.mut hA2').trans (Step.mut hA2)) rel3 ((t1.mut (rel1.nT _ _ hA2')).mut (rel1.nT _ _ hA2))
        · exact p1.elim
      | _ => exact p1.elim
/-- x[k] = e -/
def sSet (i : Nat) (al : List Nat) (k e : EM D) : SM := fun env w => Out.bind (e env w) fun d w => match ownL env i with
  | none => .st
  | some _ => Out.bind (k env w) fun q w => match q, ownL (frzs env al) i with
    | .int n, some ds => (match ixN ds.length n with
      | some j => .nx ((frzs env al).set i (.ow (.lst (ds.set j d)))) w
      | none => .st)
    | _, _ => .st
theorem gs_setitem {i : Nat} {x : Str} {p tp : Pos} (hx : PE X (.Name x p) (tVar i)) (hk : GE X E ar2 ac2 b eb) (he : GE X E ar ac a ea) (s1 : ar ⊆ al := by simp) (s2 : ac ⊆ al := by simp)
    (h0 : ∀ v, assign (.Subscript (.Name x p) b tp) X.env v = (do
      let ov ← holding [v] (eval (.Name x p) X.env)
      let iv ← holding [v, ov] (eval b X.env)
      standAt tp
      holding [v, ov, iv] (setItem ov iv v)
      release [v, ov, iv] []) := by intro _; rfl)
    (hs : swapsWithSole [.Subscript (.Name x p) b tp] a pos.line X.env = pure false := by rfl) (hw : swappedStores [.Subscript (.Name x p) b tp] a X.env = pure none := by rfl) (h1 : (assignEach [.Subscript (.Name x p) b tp] X.env).map (·.2) = [assign (.Subscript (.Name x p) b tp) X.env] := by rfl) :
    GS X E (.Assign [.Subscript (.Name x p) b tp] a pos) (sSet i al eb ea) :=
  ps_mono (ps_asg he (pg_sub hx hk set_list h0) hs hw h1) fun Dn σ H ⟨env, w, T, A, rel, t, p⟩ => by
    refine goS (f := fun d w => match ownL env i with
      | none => .st
      | some _ => Out.bind (eb env w) fun q w => match q, ownL (frzs env al) i with
        | .int n, some ds => (match ixN ds.length n with
          | some j => .nx ((frzs env al).set i (.ow (.lst (ds.set j d)))) w
          | none => .st)
        | _, _ => .st) rel t p fun d w1 v H1 T1 x t1 rel1 r p1 => ?_
    cases q : ownL env i with
    | none => simp only [q] at p1; exact p1.elim
    | some ds0 =>
      simp only [q] at p1
      obtain ⟨o, vs0, hA, hσ, hH, _, _, _⟩ := own_at rel1 q
      refine ⟨.ref o, hσ, ?_⟩
      refine goS (f := fun q w => match q, ownL (frzs env al) i with
        | .int n, some ds => (match ixN ds.length n with
          | some j => .nx ((frzs env al).set i (.ow (.lst (ds.set j d)))) w
          | none => .st)
        | _, _ => .st) rel1 t1 p1 fun d2 w2 v2 H2 T2 x2 t2 rel2 r2 p2 => ?_
      have rel3 := frzs_rel al rel2
      cases d2 with
      | int n =>
        cases q2 : ownL (frzs env al) i with
        | none => simp only [q2] at p2; exact p2.elim
        | some ds =>
          simp only [q2] at p2
          obtain ⟨o2, vs, hA2, hσ2, hH2, hl2, rs, _⟩ := own_at rel3 q2
          rw [hσ] at hσ2; cases hσ2
          cases qj : ixN ds.length n with
          | none => simp only [qj] at p2; exact p2.elim
          | some j =>
            simp only [qj] at p2
            refine ⟨o, vs, n, j, rfl, int_of r2, hH2, by rw [← rs.len]; exact qj, ?_⟩
            have rd : Rep X.K X.mg T2 (Bad T2 (erAs A al) []) H2 d v := ((rep2_ext r x2).rep s1 s2).le fun b m => erAs_bad m
            refine p2 σ _ T2 (erAs A al) (Step.ers.trans (Step.mut hA2)) (rel3.mut hA2 fun _ => .lst upd_same (by rw [List.length_set]; exact hl2) ?_) (t2.mut (rel3.nT _ _ hA2))
            exact reps_mut (rs.set rd j) (.inr ⟨i, by simp, hA2⟩)
      | _ => exact p2.elim
/-- x[k] += e, ints -/
theorem get_list : PGet X (rIxL X.K) := by
  intro pins s σ H x y v u Q I rx ry h
  obtain ⟨p, xs, i, z, rfl, rfl, hq, he, q⟩ := h
  cases rx
  obtain ⟨t, rfl⟩ := ry
  obtain ⟨its, r, pl, hz⟩ := I.list hq
  obtain ⟨j, h1, h2, h3, h4, h5⟩ := atI_get he
  obtain ⟨w, ew, rw'⟩ := r.get h2
  have hl := r.length
  have hn := line63
  have fin : EP X pins σ Q w s := ⟨z, H, I, rw', q⟩
  by_cases h0 : 0 ≤ i
  · have hj : i.toNat = j := by
      rw [seqIndex_of h0 h5] at h1
      exact Option.some.inj h1
    exact wpAny_getItem_list pl.isList h0 (by omega) (by rw [hj]; simpa using ew) fin
  · have hj : (i + (its.toArray.size : Int)).toNat = j := by
      rw [seqIndex_neg (by omega) h4] at h1
      rw [List.size_toArray, ← hl]
      exact Option.some.inj h1
    exact wpAny_getItem_list_neg pl.isList (by omega) (by rw [List.size_toArray] <;> omega) (by omega) (by rw [hj]; simpa using ew) fin
def sAug (i : Nat) (k e : EM D) : SM := fun env w => match ownL env i with
  | none => .st
  | some _ => Out.bind (k env w) fun q w => match q, ownL env i with
    | .int n, some ds => (match ixN ds.length n with
      | some j => (match ds[j]? with
        | some (.int old) => Out.bind (e env w) fun d w => (match d with
          | .int new => .nx (env.set i (.ow (.lst (ds.set j (.int (old + new)))))) w
          | _ => .st)
        | _ => .st)
      | none => .st)
    | _, _ => .st
theorem gs_augitem {i : Nat} {x : Str} {p tp : Pos} (hx : PE X (.Name x p) (tVar i)) (hk : GE X E ar2 ac2 b eb) (he : GE X E ar ac a ea)
    (h0 : ∀ ov iv new, augStore b ov iv new = (do holding [new, ov, iv] (setItem ov iv new); release [new, ov, iv] []; pure .next) := by intros; rfl) :
    GS X E (.AugAssign (.Subscript (.Name x p) b tp) .Add a pos) (sAug i eb ea) :=
  ps_mono (ps_augS hx hk get_list he ip_add set_list h0) fun Dn σ H ⟨env, w, T, A, rel, t, p⟩ => by
    unfold sAug at p
    cases q : ownL env i with
    | none => simp only [q] at p; exact p.elim
    | some ds =>
      simp only [q] at p
      obtain ⟨o, vs0, hA, hσ, hH, _, _, _⟩ := own_at rel q
      refine ⟨.ref o, hσ, ?_⟩
      refine goS (f := fun q w => match q, some ds with
        | .int n, some ds => (match ixN ds.length n with
          | some j => (match ds[j]? with
            | some (.int old) => Out.bind (ea env w) fun d w => (match d with
              | .int new => .nx (env.set i (.ow (.lst (ds.set j (.int (old + new)))))) w
              | _ => .st)
            | _ => .st)
          | none => .st)
        | _, _ => .st) rel t p fun d2 w2 v2 H2 T2 x2 t2 rel2 r2 p2 => ?_
      cases d2 with
      | int n =>
        simp only at p2
        obtain ⟨o2, vs, hA2, hσ2, hH2, hl2, rs, _⟩ := own_at rel2 q
        rw [hσ] at hσ2; cases hσ2
        cases qj : ixN ds.length n with
        | none => simp only [qj] at p2; exact p2.elim
        | some j =>
          simp only [qj] at p2
          split at p2
          · rename_i old qo
            obtain ⟨y, hy, ry⟩ := rs.get qo
            cases ry
            refine ⟨o, vs, n, .int old, rfl, int_of r2, .inl (.inl hH2), ?_, ?_⟩
            · unfold atI; rw [← rs.len, qj]; exact hy
            refine goS rel2 t2 p2 fun d3 w3 v3 H3 T3 x3 t3 rel3 r3 p3 => ?_
            cases d3 with
            | int new =>
              obtain ⟨o3, us, hA3, hσ3, hH3, hl3, rs3, _⟩ := own_at rel3 q
              rw [hσ] at hσ3; cases hσ3
              refine ⟨old, new, rfl, int_of r3, o, us, n, j, rfl, int_of r2, hH3, by rw [← rs3.len]; exact qj, ?_⟩
              refine p3 σ _ T3 A (Step.mut hA3) (rel3.mut hA3 fun _ => .lst upd_same (by rw [List.length_set]; exact hl3) ?_) (t3.mut (rel3.nT _ _ hA3))
              exact reps_mut (rs3.set (.int _) j) (.inr ⟨i, by simp, hA3⟩)
            | _ => exact p3.elim
          · exact p2.elim
      | _ => exact p2.elim
end
end DL
namespace DL
open PySem PySem.Spec PyProof.Rows L2
/-! ### what is walked -/
def NewOr (H H' : Hp) : Prop := H' = H ∨ ∃ p o, H p = none ∧ H' = upd H p o
def Y (K : PySem.W.Frag) (mg : Mg) (J : It) (ds : List D) (T : Tt) (B : Addr → Prop) (H : Hp) : Prop :=
  ∀ i, (∀ d, ds[i]? = some d → J.go i H ∧ ∀ x H', J.yld i H x H' → NewOr H H' ∧ Rep K mg T B H' d x) ∧ (ds.length ≤ i → J.stop i H)
def YE (K : PySem.W.Frag) (mg : Mg) (J : It) (T : Tt) (A : Ow) (ac : List Nat) (H : Hp) (ds : List D) : Prop := ∀ T' H' Bx, Ext T H T' H' → (∀ p, H' p = none → ¬ Bx p) → (∀ b, H b ≠ none → Bx b → Bad T A ac b) → Y K mg J ds T' Bx H'
def YS (K : PySem.W.Frag) (mg : Mg) (J : It) (T : Tt) (A : Ow) (H : Hp) (ds : List D) : Prop := ∀ T' A' H', Step T A H T' A' H' → (∀ p, H' p = none → ¬ Bad T' A' [] p) → Y K mg J ds T' (Bad T' A' []) H'
def PostI (K : PySem.W.Frag) (mg : Mg) (E : XK) (T : Tt) (A : Ow) (al ac : List Nat) (H : Hp) (R : It → Hp → Prop) : Res (List D) → Prop
  | .ok ds w => ∀ J H' T', Ext T H T' H' → Tins H' T' w → YE K mg J T' A ac H' ds → YS K mg J T' (erAs A al) H' ds → R J H'
  | .ex e w => ∀ cls oa H' T', Ext T H T' H' → Tins H' T' w → XR mg e cls oa H' → E cls oa H'
  | .st => False
def liftI (K : PySem.W.Frag) (mg : Mg) (E : XK) (al ac : List Nat) (ι : EM (List D)) : TI := fun σ H R => ∃ env w T A, RelS K mg T A σ H env ∧ Tins H T w ∧ PostI K mg E T A al ac H R (ι env w)
def GI (X : Cx) (E : XK) (al ac : List Nat) (tg e : Expr) (ι : EM (List D)) : Prop := PI X tg e (liftI X.K X.mg E al ac ι)
theorem pi_mono {X : Cx} {tg e : Expr} {t u : TI} (h : PI X tg e t) (m : ∀ σ H R, u σ H R → t σ H R) : PI X tg e u := ⟨fun pins s σ H R I q => h.run pins s σ H R I (m _ _ _ q)⟩
section
variable {X : Cx} {E : XK} {al ar ac ar1 ac1 ar2 ac2 : List Nat} {a b c tg : Expr} {pos : Pos} {ea eb ec : EM D} {K : PySem.W.Frag} {mg : Mg}
theorem PostI.ext {T A H T' H' R} {r : Res (List D)} (h : PostI K mg E T A al ac H R r) (x : Ext T H T' H') : PostI K mg E T' A al ac H' R r := by
  cases r with
  | ok d w => exact fun J H2 T2 y t ye ys => h J H2 T2 (x.trans y) t ye ys
  | ex e w => exact fun c o H2 T2 y t r => h c o H2 T2 (x.trans y) t r
  | st => exact h
theorem goI {T A σ H env w} {R : It → Hp → Prop} {ε : EM D} {f : D → W → Res (List D)} {Q : VK} (rel : RelS K mg T A σ H env) (t : Tins H T w) (hp : PostI K mg E T A al ac H R ((ε env w).bind f))
    (k : ∀ d w1 v H1 T1, Ext T H T1 H1 → Tins H1 T1 w1 → RelS K mg T1 A σ H1 env → Rep2 K mg T1 A ar1 ac1 H1 d v → PostI K mg E T1 A al ac H1 R (f d w1) → Q v H1) : liftE K mg E ar1 ac1 ε σ H Q :=
  goP (P := fun T H r => PostI K mg E T A al ac H R r) (fun _ _ _ _ h => h) (fun _ _ h => h) (fun _ _ _ _ _ h x => h.ext x) rel t hp k
/-- sources -/
theorem y_list {T B H} {a : Addr} {vs : List V} {ds : List D} (h : H a = some (.lst vs)) (r : Reps K mg T B H ds vs) : Y K mg (Itl K a) ds T B H := fun i => by
  have s : SqL K H a vs := .inl (.inl h)
  refine ⟨fun d e => ?_, fun hl => ⟨vs, s, by rw [← r.len]; exact hl⟩⟩
  obtain ⟨v, e2, rv⟩ := r.get e
  refine ⟨⟨vs, v, s, e2⟩, fun x H' y => ?_⟩
  obtain ⟨rfl, y⟩ := y
  have z := y vs s
  rw [e2] at z; cases z
  exact ⟨.inl rfl, rv⟩
theorem y_tup {T B H} {a : Addr} {vs : List V} {ds : List D} (h : SqT K H a vs) (r : Reps K mg T B H ds vs) : Y K mg (Itt K a) ds T B H := fun i => by
  refine ⟨fun d e => ?_, fun hl => ⟨vs, h, by rw [← r.len]; exact hl⟩⟩
  obtain ⟨v, e2, rv⟩ := r.get e
  refine ⟨⟨vs, v, h, e2⟩, fun x H' y => ?_⟩
  obtain ⟨rfl, y⟩ := y
  have z := y vs h
  rw [e2] at z; cases z
  exact ⟨.inl rfl, rv⟩
theorem y_revL {T B H} {a : Addr} {vs : List V} {ds : List D} (h : H a = some (.lst vs)) (r : Reps K mg T B H ds vs) : Y K mg (Itv K a vs.length) ds.reverse T B H := fun i => by
  have s : SqL K H a vs := .inl (.inl h)
  refine ⟨fun d e => ?_, fun hl => by show vs.length ≤ i; rw [← r.len]; simpa using hl⟩
  have hi : i < ds.length := by have := (List.getElem?_eq_some_iff.mp e).1; simpa using this
  rw [List.getElem?_reverse hi, r.len] at e
  obtain ⟨v, e2, rv⟩ := r.get e
  refine ⟨⟨by rw [← r.len]; exact hi, vs, v, s, e2⟩, fun x H' y => ?_⟩
  obtain ⟨rfl, y⟩ := y
  have z := y vs s
  rw [e2] at z; cases z
  exact ⟨.inl rfl, rv⟩
theorem y_revT {T B H} {a : Addr} {vs : List V} {ds : List D} (s : SqT K H a vs) (r : Reps K mg T B H ds vs) : Y K mg (RT.ItvT K a vs.length) ds.reverse T B H := fun i => by
  refine ⟨fun d e => ?_, fun hl => by show vs.length ≤ i; rw [← r.len]; simpa using hl⟩
  have hi : i < ds.length := by have := (List.getElem?_eq_some_iff.mp e).1; simpa using this
  rw [List.getElem?_reverse hi, r.len] at e
  obtain ⟨v, e2, rv⟩ := r.get e
  refine ⟨⟨by rw [← r.len]; exact hi, vs, v, s, e2⟩, fun x H' y => ?_⟩
  obtain ⟨rfl, y⟩ := y
  have z := y vs s
  rw [e2] at z; cases z
  exact ⟨.inl rfl, rv⟩
def rngL (lo c : Int) (n : Nat) : List D := (List.range n).map fun i => .int (lo + (i : Nat) * c)
theorem rngL_get {lo c : Int} {n i : Nat} {d : D} (e : (rngL lo c n)[i]? = some d) : i < n ∧ d = .int (lo + (i : Nat) * c) := by
  unfold rngL at e
  rw [List.getElem?_map] at e
  cases q : (List.range n)[i]? with
  | none => rw [q] at e; cases e
  | some j =>
    rw [q] at e
    obtain ⟨h1, h2⟩ := List.getElem?_eq_some_iff.mp q
    simp at h1 h2
    subst h2
    cases e
    exact ⟨h1, rfl⟩
theorem y_rng {T B H} {lo : Int} {n : Nat} : Y K mg (Itr lo n) (rngL lo 1 n) T B H := fun i => by
  refine ⟨fun d e => ?_, fun hl => by show n ≤ i; unfold rngL at hl; simpa using hl⟩
  obtain ⟨h1, rfl⟩ := rngL_get e
  refine ⟨h1, fun x H' y => ?_⟩
  obtain ⟨rfl, rfl⟩ := y
  rw [Int.mul_one]
  exact ⟨.inl rfl, .int _⟩
theorem y_rngC {T B H} {lo c : Int} {n : Nat} : Y K mg (Itc lo c n) (rngL lo c n) T B H := fun i => by
  refine ⟨fun d e => ?_, fun hl => by show n ≤ i; unfold rngL at hl; simpa using hl⟩
  obtain ⟨h1, rfl⟩ := rngL_get e
  refine ⟨h1, fun x H' y => ?_⟩
  obtain ⟨rfl, rfl⟩ := y
  exact ⟨.inl rfl, .int _⟩
def sgnL (x : Str) : List D := x.cps.toList.map fun c => .str ⟨#[c]⟩
theorem y_str {T B H} {z : Str} : Y K mg (Its z) (sgnL z) T B H := fun i => by
  refine ⟨fun d e => ?_, fun hl => by show z.cps.size ≤ i; unfold sgnL at hl; simpa using hl⟩
  unfold sgnL at e
  rw [List.getElem?_map] at e
  cases q : z.cps.toList[i]? with
  | none => rw [q] at e; cases e
  | some j =>
    rw [q] at e
    cases e
    have q : z.cps[i]? = some j := by simpa using q
    refine ⟨(Array.getElem?_eq_some_iff.mp q).1, fun x H' y => ?_⟩
    obtain ⟨rfl, c, y, rfl⟩ := y
    rw [q] at y; cases y
    exact ⟨.inl rfl, .str _⟩
def zipD : List D → List D → List D
  | d :: ds, e :: es => .tup [d, e] :: zipD ds es
  | _, _ => []
theorem zipD_get : ∀ {ds es : List D} {i : Nat} {d : D}, (zipD ds es)[i]? = some d → ∃ x y, ds[i]? = some x ∧ es[i]? = some y ∧ d = .tup [x, y]
  | [], _, _, _, h => by simp [zipD] at h
  | _ :: _, [], _, _, h => by simp [zipD] at h
  | x :: ds, y :: es, 0, d, h => by simp [zipD] at h; exact ⟨x, y, by simp, by simp, h.symm⟩
  | x :: ds, y :: es, i + 1, d, h => by
    have h : (zipD ds es)[i]? = some d := by simpa [zipD] using h
    simpa using zipD_get h
theorem zipD_len : ∀ {ds es : List D}, (zipD ds es).length = min ds.length es.length
  | [], _ => by simp [zipD]
  | _ :: _, [] => by simp [zipD]
  | x :: ds, y :: es => by simp [zipD, zipD_len (ds := ds) (es := es)]
theorem rep_pair {T B H} {d e : D} {u v : V} {p : Addr} (hb : ¬ B p) (n : H p = none) (r : Rep K mg T B H d u) (q : Rep K mg T B H e v) : Rep K mg T B (upd H p (.tup [u, v])) (.tup [d, e]) (.ref p) := by
  have k : Keep B H (upd H p (.tup [u, v])) := fun a o _ h => by rw [upd_ne (ne_of_none h n)]; exact h
  exact .tup (.inl ⟨hb, by show 2 ≤ sizeLine; decide, upd_same⟩) (.cons (Rep.keep k (fun _ _ m => m) (fun _ _ e => e) _ _ r) (.cons (Rep.keep k (fun _ _ m => m) (fun _ _ e => e) _ _ q) .nil))
theorem y_zipL {T B H} {a b : Addr} {vs us : List V} {ds es : List D} (nb : ∀ p, H p = none → ¬ B p) (h : H a = some (.lst vs)) (h' : H b = some (.lst us)) (r : Reps K mg T B H ds vs) (r' : Reps K mg T B H es us) : Y K mg (Itz K a b) (zipD ds es) T B H := fun i => by
  have s : SqL K H a vs := .inl (.inl h)
  have s' : SqL K H b us := .inl (.inl h')
  refine ⟨fun d e => ?_, fun hl => ⟨vs, us, s, s', by rw [zipD_len] at hl; rw [← r.len, ← r'.len]; omega⟩⟩
  obtain ⟨x, y, ex, ey, rfl⟩ := zipD_get e
  obtain ⟨v, e2, rv⟩ := r.get ex
  obtain ⟨u, e3, ru⟩ := r'.get ey
  refine ⟨⟨vs, us, v, u, s, s', e2, e3⟩, fun x H' z => ?_⟩
  obtain ⟨p, v', u', rfl, n, rfl, z1, z2⟩ := z
  have z1 := z1 vs s
  have z2 := z2 us s'
  rw [e2] at z1; cases z1
  rw [e3] at z2; cases z2
  exact ⟨.inr ⟨_, _, n, rfl⟩, rep_pair (nb p n) n rv ru⟩
theorem y_zipT {T B H} {a b : Addr} {vs us : List V} {ds es : List D} (nb : ∀ p, H p = none → ¬ B p) (s : SqT K H a vs) (s' : SqT K H b us) (r : Reps K mg T B H ds vs) (r' : Reps K mg T B H es us) : Y K mg (RZ.ItzT K a b) (zipD ds es) T B H := fun i => by
  refine ⟨fun d e => ?_, fun hl => ⟨vs, us, s, s', by rw [zipD_len] at hl; rw [← r.len, ← r'.len]; omega⟩⟩
  obtain ⟨x, y, ex, ey, rfl⟩ := zipD_get e
  obtain ⟨v, e2, rv⟩ := r.get ex
  obtain ⟨u, e3, ru⟩ := r'.get ey
  refine ⟨⟨vs, us, v, u, s, s', e2, e3⟩, fun x H' z => ?_⟩
  obtain ⟨p, v', u', rfl, n, rfl, z1, z2⟩ := z
  have z1 := z1 vs s
  have z2 := z2 us s'
  rw [e2] at z1; cases z1
  rw [e3] at z2; cases z2
  exact ⟨.inr ⟨_, _, n, rfl⟩, rep_pair (nb p n) n rv ru⟩
def enumD : Nat → List D → List D
  | _, [] => []
  | k, d :: ds => .tup [.int (k : Nat), d] :: enumD (k + 1) ds
theorem enumD_get : ∀ {ds : List D} {k i : Nat} {d : D}, (enumD k ds)[i]? = some d → ∃ x, ds[i]? = some x ∧ d = .tup [.int ((k + i : Nat)), x]
  | [], _, _, _, h => by simp [enumD] at h
  | x :: ds, k, 0, d, h => by simp [enumD] at h; exact ⟨x, by simp, by simpa using h.symm⟩
  | x :: ds, k, i + 1, d, h => by
    have h : (enumD (k + 1) ds)[i]? = some d := by simpa [enumD] using h
    obtain ⟨y, h1, h2⟩ := enumD_get h
    exact ⟨y, by simpa using h1, by rw [h2]; congr 4; omega⟩
theorem enumD_len : ∀ {ds : List D} {k : Nat}, (enumD k ds).length = ds.length
  | [], _ => rfl
  | x :: ds, k => by simp [enumD, enumD_len (ds := ds)]
theorem y_enumL {T B H} {a : Addr} {vs : List V} {ds : List D} (nb : ∀ p, H p = none → ¬ B p) (h : H a = some (.lst vs)) (r : Reps K mg T B H ds vs) : Y K mg (Ite K a) (enumD 0 ds) T B H := fun i => by
  have s : SqL K H a vs := .inl (.inl h)
  refine ⟨fun d e => ?_, fun hl => ⟨vs, s, by rw [enumD_len] at hl; rw [← r.len]; exact hl⟩⟩
  obtain ⟨x, ex, rfl⟩ := enumD_get e
  obtain ⟨v, e2, rv⟩ := r.get ex
  refine ⟨⟨vs, v, s, e2⟩, fun x H' z => ?_⟩
  obtain ⟨p, v', rfl, n, rfl, z1⟩ := z
  have z1 := z1 vs s
  rw [e2] at z1; cases z1
  rw [Nat.zero_add]
  exact ⟨.inr ⟨_, _, n, rfl⟩, rep_pair (nb p n) n (.int _) rv⟩
/-! both views of a source -/
theorem reps_bx {T A H T' H'} {Bx : Addr → Prop} {ds : List D} {vs : List V} (r : Reps K mg T (Bad T A ac) H ds vs) (x : Ext T H T' H') (hb : ∀ b, H b ≠ none → Bx b → Bad T A ac b) : Reps K mg T' Bx H' ds vs :=
  Reps.keep (fun a o n e => x.keep a o (fun m => n (.inl m)) e) hb x.at ds vs r
theorem ls_ye {T A H T' H'} {o : Addr} {vs : List V} (l : Ls (Bad T A ar) H o vs) (x : Ext T H T' H') : H' o = some (.lst vs) := x.keep _ _ (fun m => l.1 (.inl m)) l.2.2
theorem ls_ys {T A H T' A' H'} {o : Addr} {vs : List V} (l : Ls (Bad T A ar) H o vs) (s : ar ⊆ al) (x : Step T (erAs A al) H T' A' H') : H' o = some (.lst vs) := x.keep _ _ (fun m => l.1 (Bad.le (fun _ h => s h) (erAs_bad m))) l.2.2
theorem tp_ye {T A H T' H'} {o : Addr} {vs : List V} (l : Tp K (Bad T A ac) H o vs) (x : Ext T H T' H') : SqT K H' o vs := by
  rcases l with ⟨n, _, l⟩ | ⟨_, l⟩
  · exact .inl (.inl (x.keep _ _ (fun m => n (.inl m)) l))
  · exact sqT_any l
theorem tp_ys {T A H T' A' H'} {o : Addr} {vs : List V} (l : Tp K (Bad T A ac) H o vs) (s : ac ⊆ al) (x : Step T (erAs A al) H T' A' H') : SqT K H' o vs := by
  rcases l with ⟨n, _, l⟩ | ⟨_, l⟩
  · exact .inl (.inl (x.keep _ _ (fun m => n (Bad.le (fun _ h => s h) (erAs_bad m))) l))
  · exact sqT_any l
theorem reps_ys {T A H T' A' H'} {ds : List D} {vs : List V} (r : Reps K mg T (Bad T A ac) H ds vs) (s : ac ⊆ al) (x : Step T (erAs A al) H T' A' H') : Reps K mg T' (Bad T' A' []) H' ds vs :=
  reps_step (r.le fun b m => Bad.le (fun _ h => s h) (erAs_bad m)) x
/-! ### the iterables -/
theorem pi_seq {l : Expr} {tl : TE} (hl : PE X l tl) : PI X tg l (fun σ H R => tl σ H fun x H1 => ∃ a, x = .ref a ∧ (((∃ xs, SqL X.K H1 a xs) ∧ R (Itl X.K a) H1) ∨ ((∃ xs, SqT X.K H1 a xs) ∧ R (Itt X.K a) H1))) := by
  refine ⟨fun pins s σ H R I h => ?_⟩
  refine thn (hl.run pins s σ H _ I h) fun v s1 ⟨x, H1, I1, r1, q1⟩ => ?_
  obtain ⟨a, e, q1⟩ := q1
  subst e
  cases r1
  rcases q1 with ⟨⟨xs, hq⟩, q⟩ | ⟨⟨xs, hq⟩, q⟩
  · obtain ⟨its, rv, p, hz⟩ := I1.list hq
    refine wpAny_pyIter_list p.isList ?_
    refine ⟨s1.heap.objs.size, [s1.heap.objs.size], _, _, H1, rfl, I1.kept (t' := s1.toks) fun b o e => Heap.get?_push_of_some _ e, turn_list a _, ⟨_, Heap.get?_push_size _ rfl, rfl, rfl⟩, fun b hb => ?_, q⟩
    have e : b = s1.heap.objs.size := by simpa using hb
    subst e
    exact I1.fpOk (Nat.le_refl _) (I1.hok.fresh (Nat.le_refl _))
  · obtain ⟨its, rv, p, hz⟩ := I1.tuple hq
    refine wpAny_pyIter_tuple (show s1.heap.IsTuple a its.toArray from p) ?_
    refine ⟨s1.heap.objs.size, [s1.heap.objs.size], _, _, H1, rfl, I1.kept (t' := s1.toks) fun b o e => Heap.get?_push_of_some _ e, turn_tuple a _, ⟨_, Heap.get?_push_size _ rfl, rfl, rfl⟩, fun b hb => ?_, q⟩
    have e : b = s1.heap.objs.size := by simpa using hb
    subst e
    exact I1.fpOk (Nat.le_refl _) (I1.hok.fresh (Nat.le_refl _))
def seqM : D → M (List D)
  | .tup ds => fun w => .ok ds w
  | .lst ds => fun w => .ok ds w
  | _ => fun _ => .st
theorem gi_seq (he : GE X E ar ac a ea) (s1 : ar ⊆ al := by simp) (s2 : ac ⊆ al := by simp) : GI X E al ac tg a (dUn seqM ea) := pi_mono (pi_seq he) fun σ H R ⟨env, w, T, A, rel, t, p⟩ =>
  goI rel t p fun d w1 v H1 T1 x t1 rel1 r p1 => by
    unfold seqM at p1
    split at p1
    · obtain ⟨o, vs, rfl, l, q⟩ := tp_of r
      exact ⟨o, rfl, .inr ⟨⟨vs, l.sq⟩, p1 _ H1 T1 .refl t1 (fun T' H' Bx y nb hb => y_tup (tp_ye l y) (reps_bx q y hb)) (fun T' A' H' y nb => y_tup (tp_ys l s2 y) (reps_ys q s2 y))⟩⟩
    · obtain ⟨o, vs, rfl, l, q⟩ := r
      exact ⟨o, rfl, .inl ⟨⟨vs, l.sq⟩, p1 _ H1 T1 .refl t1 (fun T' H' Bx y nb hb => y_list (ls_ye l y) (reps_bx q y hb)) (fun T' A' H' y nb => y_list (ls_ys l s1 y) (reps_ys q s2 y))⟩⟩
    · exact p1.elim
def strM : D → M (List D)
  | .str z => fun w => .ok (sgnL z) w
  | _ => fun _ => .st
theorem gi_str (he : GE X E ar ac a ea) : GI X E [] [] tg a (dUn strM ea) := pi_mono (pi_str he) fun σ H R ⟨env, w, T, A, rel, t, p⟩ =>
  goI rel t p fun d w1 v H1 T1 x t1 rel1 r p1 => by
    unfold strM at p1
    split at p1
    · exact ⟨_, str_of r, p1 _ H1 T1 .refl t1 (fun T' H' Bx y nb hb => y_str) (fun T' A' H' y nb => y_str)⟩
    · exact p1.elim
def b62 (i : Int) : Bool := -(2 ^ 62) ≤ i && i < 2 ^ 62
theorem b62_of {i : Int} (h : b62 i = true) : -(2 ^ 62) ≤ i ∧ i < 2 ^ 62 := by
  unfold b62 at h; simpa using h
def rng1 : D → M (List D)
  | .int j => fun w => if b62 j then .ok (rngL 0 1 j.toNat) w else .st
  | _ => fun _ => .st
theorem gi_range1 {p : Pos} (hm : X.mg "range" = none) (he : GE X E ar ac a ea) (hg : Gl X "range" := by rfl) (hs : starEach [a] X.env = [(false, eval a X.env)] := by rfl) : GI X E [] [] tg (.Call (.Name "range" p) [a] [] pos) (dUn rng1 ea) :=
  pi_mono (pi_range1 hg hm (pa_cons he pa_nil hs) hs) fun σ H R ⟨env, w, T, A, rel, t, p⟩ => goI rel t p fun d w1 v H1 T1 x t1 rel1 r p1 => by
    unfold rng1 at p1
    split at p1
    · split at p1
      · rename_i h
        obtain ⟨h1, h2⟩ := b62_of h
        exact ⟨_, by rw [int_of r], h1, h2, p1 _ H1 T1 .refl t1 (fun T' H' Bx y nb hb => y_rng) (fun T' A' H' y nb => y_rng)⟩
      · exact p1.elim
    · exact p1.elim
def rng2 : D → D → M (List D)
  | .int i, .int j => fun w => if b62 i && b62 j then .ok (rngL i 1 (j - i).toNat) w else .st
  | _, _ => fun _ => .st
theorem gi_range2 {p : Pos} (hm : X.mg "range" = none) (he : GE X E ar1 ac1 a ea) (hf : GE X E ar2 ac2 b eb) (hg : Gl X "range" := by rfl) (hs : starEach [a, b] X.env = [(false, eval a X.env), (false, eval b X.env)] := by rfl) (hs2 : starEach [b] X.env = [(false, eval b X.env)] := by rfl) : GI X E [] [] tg (.Call (.Name "range" p) [a, b] [] pos) (dBinF rng2 ea eb) :=
  pi_mono (pi_range2 hg hm (pa_cons he (pa_cons hf pa_nil hs2) (by rw [hs, hs2])) hs hs2) fun σ H R ⟨env, w, T, A, rel, t, p⟩ =>
    goI (f := fun x w => (eb env w).bind fun y w => rng2 x y w) rel t p fun d w1 v H1 T1 x t1 rel1 r p1 => goI rel1 t1 p1 fun d2 w2 v2 H2 T2 x2 t2 rel2 r2 p2 => by
    unfold rng2 at p2
    split at p2
    · split at p2
      · rename_i h
        simp only [Bool.and_eq_true] at h
        obtain ⟨h1, h2⟩ := b62_of h.1
        obtain ⟨h3, h4⟩ := b62_of h.2
        exact ⟨_, _, by rw [int_of r, int_of r2], ⟨h1, h2, h3, h4⟩, p2 _ H2 T2 .refl t2 (fun T' H' Bx y nb hb => y_rng) (fun T' A' H' y nb => y_rng)⟩
      · exact p2.elim
    · exact p2.elim
def rng3 : D → D → D → M (List D)
  | .int i, .int j, .int c => fun w => if c ≠ 0 ∧ c.natAbs < 1073741824 ∧ Builtin.Range.small i j c = true ∧ 0 ≤ Builtin.Range.rangeSize i j c then .ok (rngL i c (Builtin.Range.rangeSize i j c).toNat) w else .st
  | _, _, _ => fun _ => .st
def dTri {α : Type} (g : D → D → D → M α) (e f h : EM D) : EM α := fun env w => (e env w).bind fun x w => (f env w).bind fun y w => (h env w).bind fun z w => g x y z w
theorem gi_range3 {p : Pos} {ar3 ac3 : List Nat} (hm : X.mg "range" = none) (he : GE X E ar1 ac1 a ea) (hf : GE X E ar2 ac2 b eb) (hh : GE X E ar3 ac3 c ec) (hg : Gl X "range" := by rfl) (hs : starEach [a, b, c] X.env = (false, eval a X.env) :: starEach [b, c] X.env := by rfl) (hs2 : starEach [b, c] X.env = (false, eval b X.env) :: starEach [c] X.env := by rfl) (hs3 : starEach [c] X.env = (false, eval c X.env) :: starEach [] X.env := by rfl) (hpl : (backTo pos (starEach [b, c] X.env)).any (·.1) = false := by rfl) : GI X E [] [] tg (.Call (.Name "range" p) [a, b, c] [] pos) (dTri rng3 ea eb ec) :=
  pi_mono (pi_range3 hg hm (pa_cons he (pa_cons hf (pa_cons hh pa_nil hs3) hs2) hs) hs hpl) fun σ H R ⟨env, w, T, A, rel, t, p⟩ =>
    goI (f := fun x w => (eb env w).bind fun y w => (ec env w).bind fun z w => rng3 x y z w) rel t p fun d w1 v H1 T1 x t1 rel1 r p1 => goI (f := fun y w => (ec env w).bind fun z w => rng3 d y z w) rel1 t1 p1 fun d2 w2 v2 H2 T2 x2 t2 rel2 r2 p2 => goI rel2 t2 p2 fun d3 w3 v3 H3 T3 x3 t3 rel3 r3 p3 => by
    unfold rng3 at p3
    split at p3
    · split at p3
      · rename_i h
        exact ⟨_, _, _, _, by rw [int_of r, int_of r2, int_of r3], ⟨h.1, h.2.1, h.2.2.1, (Int.toNat_of_nonneg h.2.2.2).symm⟩, p3 _ H3 T3 .refl t3 (fun T' H' Bx y nb hb => y_rngC) (fun T' A' H' y nb => y_rngC)⟩
      · exact p3.elim
    · exact p3.elim
def revM : D → M (List D)
  | .tup ds => fun w => .ok ds.reverse w
  | .lst ds => fun w => .ok ds.reverse w
  | _ => fun _ => .st
theorem gi_rev {p : Pos} (hm : X.mg "reversed" = none) (he : GE X E ar ac a ea) (s1 : ar ⊆ al := by simp) (s2 : ac ⊆ al := by simp) (hg : Gl X "reversed" := by rfl) (hs : starEach [a] X.env = (false, eval a X.env) :: starEach [] X.env := by rfl) : GI X E al ac tg (.Call (.Name "reversed" p) [a] [] pos) (dUn revM ea) :=
  pi_mono (RT.pi_revA hg hm he hs) fun σ H R ⟨env, w, T, A, rel, t, p⟩ => goI rel t p fun d w1 v H1 T1 x t1 rel1 r p1 => by
    unfold revM at p1
    split at p1
    · obtain ⟨o, vs, rfl, l, q⟩ := tp_of r
      exact ⟨o, vs, rfl, .inr ⟨l.sq, p1 _ H1 T1 .refl t1 (fun T' H' Bx y nb hb => y_revT (tp_ye l y) (reps_bx q y hb)) (fun T' A' H' y nb => y_revT (tp_ys l s2 y) (reps_ys q s2 y))⟩⟩
    · obtain ⟨o, vs, rfl, l, q⟩ := r
      exact ⟨o, vs, rfl, .inl ⟨l.sq, p1 _ H1 T1 .refl t1 (fun T' H' Bx y nb hb => y_revL (ls_ye l y) (reps_bx q y hb)) (fun T' A' H' y nb => y_revL (ls_ys l s1 y) (reps_ys q s2 y))⟩⟩
    · exact p1.elim
def zipM : D → D → M (List D)
  | .tup ds, .tup es => fun w => .ok (zipD ds es) w
  | .lst ds, .lst es => fun w => .ok (zipD ds es) w
  | _, _ => fun _ => .st
theorem gi_zip {p tpos : Pos} {elts : List Expr} {kk : Nat} (hm : X.mg "zip" = none) (he : GE X E ar1 ac1 a ea) (hf : GE X E ar2 ac2 b eb) (s1 : ar1 ⊆ al := by simp) (s2 : ac1 ⊆ al := by simp) (s3 : ar2 ⊆ al := by simp) (s4 : ac2 ⊆ al := by simp) (s5 : ac1 ⊆ ac := by simp) (s6 : ac2 ⊆ ac := by simp) (hg : Gl X "zip" := by rfl)
    (hs : starEach [a, b] X.env = (false, eval a X.env) :: starEach [b] X.env := by rfl) (hs2 : starEach [b] X.env = (false, eval b X.env) :: starEach [] X.env := by rfl) (hpl : (backTo pos (starEach [b] X.env)).any (·.1) = false := by rfl) : GI X E al ac (.Tuple elts kk tpos) (.Call (.Name "zip" p) [a, b] [] pos) (dBinF zipM ea eb) :=
  pi_mono (RZ.pi_zipA hg hm (pa_cons he (pa_cons hf pa_nil hs2) hs) hs hpl) fun σ H R ⟨env, w, T, A, rel, t, p⟩ =>
    goI (f := fun x w => (eb env w).bind fun y w => zipM x y w) rel t p fun d w1 v H1 T1 x t1 rel1 r p1 => goI rel1 t1 p1 fun d2 w2 v2 H2 T2 x2 t2 rel2 r2 p2 => by
    have r1 := rep2_ext r x2
    unfold zipM at p2
    split at p2
    · obtain ⟨o, vs, rfl, l, q⟩ := tp_of r1
      obtain ⟨o2, us, rfl, l2, q2⟩ := tp_of r2
      exact ⟨o, o2, vs, us, rfl, .inr ⟨l.sq, l2.sq, p2 _ H2 T2 .refl t2 (fun T' H' Bx y nb hb => y_zipT nb (tp_ye l y) (tp_ye l2 y) (reps_bx (reps_al q s5) y hb) (reps_bx (reps_al q2 s6) y hb))
        (fun T' A' H' y nb => y_zipT nb (tp_ys l s2 y) (tp_ys l2 s4 y) (reps_ys q s2 y) (reps_ys q2 s4 y))⟩⟩
    · obtain ⟨o, vs, rfl, l, q⟩ := r1
      obtain ⟨o2, us, rfl, l2, q2⟩ := r2
      exact ⟨o, o2, vs, us, rfl, .inl ⟨l.sq, l2.sq, p2 _ H2 T2 .refl t2 (fun T' H' Bx y nb hb => y_zipL nb (ls_ye l y) (ls_ye l2 y) (reps_bx (reps_al q s5) y hb) (reps_bx (reps_al q2 s6) y hb))
        (fun T' A' H' y nb => y_zipL nb (ls_ys l s1 y) (ls_ys l2 s3 y) (reps_ys q s2 y) (reps_ys q2 s4 y))⟩⟩
    · exact p2.elim
end
end DL
namespace DL
open PySem PySem.Spec PyProof.Rows L2
/-! ### while -/
def whileM (κ : EM Bool) (τ : SM) : Nat → Env → W → Out
  | 0, _, _ => .st
  | n + 1, env, w => Out.bind (κ env w) fun b w => if b then (match τ env w with
    | .nx env w => whileM κ τ n env w
    | .ct env w => whileM κ τ n env w
    | .bk env w => .nx env w
    | .rt d w => .rt d w
    | .ex e w => .ex e w
    | .st => .st) else .nx env w
def forM (β : TM) (τ : SM) : List D → Env → W → Out
  | [], env, w => .nx env w
  | d :: ds, env, w => match β d env with
    | none => .st
    | some env => match τ env w with
      | .nx env w => forM β τ ds env w
      | .ct env w => forM β τ ds env w
      | .bk env w => .nx env w
      | .rt d w => .rt d w
      | .ex e w => .ex e w
      | .st => .st
section
variable {X : Cx} {E : XK} {al ar ac ar1 ac1 ar2 ac2 : List Nat} {a b c tg : Expr} {pos : Pos} {ea eb ec : EM D} {K : PySem.W.Frag} {mg : Mg} {τ μ : SM}
/-- a loop's body, its ends those of the loop -/
theorem loop_body {T A H Dn} {N : L2.St → Hp → Prop} {o : Out} {f : Env → W → Out} (hp : PostS K mg E T A H Dn (match (motive := Out → Out) o with
    | .nx env w => f env w
    | .ct env w => f env w
    | .bk env w => .nx env w
    | .rt d w => .rt d w
    | .ex e w => .ex e w
    | .st => .st)) (hN : ∀ env w σ' H' T' A', RelS K mg T' A' σ' H' env → Tins H' T' w → Step T A H T' A' H' → PostS K mg E T' A' H' Dn (f env w) → N σ' H') : PostS K mg E T A H { Dn with nx := N, ct := N, bk := Dn.nx } o := by
  cases o with
  | nx env w => exact fun σ' H' T' A' x r t => hN env w σ' H' T' A' r t x (PostS.step (r := f env w) hp x)
  | ct env w => exact fun σ' H' T' A' x r t => hN env w σ' H' T' A' r t x (PostS.step (r := f env w) hp x)
  | bk env w => exact hp
  | rt d w => exact hp
  | ex e w => exact hp
  | st => exact hp
def sWhile (n : Nat) (κ : EM Bool) (τ : SM) : SM := fun env w => whileM κ τ n env w
theorem gs_while {cnd : Expr} {body : List Stmt} {κ : EM Bool} (n : Nat) (hp : PassesOwn (model X.prog X.w) X.A X.env X.xe) (hc : GT X E cnd κ) (hb : GSs X E body τ) : GS X E (.While cnd body [] pos) (sWhile n κ τ) :=
  ps_mono (ps_while hp hc hb) fun Dn σ H ⟨env, w, T, A, rel, t, p⟩ => by
    refine ⟨fun m σ H => ∃ env w T A, RelS X.K X.mg T A σ H env ∧ Tins H T w ∧ PostS X.K X.mg E T A H Dn (whileM κ τ m env w), ⟨n, env, w, T, A, rel, t, p⟩, fun m σ H ⟨env, w, T, A, rel, t, p⟩ => ?_⟩
    cases m with
    | zero => exact p.elim
    | succ m =>
      refine goST (f := fun b w => if b then (match τ env w with
        | .nx env w => whileM κ τ m env w
        | .ct env w => whileM κ τ m env w
        | .bk env w => .nx env w
        | .rt d w => .rt d w
        | .ex e w => .ex e w
        | .st => .st) else .nx env w) rel t p fun b w1 H1 T1 x t1 rel1 p1 => ?_
      cases b with
      | false => exact p1 σ H1 T1 A .refl rel1 t1
      | true =>
        rw [if_pos rfl]
        refine ⟨fun σ' H' => ∃ env w T A, RelS X.K X.mg T A σ' H' env ∧ Tins H' T w ∧ PostS X.K X.mg E T A H' Dn (whileM κ τ m env w), fun σ' H' h => ⟨m, Nat.lt_succ_self m, h⟩, env, w1, T1, A, rel1, t1, ?_⟩
        exact loop_body (f := fun env w => whileM κ τ m env w) p1 fun env w σ' H' T' A' r t x p => ⟨env, w, T', A', r, t, p⟩
/-! ### for -/
def sFor (al : List Nat) (ι : EM (List D)) (β : TM) (τ : SM) : SM := fun env w => Out.bind (ι env w) fun ds w => forM β τ ds (frzs env al) w
theorem newor {T H H' w} (h : NewOr H H') (t : Tins H T w) : Ext T H T H' ∧ Tins H' T w := by
  rcases h with rfl | ⟨p, o, n, rfl⟩
  · exact ⟨.refl, t⟩
  · exact ⟨.new n, t.new n⟩
theorem gs_for {iter : Expr} {body : List Stmt} {ι : EM (List D)} {β : TM} {js : List Nat} (hp : PassesOwn (model X.prog X.w) X.A X.env X.xe) (hc : X.calm = true) (hi : GI X E al ac tg iter ι) (hg : GG X js tg β) (hb : GSs X E body τ)
    (hs : ∀ x, foldedSetIterable iter X.env x = pure x := by intro _; rfl) : GS X E (.For tg iter body [] pos) (sFor al ι β τ) :=
  ps_mono (ps_for hp hc hi hg hb hs) fun Dn σ0 H0 ⟨env, w, T, A0, rel, t, p⟩ => by
    refine ⟨env, w, T, A0, rel, t, ?_⟩
    unfold sFor at p
    cases q : ι env w with
    | st => rw [q] at p; exact p.elim
    | ex e w1 => rw [q] at p; exact fun c o H' T' x t r => p c o H' T' A0 (.of_ext x) t r
    | ok ds w1 =>
      rw [q] at p
      intro J H1 T1 x t1 _ ys
      have rel1 := frzs_rel al (rel.ext x)
      refine ⟨fun i m σ H => ∃ env w T A, Step T1 (erAs A0 al) H1 T A H ∧ RelS X.K X.mg T A σ H env ∧ Tins H T w ∧ m = ds.length - i ∧ i ≤ ds.length ∧ PostS X.K X.mg E T A H Dn (forM β τ (ds.drop i) env w), ⟨ds.length, frzs env al, w1, T1, erAs A0 al, .refl, rel1, t1, rfl, Nat.zero_le _, PostS.step (r := forM β τ ds (frzs env al) w1) p ((Step.of_ext x).trans Step.ers)⟩, ?_⟩
      rintro i m σ H ⟨env, w, T2, A2, st, r, t2, rfl, hi, p2⟩
      have y := ys T2 A2 H st (fun p hp => (r.fr t2).nb hp) i
      by_cases hlt : i < ds.length
      · obtain ⟨d, hd⟩ : ∃ d, ds[i]? = some d := ⟨_, List.getElem?_eq_getElem hlt⟩
        obtain ⟨y1, y2⟩ := y.1 d hd
        rw [List.drop_eq_getElem_cons hlt, show ds[i] = d from Option.some.inj ((List.getElem?_eq_getElem hlt).symm.trans hd)] at p2
        refine .inr ⟨y1, fun σ' H' => ∃ env w T A, Step T1 (erAs A0 al) H1 T A H' ∧ RelS X.K X.mg T A σ' H' env ∧ Tins H' T w ∧ PostS X.K X.mg E T A H' Dn (forM β τ (ds.drop (i + 1)) env w), fun σ' H' ⟨env, w, T, A, s1, s2, s3, s4⟩ => ⟨ds.length - (i + 1), by omega, env, w, T, A, s1, s2, s3, rfl, hlt, s4⟩, fun v H' hy => ?_⟩
        obtain ⟨no, rv⟩ := y2 v H' hy
        obtain ⟨x2, t3⟩ := newor no t2
        have r3 := r.ext x2
        refine ⟨env, w, T2, A2, d, r3, t3, rv, ?_⟩
        have p2 : PostS X.K X.mg E T2 A2 H Dn (match β d env with
          | none => .st
          | some env => match τ env w with
            | .nx env w => forM β τ (ds.drop (i + 1)) env w
            | .ct env w => forM β τ (ds.drop (i + 1)) env w
            | .bk env w => .nx env w
            | .rt d w => .rt d w
            | .ex e w => .ex e w
            | .st => .st) := p2
        cases qb : β d env with
        | none => rw [qb] at p2; exact p2.elim
        | some env' =>
          rw [qb] at p2
          intro σ' A' s5 r5 _ _
          have p3 := PostS.step p2 ((Step.of_ext x2).trans s5)
          refine ⟨env', w, T2, A', r5, t3, loop_body (f := fun env w => forM β τ (ds.drop (i + 1)) env w) p3 fun env w σ' H' T' A' r t x p => ⟨env, w, T', A', ((st.trans (.of_ext x2)).trans s5).trans x, r, t, p⟩⟩
      · have e : i = ds.length := by omega
        subst e
        rw [List.drop_eq_nil_of_le (Nat.le_refl _)] at p2
        exact .inl ⟨y.2 (Nat.le_refl _), p2 σ H T2 A2 .refl r t2⟩

/-! ### comprehensions -/
def wipeE (env : Env) : List Nat → Env
  | [] => env
  | v :: vs => (wipeE env vs).set v .un
def noOw (env : Env) (vs : List Nat) : Bool := vs.all fun i => match env[i]? with
  | some (.ow _) => false
  | some _ => true
  | none => false
def compM (β : TM) (κ : EM Bool) (ε : EM D) : List D → Env → W → Res (List D)
  | [], _, w => .ok [] w
  | d :: ds, env, w => match β d env with
    | none => .st
    | some env' => (κ env' w).bind fun b w => if b then (ε env' w).bind fun y w => (compM β κ ε ds env w).bind fun ys w => .ok (y :: ys) w else compM β κ ε ds env w
def noX {α : Type} : Res α → Res α
  | .ex _ _ => .st
  | r => r
def dComp (ac vs : List Nat) (ι : EM (List D)) (β : TM) (κ : EM Bool) (ε : EM D) : EM (List D) := fun env w => (ι env w).bind fun ds w => if ds.length ≤ sizeLine ∧ noOw (frzs env ac) vs = true then noX (compM β κ ε ds (wipeE (frzs env ac) vs) w) else .st
/-- the tests of a clause -/
def GTs (X : Cx) (E : XK) (ifs : List Expr) (κ : EM Bool) : Prop := PTs X ifs (liftT X.K X.mg E κ)
def tYesM : EM Bool := fun _ w => .ok true w
theorem gts_nil : GTs X E [] tYesM := ⟨fun pins s σ H Q I ⟨env, w, T, A, rel, t, p⟩ => pts_nil.run pins s σ H Q I (p H T .refl t)⟩
theorem gts_one {κ : EM Bool} (h : GT X E c κ) : GTs X E [c] κ := pts_one h
theorem relS_wipe {T A σ H env} : ∀ {vs : List Nat}, RelS K mg T A σ H env → noOw env vs = true → RelS K mg T A (wipe σ vs) H (wipeE env vs) ∧ ∀ (i : Nat) (d : D), (wipeE env vs)[i]? = some (Slot.ow d) → env[i]? = some (Slot.ow d)
  | [], rel, _ => ⟨rel, fun _ _ e => e⟩
  | v :: vs, rel, h => by
    have h : (match env[v]? with | some (.ow _) => false | some _ => true | none => false) = true ∧ noOw env vs = true := by
      simpa [noOw, List.all_cons, Bool.and_eq_true] using h
    obtain ⟨r, hr⟩ := relS_wipe rel h.2
    have nv : ∀ d, (wipeE env vs)[v]? ≠ some (.ow d) := fun d e => by
      have z := hr v d e
      rw [z] at h; cases h.1
    refine ⟨⟨by show ((wipe σ vs).set v none).length = ((wipeE env vs).set v .un).length; rw [List.length_set, List.length_set]; exact r.len, fun i s e => ?_, r.inj, r.nT, fun i a e hl => ?_, r.ownT, r.bnd⟩, fun i d e => ?_⟩
    · have e : ((wipeE env vs).set v .un)[i]? = some s := e
      show SlotOk K mg T A H i ((wipe σ vs).set v none)[i]? s
      by_cases hi : i = v
      · subst hi
        have hl : i < (wipeE env vs).length := by have := (List.getElem?_eq_some_iff.mp e).1; simpa using this
        rw [List.getElem?_set_self hl] at e
        cases e; trivial
      · rw [List.getElem?_set_ne (Ne.symm hi)] at e ⊢
        exact r.slot i s e
    · have hl : i < ((wipeE env vs).set v .un).length := hl
      rw [List.length_set] at hl
      obtain ⟨d, q⟩ := r.own i a e hl
      refine ⟨d, ?_⟩
      show ((wipeE env vs).set v .un)[i]? = _
      rw [List.getElem?_set_ne (fun z => nv d (by rw [z]; exact q))]; exact q
    · have e : ((wipeE env vs).set v .un)[i]? = some (.ow d) := e
      by_cases hi : i = v
      · subst hi
        have hl : i < (wipeE env vs).length := by have := (List.getElem?_eq_some_iff.mp e).1; simpa using this
        rw [List.getElem?_set_self hl] at e; cases e
      · rw [List.getElem?_set_ne (Ne.symm hi)] at e
        exact hr i d e
theorem noOw_at {env : Env} {vs : List Nat} {k : Nat} (h : noOw env vs = true) (hk : k ∈ vs) : ∃ s, env[k]? = some s ∧ ∀ d, s ≠ .ow d := by
  have z := List.all_eq_true.mp h k hk
  cases e : env[k]? with
  | none => simp [e] at z
  | some s =>
    refine ⟨s, rfl, fun d hd => ?_⟩
    subst hd
    simp [e] at z
theorem erAs_out {k : Nat} : ∀ {al : List Nat} {A : Ow}, k ∉ al → erAs A al k = A k
  | [], _, _ => rfl
  | j :: al, A, h => by
    simp only [List.mem_cons, not_or] at h
    show erAs (erA A j) al k = _
    rw [erAs_out h.2, erA_ne h.1]
theorem wipe_get {σ : L2.St} {vs : List Nat} {k : Nat} : (wipe σ vs)[k]? = if k ∈ vs then (if k < σ.length then some none else none) else σ[k]? := by
  induction vs with
  | nil => simp [wipe]
  | cons v vs ih =>
    show ((wipe σ vs).set v none)[k]? = _
    by_cases h : v = k
    · subst h
      rw [List.getElem?_set]
      simp [wipe_length]
    · rw [List.getElem?_set_ne h, ih]
      have : k ∈ v :: vs ↔ k ∈ vs := by simp [Ne.symm h]
      simp only [this]
theorem wipe_chg {σ σ' : L2.St} {js vs : List Nat} (c : Chg js σ σ') (h : js ⊆ vs) : wipe σ' vs = wipe σ vs := by
  apply List.ext_getElem?
  intro k
  rw [wipe_get, wipe_get, c.1]
  by_cases hk : k ∈ vs
  · simp [hk]
  · simp only [hk, if_false]
    exact c.2 k fun m => hk (h m)
theorem wipe_wipe {σ : L2.St} {vs : List Nat} : wipe (wipe σ vs) vs = wipe σ vs := by
  apply List.ext_getElem?
  intro k
  rw [wipe_get, wipe_get, wipe_length]
  by_cases hk : k ∈ vs <;> simp [hk]
/-- a result with what stands ahead of it -/
def Res.pre (acc : List D) : Res (List D) → Res (List D)
  | .ok ys w => .ok (acc ++ ys) w
  | .ex e w => .ex e w
  | .st => .st
/-- the loop of a comprehension over J -/
theorem comp_loop {T A σ H ds env w vs js ac3} {J : It} {β : TM} {κ : EM Bool} {ε : EM D} {g : TG} {tt : TT} {te : TE} {Q : VK}
    (rel : RelS K mg T A σ H env) (t : Tins H T w) (ye : YE K mg J T A ac H ds) (hw : noOw (frzs env ac) vs = true) (hz : ds.length ≤ sizeLine) (hj : js ⊆ vs) (s1 : ar1 ⊆ ac3) (s2 : ac1 ⊆ ac3) (s3 : ac ⊆ ac3) (h3 : ∀ k ∈ ac3, k < env.length)
    (hg : g = liftG K mg js β) (ht : tt = liftT K mg E κ) (he : te = liftE K mg E ar1 ac1 ε)
    (p : PostF K mg E T A ac3 H Q (compM β κ ε ds (wipeE (frzs env ac) vs) w)) (Da : Addr) (n : H Da = none) :
    ∃ W : Nat → Nat → Hp → Prop, (∃ m, W 0 m (upd H Da (.lst []))) ∧ ∀ i m H, W i m H →
      (J.stop i H ∧ Q (.ref Da) H) ∨ (J.go i H ∧ ∃ Nx : Hp → Prop, (∀ H', Nx H' → ∃ m', m' < m ∧ W (i + 1) m' H') ∧ ∀ x H', J.yld i H x H' → g x (wipe σ vs) H' fun σ2 H2 => wipe σ2 vs = wipe σ vs ∧ tt σ2 H2 fun b H3 =>
        if b = true then te σ2 H3 fun y H4 => ∃ acc, H4 Da = some (.lst acc) ∧ acc.length < sizeLine ∧ Nx (upd H4 Da (.lst (acc ++ [y]))) else Nx H3) := by
  subst hg ht he
  have nT : Da ∉ T := fun m => (rel.fr t).nb (al := []) n (.inl m)
  obtain ⟨b0, hb0⟩ := rel.bnd
  -- the place of the new list
  have relf := frzs_rel ac rel
  obtain ⟨relw, _⟩ := relS_wipe relf hw
  have lw : ∀ vs, (wipeE (frzs env ac) vs).length = env.length := by
    intro vs
    induction vs with
    | nil => exact frzs_len ac env
    | cons v vs ih => show ((wipeE (frzs env ac) vs).set v .un).length = _; rw [List.length_set]; exact ih
  let ph := b0 + env.length
  have hph : ∀ (A' : Ow), A' = addA (erAs A ac) ph Da → A' ph = some Da := fun A' e => by rw [e]; exact addA_self
  have relp := relw.setPh (i := ph) (Ext.new (T := T) (o := .lst []) n) n (by rw [upd_same]; intro z; cases z) nT (by rw [lw]; show env.length ≤ b0 + env.length; omega)
  have badA : ∀ T' b, Bad T' (addA (erAs A ac) ph Da) [] b → Bad T' A ac b ∨ b = Da := fun T' b m => by
    rcases m with m | ⟨k, _, m⟩
    · exact .inl (.inl m)
    · rcases addA_of m with ⟨_, e⟩ | ⟨_, e⟩
      · exact .inr e
      · obtain ⟨h1, h2⟩ := erAs_le e
        exact .inl (.inr ⟨k, h2, h1⟩)
  -- the invariant: what stands ahead, the rest's reckoning
  refine ⟨fun i m Hn => m = ds.length - i ∧ i ≤ ds.length ∧ ∃ T' w' acc vsacc, Ext T H T' Hn ∧ Tins Hn T' w' ∧ RelS K mg T' (addA (erAs A ac) ph Da) (wipe σ vs) Hn (wipeE (frzs env ac) vs) ∧ Hn Da = some (.lst vsacc) ∧ vsacc.length ≤ i ∧
      Reps K mg T' (fun x => Bad T' A ac3 x ∨ x = Da) Hn acc vsacc ∧ PostF K mg E T A ac3 H Q (Res.pre acc (compM β κ ε (ds.drop i) (wipeE (frzs env ac) vs) w')),
    ⟨ds.length, rfl, Nat.zero_le _, T, w, [], [], .new n, t.new n, relp, upd_same, Nat.le_refl _, .nil, ?_⟩, ?_⟩
  · rw [List.drop_zero]
    cases q : compM β κ ε ds (wipeE (frzs env ac) vs) w with
    | ok ys w => rw [q] at p; exact p
    | ex e w => rw [q] at p; exact p
    | st => rw [q] at p; exact p
  · rintro i m Hn ⟨rfl, hi, T', w', acc, vsacc, xe, t', r', hD, hl, ra, pn⟩
    have y := ye T' Hn (Bad T' (addA (erAs A ac) ph Da) []) xe (fun p hp => (r'.fr t').nb hp) (fun b hb m => by
      rcases badA T' b m with m | m
      · rcases m with m | m
        · exact .inl (xe.back m hb)
        · exact .inr m
      · rw [m] at hb; exact absurd n hb) i
    by_cases hlt : i < ds.length
    · obtain ⟨d, hd⟩ : ∃ d, ds[i]? = some d := ⟨_, List.getElem?_eq_getElem hlt⟩
      obtain ⟨y1, y2⟩ := y.1 d hd
      rw [List.drop_eq_getElem_cons hlt, show ds[i] = d from Option.some.inj ((List.getElem?_eq_getElem hlt).symm.trans hd)] at pn
      refine .inr ⟨y1, fun Hm => ∃ T' w' acc vsacc, Ext T H T' Hm ∧ Tins Hm T' w' ∧ RelS K mg T' (addA (erAs A ac) ph Da) (wipe σ vs) Hm (wipeE (frzs env ac) vs) ∧ Hm Da = some (.lst vsacc) ∧ vsacc.length ≤ i + 1 ∧
        Reps K mg T' (fun x => Bad T' A ac3 x ∨ x = Da) Hm acc vsacc ∧ PostF K mg E T A ac3 H Q (Res.pre acc (compM β κ ε (ds.drop (i + 1)) (wipeE (frzs env ac) vs) w')),
        fun H' ⟨T', w', acc, vsacc, h⟩ => ⟨ds.length - (i + 1), by omega, rfl, hlt, T', w', acc, vsacc, h⟩, fun v H' hy => ?_⟩
      obtain ⟨no, rv⟩ := y2 v H' hy
      obtain ⟨x2, t2⟩ := newor no t'
      have r2 := r'.ext x2
      refine ⟨wipeE (frzs env ac) vs, w', T', _, d, r2, t2, rv, ?_⟩
      have e0 : compM β κ ε (d :: ds.drop (i + 1)) (wipeE (frzs env ac) vs) w' = (match β d (wipeE (frzs env ac) vs) with
        | none => .st
        | some env' => (κ env' w').bind fun b w => if b then (ε env' w).bind fun y w => (compM β κ ε (ds.drop (i + 1)) (wipeE (frzs env ac) vs) w).bind fun ys w => .ok (y :: ys) w else compM β κ ε (ds.drop (i + 1)) (wipeE (frzs env ac) vs) w) := rfl
      rw [e0] at pn
      cases qb : β d (wipeE (frzs env ac) vs) with
      | none => rw [qb] at pn; exact pn.elim
      | some env' =>
        rw [qb] at pn
        intro σ' A' s5 r5 ch hA'
        refine ⟨(wipe_chg ch hj).trans wipe_wipe, env', w', T', A', r5, t2, ?_⟩
        have xk : ∀ {T3 H3}, Ext T' H' T3 H3 → Ext T H T3 H3 := fun x => (xe.trans x2).trans x
        have keepD : ∀ {T3 H3}, Ext T' H' T3 H3 → H3 Da = some (.lst vsacc) := fun {T3 H3} x => by
          have z : Da ∉ T' := r'.nT _ _ (hph _ rfl)
          exact x.keep _ _ z (x2.keep _ _ z hD)
        have racc : ∀ {T3 H3}, Ext T' H' T3 H3 → Reps K mg T3 (fun x => Bad T3 A ac3 x ∨ x = Da) H3 acc vsacc := fun {T3 H3} x => by
          have x3 := x2.trans x
          refine Reps.keep (fun a o nb e => x3.keep a o (fun m => nb (.inl (.inl m))) e) (fun b hb m => ?_) x3.at _ _ ra
          rcases m with (m | m) | m
          · exact .inl (.inl (x3.back m hb))
          · exact .inl (.inr m)
          · exact .inr m
        cases qk : κ env' w' with
        | st => simp only [qk] at pn; exact pn.elim
        | ex e w1 => simp only [qk] at pn; exact fun cls oa H3 T3 x3 t3 xr => pn cls oa H3 T3 (xk x3) t3 xr
        | ok b w1 =>
          simp only [qk] at pn
          intro H3 T3 x3 t3
          cases b with
          | false =>
            rw [if_neg Bool.false_ne_true]
            exact ⟨T3, w1, acc, vsacc, xk x3, t3, r2.ext x3, keepD x3, by omega, racc x3, pn⟩
          | true =>
            rw [if_pos rfl]
            refine ⟨env', w1, T3, A', r5.ext x3, t3, ?_⟩
            have pn : PostF K mg E T A ac3 H Q (Res.pre acc ((ε env' w1).bind fun y w => (compM β κ ε (ds.drop (i + 1)) (wipeE (frzs env ac) vs) w).bind fun ys w => .ok (y :: ys) w)) := pn
            cases qe : ε env' w1 with
            | st => rw [qe] at pn; exact pn.elim
            | ex e w2 => rw [qe] at pn; exact fun cls oa H4 T4 x4 t4 xr => pn cls oa H4 T4 (xk (x3.trans x4)) t4 xr
            | ok y w2 =>
              rw [qe] at pn
              intro v4 H4 T4 x4 t4 r4
              have x34 := x3.trans x4
              have hD4 := keepD x34
              have hDa : Da ∉ T4 := fun m => r'.nT _ _ (hph _ rfl) ((x2.trans x34).back m (by rw [hD]; intro z; cases z))
              refine ⟨vsacc, hD4, by omega, T4, w2, acc ++ [y], vsacc ++ [v4], ?_, t4.mut hDa, ?_, upd_same, by rw [List.length_append]; simp; omega, ?_, ?_⟩
              · refine ⟨(xk x34).pre, fun a o hn e => ?_, fun a ha => there_upd ((xk x34).there a ha)⟩
                rw [upd_ne (ne_of_none e n)]
                exact (xk x34).kp a o hn e
              · have r6 := r2.ext x34
                have r7 := r6.mut (d := .non) (o := .lst (vsacc ++ [v4])) (i := ph) addA_self (fun hl => by rw [lw] at hl; exact absurd hl (by show ¬ b0 + env.length < env.length; omega))
                rw [List.set_eq_of_length_le (by rw [lw]; show env.length ≤ b0 + env.length; omega)] at r7
                exact r7
              · have ra4 := racc x34
                have badD : ∀ b : Addr, ¬ (Bad T4 A ac3 b ∨ b = Da) → b ≠ Da := fun b h e => h (.inr e)
                have kd : Keep (fun x => Bad T4 A ac3 x ∨ x = Da) H4 (upd H4 Da (.lst (vsacc ++ [v4]))) := fun b o nb e => by rw [upd_ne (badD b nb)]; exact e
                refine Reps.keep kd (fun _ _ m => m) (fun _ _ e => e) _ _ (ra4.app (.cons ?_ .nil))
                refine (r4.rep s1 s2).le fun b m => ?_
                rcases m with (m | ⟨k, hk, m⟩) | m
                · exact .inl m
                · have hkc : k ∉ ac := fun h => hk (s3 h)
                  have e1 : erAs A ac k = some b := by rw [erAs_out hkc]; exact m
                  have e2 : k ≠ ph := fun h => by rw [h, hb0 _ (by show b0 ≤ b0 + env.length; omega)] at m; cases m
                  refine .inr ⟨k, hk, ?_⟩
                  by_cases hkj : k ∈ js
                  · obtain ⟨s, hs, hs2⟩ := noOw_at hw (hj hkj)
                    have hkl := (List.getElem?_eq_some_iff.mp hs).1
                    obtain ⟨d', hd'⟩ := relf.own k b e1 hkl
                    rw [hs] at hd'; cases hd'
                    exact absurd rfl (hs2 d')
                  · rw [hA' k hkj, addA_ne e2]; exact e1
                · refine .inr ⟨ph, fun h => ?_, ?_⟩
                  · have := h3 _ h
                    have z : b0 + env.length < env.length := this
                    omega
                  · have hpj : ph ∉ js := fun h => by
                      obtain ⟨s, hs, _⟩ := noOw_at hw (hj h)
                      have z := (List.getElem?_eq_some_iff.mp hs).1
                      rw [frzs_len] at z
                      have z : b0 + env.length < env.length := z
                      omega
                    rw [hA' ph hpj, m]; exact addA_self
              · have pn : PostF K mg E T A ac3 H Q (Res.pre acc ((compM β κ ε (ds.drop (i + 1)) (wipeE (frzs env ac) vs) w2).bind fun ys w => .ok (y :: ys) w)) := pn
                cases qr : compM β κ ε (ds.drop (i + 1)) (wipeE (frzs env ac) vs) w2 with
                | ok ys w3 =>
                  rw [qr] at pn
                  have pn : PostF K mg E T A ac3 H Q (.ok (acc ++ (y :: ys)) w3) := pn
                  show PostF K mg E T A ac3 H Q (.ok ((acc ++ [y]) ++ ys) w3)
                  rw [List.append_assoc]
                  exact pn
                | ex e w3 => rw [qr] at pn; exact pn
                | st => rw [qr] at pn; exact pn
    · have e : i = ds.length := by omega
      subst e
      rw [List.drop_eq_nil_of_le (Nat.le_refl _)] at pn
      have pn : PostF K mg E T A ac3 H Q (.ok (acc ++ []) w') := pn
      rw [List.append_nil] at pn
      exact .inl ⟨y.2 (Nat.le_refl _), pn Da vsacc Hn T' xe t' n hD (fun m => r'.nT _ _ (hph _ rfl) m) (by omega) ra⟩
end
end DL
namespace DL
open PySem PySem.Spec PyProof.Rows L2
section
variable {X : Cx} {E : XK} {al ar ac ar1 ac1 ar2 ac2 ac3 js : List Nat} {a b c tg elt iter : Expr} {ifs : List Expr} {pos : Pos} {ea eb ec ε : EM D} {K : PySem.W.Frag} {mg : Mg} {τ μ : SM} {β : TM} {κ : EM Bool} {ι : EM (List D)} {own : List (Str × Nat)} {scope : Scope}
/-- no exception leaves -/
abbrev NoE : XK := fun _ _ _ => False
def dComp3 (ac ac3 vs : List Nat) (ι : EM (List D)) (β : TM) (κ : EM Bool) (ε : EM D) : EM (List D) := fun env w => if ac3.all (· < env.length) then dComp ac vs ι β κ ε env w else .st
theorem noX_post {T A H Q} {r : Res (List D)} (p : PostF K mg E T A ac H Q (noX r)) : PostF K mg NoE T A ac H Q r := by
  cases r with
  | ok ds w => exact p
  | ex e w => exact p.elim
  | st => exact p
theorem comp_lift {vs : List Nat} (hj : js ⊆ vs) (s1 : ar1 ⊆ ac3) (s2 : ac1 ⊆ ac3) (s3 : ac ⊆ ac3) {σ H Q} (h : liftF K mg E ac3 (dComp3 ac ac3 vs ι β κ ε) σ H Q) : tLc (liftI K mg E al ac ι) (liftG K mg js β) (liftT K mg NoE κ) (liftE K mg NoE ar1 ac1 ε) vs σ H Q := by
  obtain ⟨env, w, T, A, rel, t, p⟩ := h
  unfold dComp3 at p
  split at p
  · rename_i h3
    refine ⟨env, w, T, A, rel, t, ?_⟩
    unfold dComp at p
    cases q : ι env w with
    | st => rw [q] at p; exact p.elim
    | ex e w1 => rw [q] at p; exact p
    | ok ds w1 =>
      rw [q] at p
      have p : PostF K mg E T A ac3 H Q (if ds.length ≤ sizeLine ∧ noOw (frzs env ac) vs = true then noX (compM β κ ε ds (wipeE (frzs env ac) vs) w1) else .st) := p
      intro J H1 T1 x t1 ye _ Da n
      split at p
      · rename_i hz
        exact comp_loop (rel.ext x) t1 ye hz.2 hz.1 hj s1 s2 s3 (fun k hk => by simpa using List.all_eq_true.mp h3 k hk) rfl rfl rfl (noX_post (p.ext x)) Da n
      · exact p.elim
  · exact p.elim
theorem gf_comp (hc : X.calm = true) (hN : X.N.Nodup) (hi : GI X E al ac tg iter ι) (ok : BlkOk X.N X.env.scope scope own)
    (hg : ∀ (s : Shared) (H : Hp) (C : Addr) (cl : List (Str × Addr)) (fp : List Addr), GG (X.blk s H scope (compEnvC scope cl C X.env) fp) js tg β) (ht : ∀ (s : Shared) (H : Hp) (C : Addr) (cl : List (Str × Addr)) (fp : List Addr), GTs (X.blk s H scope (compEnvC scope cl C X.env) fp) NoE ifs κ)
    (he : ∀ (s : Shared) (H : Hp) (C : Addr) (cl : List (Str × Addr)) (fp : List Addr), GE (X.blk s H scope (compEnvC scope cl C X.env) fp) NoE ar1 ac1 elt ε) (hj : js ⊆ own.map (·.2) := by decide) (s1 : ar1 ⊆ ac3 := by simp) (s2 : ac1 ⊆ ac3 := by simp) (s3 : ac ⊆ ac3 := by simp) (hs : ∀ x, foldedSetIterable iter X.env x = pure x := by intro _; rfl) :
    GF X E ac3 (.ListComp elt [⟨tg, iter, ifs, 0⟩] scope pos) (dComp3 ac ac3 (own.map (·.2)) ι β κ ε) :=
  pe_mono (pe_lc (g := liftG X.K X.mg js β) (tt := liftT X.K X.mg NoE κ) (te := liftE X.K X.mg NoE ar1 ac1 ε) hc hN hi ok hg ht he hs) fun σ H Q h => comp_lift hj s1 s2 s3 h
/-- y = [..], y a local -/
theorem gs_ownC {i : Nat} {y : Str} {py spos : Pos} (hc : X.calm = true) (hN : X.N.Nodup) (hy : X.N[i]? = some y) (hyl : X.env.scope.names.lookup y = some .local)
    (hsw : swapsWith (.ListComp elt [⟨tg, iter, ifs, 0⟩] scope pos) (some (.Name y py)) spos.line X.env = pure true) (hi : GI X E al ac tg iter ι) (ok : BlkOk X.N X.env.scope scope own)
    (hg : ∀ (s : Shared) (H : Hp) (C : Addr) (cl : List (Str × Addr)) (fp : List Addr), GG (X.blk s H scope (compEnvC scope cl C X.env) fp) js tg β) (ht : ∀ (s : Shared) (H : Hp) (C : Addr) (cl : List (Str × Addr)) (fp : List Addr), GTs (X.blk s H scope (compEnvC scope cl C X.env) fp) NoE ifs κ)
    (he : ∀ (s : Shared) (H : Hp) (C : Addr) (cl : List (Str × Addr)) (fp : List Addr), GE (X.blk s H scope (compEnvC scope cl C X.env) fp) NoE ar1 ac1 elt ε) (hj : js ⊆ own.map (·.2) := by decide) (s1 : ar1 ⊆ ac3 := by simp) (s2 : ac1 ⊆ ac3 := by simp) (s3 : ac ⊆ ac3 := by simp) (hs : ∀ x, foldedSetIterable iter X.env x = pure x := by intro _; rfl) :
    GS X E (.Assign [.Name y py] (.ListComp elt [⟨tg, iter, ifs, 0⟩] scope pos) spos) (sOwn i ac3 (dComp3 ac ac3 (own.map (·.2)) ι β κ ε)) :=
  ps_mono (ps_setLc (g := liftG X.K X.mg js β) (tt := liftT X.K X.mg NoE κ) (te := liftE X.K X.mg NoE ar1 ac1 ε) hc hN hy hyl hsw hi ok hg ht he hs) fun Dn σ H ⟨env, w, T, A, rel, t, p⟩ => comp_lift hj s1 s2 s3
    (goSF (f := fun ds w => .nx ((frzs env ac3).set i (.ow (.lst ds))) w) rel t p fun ds w1 a vs H1 T1 x t1 n e m z r p1 => by
      have rel1 := frzs_rel ac3 rel
      refine p1 _ H1 T1 _ (Step.ers.trans (Step.add (i := i) x n)) (rel1.setOw x n (by rw [e]; intro z; cases z) m i (.lst e z ?_)) t1
      refine r.le fun b hb => ?_
      rcases hb with hb | ⟨k, _, hb⟩
      · exact .inl (.inl hb)
      · rcases addA_of hb with ⟨_, hb⟩ | ⟨_, hb⟩
        · exact .inr hb
        · obtain ⟨h1, h2⟩ := erAs_le hb
          exact .inl (.inr ⟨k, h2, h1⟩))

/-! ### defs -/
def PostD (K : PySem.W.Frag) (mg : Mg) (E : XK) (T : Tt) (H : Hp) (Q : VK) : Res D → Prop
  | .ok d w => ∀ v H' T', Ext T H T' H' → Tins H' T' w → Rep K mg T' (· ∈ T') H' d v → Q v H'
  | .ex e w => ∀ cls oa H' T', Ext T H T' H' → Tins H' T' w → XR mg e cls oa H' → E cls oa H'
  | .st => False
/-- the promise of a def that is worth φ -/
def spD (K : PySem.W.Frag) (mg : Mg) (n : Nat) (φ : List D → M D) : Sp := fun vs H Q E => ∃ ds w T, vs.length = n ∧ Tins H T w ∧ Reps K mg T (· ∈ T) H ds vs ∧ PostD K mg E T H Q (φ ds w)
structure FnD (P : Program) (w : World) (K : PySem.W.Frag) (mg : Mg) (base : Heap) (x : String) (n k : Nat) (φ : List D → M D) : Prop where
  ex : ∃ f fd ps, mg (Str.ofString x) = some (.ref f) ∧ PySem.W.keepIn K (.ref f) = true ∧ Binds K fd ps [] ∧ ps.length = n ∧ FnOk P w K mg base (L2.CX P w) k f fd ps (spD K mg n φ)
abbrev FnX (X : Cx) (x : String) (n k : Nat) (φ : List D → M D) : Prop := FnD X.prog X.w X.K X.mg X.base x n k φ
theorem FnD.mono {P w K mg base x n k k' φ} (F : FnD P w K mg base x n k φ) (h : k ≤ k') : FnD P w K mg base x n k' φ := by
  obtain ⟨f, fd, ps, h1, h2, h3, h4, h5⟩ := F.ex
  exact ⟨f, fd, ps, h1, h2, h3, h4, h5.mono h⟩
/-- what a caller owns, but what it hands on -/
theorem own_list {T A σ H env} (rel : RelS K mg T A σ H env) (al : List Nat) : ∃ B : List Addr, B.Nodup ∧ ∀ b, b ∈ B ↔ ∃ i, i ∉ al ∧ A i = some b := by
  obtain ⟨n, hn⟩ := rel.bnd
  refine ⟨(List.range n).filterMap fun i => if i ∈ al then none else A i, ?_, fun b => ?_⟩
  · rw [List.nodup_iff_pairwise_ne, List.pairwise_filterMap]
    refine List.Pairwise.imp_of_mem (fun {i j} hi hj hlt b hb b' hb' e => ?_) List.pairwise_lt_range
    subst e
    simp only [Option.ite_none_left_eq_some] at hb hb'
    exact absurd (rel.inj i j b hb.2 hb'.2) (Nat.ne_of_lt hlt)
  · rw [List.mem_filterMap]
    constructor
    · rintro ⟨i, _, h⟩
      simp only [Option.ite_none_left_eq_some] at h
      exact ⟨i, h⟩
    · rintro ⟨i, h1, h2⟩
      refine ⟨i, List.mem_range.mpr ?_, by simp [h1, h2]⟩
      exact Nat.lt_of_not_le fun h => by rw [hn i h] at h2; cases h2
/-- a call by what the callee promises -/
theorem call_post {T A σ H env w ds vs Q} {φ : List D → M D} {n : Nat} (rel : RelS K mg T A σ H env) (t : Tins H T w) (hl : ds.length = n) (rs : Reps K mg T (Bad T A al) H ds vs) (p : Post K mg E T A al al H Q (φ ds w)) : spD K mg n φ vs H Q E := by
  obtain ⟨B, hB, hm⟩ := own_list rel al
  have hbad : ∀ T' : Tt, T'.f = T.f → ∀ b, b ∈ (Tt.mk T'.l (B ++ T.f)) ↔ Bad T' A al b := fun T' e b => by
    rw [tt_mem]
    show (b ∈ T'.l ∨ b ∈ B ++ T.f) ↔ _
    rw [List.mem_append, hm]
    unfold Bad
    rw [tt_mem, e]
    constructor
    · rintro (h | h | h) <;> simp [h]
    · rintro ((h | h) | h) <;> simp [h]
  have eM : (· ∈ (Tt.mk T.l (B ++ T.f))) = Bad T A al := by funext b; exact propext (hbad T rfl b)
  refine ⟨ds, w, ⟨T.l, B ++ T.f⟩, by rw [← rs.len]; exact hl, ⟨t.1, t.2.1, t.2.2.1, fun b hb => ?_⟩, ?_, ?_⟩
  · rcases List.mem_append.mp hb with hb | hb
    · obtain ⟨i, _, e⟩ := (hm b).mp hb
      exact rel.ownT i b e
    · exact t.2.2.2 b hb
  · rw [eM]
    exact Reps.keep (T := T) (T' := ⟨T.l, B ++ T.f⟩) (B := Bad T A al) (B' := Bad T A al) (fun _ _ _ e => e) (fun _ m => fun m => m) (fun _ _ e => e) _ _ rs
  · -- back
    have back : ∀ {H' : Hp} {T' : Tt}, Ext ⟨T.l, B ++ T.f⟩ H T' H' → Ext T H ⟨T'.l, T.f⟩ H' ∧ T'.f = B ++ T.f := fun {H' T'} x => by
      obtain ⟨N, e, hN⟩ := x.pre
      refine ⟨⟨⟨N, by rw [e]; rfl, hN⟩, fun a o n h => x.kp a o n h, x.there⟩, by rw [e]; rfl⟩
    have tb : ∀ {H' : Hp} {T' : Tt} {w'}, T'.f = B ++ T.f → Tins H' T' w' → Tins H' ⟨T'.l, T.f⟩ w' := fun {H' T' w'} e t => ⟨t.1, t.2.1, t.2.2.1, fun b hb => t.2.2.2 b (by rw [e]; exact List.mem_append_right _ hb)⟩
    cases q : φ ds w with
    | ok d w1 =>
      rw [q] at p
      intro v H' T' x t1 r
      obtain ⟨x1, e1⟩ := back x
      refine p v H' ⟨T'.l, T.f⟩ x1 (tb e1 t1) (rep2_of ?_)
      have e2 : (· ∈ T') = Bad ⟨T'.l, T.f⟩ A al := by
        funext b
        rw [← propext (hbad ⟨T'.l, T.f⟩ rfl b)]
        obtain ⟨l', f'⟩ := T'
        cases e1; rfl
      rw [e2] at r
      exact Rep.keep (T := T') (T' := ⟨T'.l, T.f⟩) (B := Bad ⟨T'.l, T.f⟩ A al) (B' := Bad ⟨T'.l, T.f⟩ A al) (fun _ _ _ e => e) (fun _ m => fun m => m) (fun _ _ e => e) _ _ r
    | ex e w1 =>
      rw [q] at p
      intro cls oa H' T' x t1 xr
      obtain ⟨x1, e1⟩ := back x
      exact p cls oa H' ⟨T'.l, T.f⟩ x1 (tb e1 t1) xr
    | st => rw [q] at p; exact p.elim

def dCall (n : Nat) (φ : List D → M D) (α : EM (List D)) : EM D := fun env w => (α env w).bind fun ds w => if ds.length = n then φ ds w else .st
theorem call_lift {n : Nat} {φ : List D → M D} {α : EM (List D)} {σ H Q} (h : liftE K mg E al al (dCall n φ α) σ H Q) : liftA K mg E al α σ H (fun vs H1 => spD K mg n φ vs H1 Q E) := by
  obtain ⟨env, w, T, A, rel, t, p⟩ := h
  refine goAE (f := fun ds w => if ds.length = n then φ ds w else .st) rel t p fun ds w1 vs H1 T1 x t1 rel1 rs p1 => ?_
  split at p1
  · rename_i hl
    exact call_post rel1 t1 hl rs p1
  · exact p1.elim
theorem tk_pass (tk : TakesE X E) : Passes (L2.CX X.prog X.w) X E := passes_call tk fun _ _ _ _ h => h
theorem ge_call {x : Str} {nm : String} {n k : Nat} {φ : List D → M D} {e : Expr} {es : List Expr} {p : Pos} {α : EM (List D)} (F : FnX X nm n k φ) (hx : x = Str.ofString nm) (hr : Room k X.A) (tk : TakesE X E) (ha : GA X E al (e :: es) α) (hg : Gl X x := by rfl)
    (hdb : (x == ("__debug__" : Str)) = false := by decide) (he : starEach (e :: es) X.env = (false, eval e X.env) :: starEach es X.env := by rfl) (hpl : (backTo pos (starEach es X.env)).any (·.1) = false := by rfl) : GE X E al al (.Call (.Name x p) (e :: es) [] pos) (dCall n φ α) := by
  subst hx
  obtain ⟨f, fd, ps, h1, h2, h3, h4, h5⟩ := F.ex
  refine pe_mono (pe_call h5 hr hg h1 h2 h3 .nil (tk_pass tk) ha hdb he hpl) fun σ H Q h => ?_
  have z := call_lift h
  unfold tCall
  simp only [List.append_nil]
  exact z
theorem ge_call0 {x : Str} {nm : String} {k : Nat} {φ : List D → M D} {p : Pos} (F : FnX X nm 0 k φ) (hx : x = Str.ofString nm) (hr : Room k X.A) (tk : TakesE X E) (hg : Gl X x := by rfl) (hdb : (x == ("__debug__" : Str)) = false := by decide) : GE X E [] [] (.Call (.Name x p) [] [] pos) (dCall 0 φ aNil) := by
  subst hx
  obtain ⟨f, fd, ps, h1, h2, h3, h4, h5⟩ := F.ex
  refine pe_mono (pe_call0 h5 hr hg h1 h2 h3 .nil (tk_pass tk) hdb) fun σ H Q ⟨env, w, T, A, rel, t, p⟩ => ?_
  exact call_post (ds := []) rel t rfl .nil p
/-- a def from its body -/
def bodyD (N : Nat) (τ : SM) (ds : List D) : M D := fun w => match τ (ds.map .fz ++ List.replicate (N - ds.length) .un) w with
  | .nx _ w => .ok .non w
  | .rt d w => .ok d w
  | .ex e w => .ex e w
  | _ => .st
theorem start_rel {T H ds vs} {N ps : List Str} (rs : Reps K mg T (· ∈ T) H ds vs) (hN : ps.length = vs.length) (hl : ps.length ≤ N.length) : RelS K mg T (fun _ => none) (L2.start N vs) H (ds.map Slot.fz ++ List.replicate (N.length - ds.length) Slot.un) where
  len := by simp [L2.start, rs.len]
  slot := fun i s e => by
    by_cases h : i < ds.length
    · rw [List.getElem?_append_left (by simpa using h), List.getElem?_map] at e
      obtain ⟨d, hd⟩ : ∃ d, ds[i]? = some d := ⟨_, List.getElem?_eq_getElem h⟩
      rw [hd] at e; cases e
      obtain ⟨v, hv, rv⟩ := rs.get hd
      refine ⟨v, ?_, rv.le fun b m => ?_⟩
      · unfold L2.start
        rw [List.getElem?_append_left (by rw [List.length_map, ← rs.len]; exact h), List.getElem?_map, hv]; rfl
      · rcases m with m | ⟨_, _, m⟩
        · exact m
        · cases m
    · rw [List.getElem?_append_right (by simpa using Nat.le_of_not_lt h)] at e
      have : s = .un := by
        obtain ⟨_, e⟩ := List.getElem?_eq_some_iff.mp e
        simpa using e.symm
      subst this; trivial
  inj := fun _ _ _ h => nomatch h
  nT := fun _ _ h => nomatch h
  own := fun _ _ h => nomatch h
  ownT := fun _ _ h => nomatch h
  bnd := ⟨0, fun _ _ => rfl⟩
theorem fn_mk {P : Program} {w : World} {K : PySem.W.Frag} {mg : Mg} {base : Heap} {x : String} {qual : Str} {st : Stmt} {f : Addr} {fd : FuncData} {N ps : List Str} {k : Nat} {τ : SM} (F : Fun K (Str.ofString x) qual st f fd) (hm : mg (Str.ofString x) = some (.ref f)) (S : FnScope N ps (defScope st)) (hb : Binds K fd ps [])
    (body : ∀ (cdv : Value) (A : Around) (outer : List PySem.Env) (s : Shared) (H : Hp) (E : XK), Room k (A.deeper (envOfC qual (defScope st) s.heap.objs.size f cdv)) → TakesE (cxOf (L2.CX P w) P w K mg base N qual (defScope st) f cdv A outer s H E) E →
      PassesOwn (model (cxOf (L2.CX P w) P w K mg base N qual (defScope st) f cdv A outer s H E).prog w) (cxOf (L2.CX P w) P w K mg base N qual (defScope st) f cdv A outer s H E).A (cxOf (L2.CX P w) P w K mg base N qual (defScope st) f cdv A outer s H E).env (cxOf (L2.CX P w) P w K mg base N qual (defScope st) f cdv A outer s H E).xe →
      GSs (cxOf (L2.CX P w) P w K mg base N qual (defScope st) f cdv A outer s H E) E (defBody st) τ) : FnD P w K mg base x ps.length (k + 1) (bodyD N.length τ) := by
  refine ⟨f, fd, ps, hm, F.kp, hb, rfl, F.okX S (fun vs H Q E ⟨ds, w, T, h, _⟩ => h) fun cdv A outer s H vs Q E hr ⟨ds, w', T, hl, t, rs, p⟩ => ⟨_, body cdv A outer s H E hr (takes_of rfl rfl rfl rfl) (passes_of rfl), ?_⟩⟩
  have hpl : ps.length ≤ N.length := by
    have := S.pre
    rw [← this]; simp; omega
  refine ⟨_, w', T, _, start_rel rs hl.symm hpl, t, ?_⟩
  unfold bodyD at p
  show PostS K mg E T _ H _ (τ (ds.map Slot.fz ++ List.replicate (N.length - ds.length) Slot.un) w')
  cases q : τ (ds.map Slot.fz ++ List.replicate (N.length - ds.length) Slot.un) w' with
  | nx e1 w1 => rw [q] at p; exact fun σ' H' T' A' x r t => p .non H' T' x.ext t .non
  | rt d w1 => rw [q] at p; exact fun v H' T' A' x t r => p v H' T' x.ext t r
  | ex e w1 => rw [q] at p; exact fun c o H' T' A' x t r => p c o H' T' x.ext t r
  | bk e w1 => rw [q] at p; exact p.elim
  | ct e w1 => rw [q] at p; exact p.elim
  | st => rw [q] at p; exact p.elim
end
end DL
namespace DL
open PySem PySem.Spec PyProof.Rows L2
theorem bb_len : bootBuiltins "len" = some (.builtin "len") := by decide +kernel
theorem bb_abs : bootBuiltins "abs" = some (.builtin "abs") := by decide +kernel
theorem bb_max : bootBuiltins "max" = some (.builtin "max") := by decide +kernel
theorem bb_min : bootBuiltins "min" = some (.builtin "min") := by decide +kernel
theorem bb_sum : bootBuiltins "sum" = some (.builtin "sum") := by decide +kernel
theorem bb_all : bootBuiltins "all" = some (.builtin "all") := by decide +kernel
theorem bb_any : bootBuiltins "any" = some (.builtin "any") := by decide +kernel
theorem bb_sorted : bootBuiltins "sorted" = some (.builtin "sorted") := by decide +kernel
theorem bb_isi : bootBuiltins "isinstance" = some (.builtin "isinstance") := by decide +kernel
theorem bb_int : bootBuiltins "int" = some (.type "int") := by decide +kernel
theorem bb_bool : bootBuiltins "bool" = some (.type "bool") := by decide +kernel
theorem bb_str : bootBuiltins "str" = some (.type "str") := by decide +kernel
theorem bb_list : bootBuiltins "list" = some (.type "list") := by decide +kernel
theorem bb_tuple : bootBuiltins "tuple" = some (.type "tuple") := by decide +kernel
/-- the built-ins that the module leaves as they are -/
structure Nb (mg : Mg) : Prop where
  len : mg "len" = none
  abs : mg "abs" = none
  max : mg "max" = none
  min : mg "min" = none
  sum : mg "sum" = none
  all : mg "all" = none
  any : mg "any" = none
  sorted : mg "sorted" = none
  isinstance : mg "isinstance" = none
  int : mg "int" = none
  bool : mg "bool" = none
  str : mg "str" = none
  list : mg "list" = none
  tuple : mg "tuple" = none
  range : mg "range" = none
  enumerate : mg "enumerate" = none
  zip : mg "zip" = none
  reversed : mg "reversed" = none
  set : mg "set" = none
  dict : mg "dict" = none
section
variable {X : Cx} {E : XK} {al ar ac ar1 ac1 ar2 ac2 : List Nat} {a b : Expr} {pos p : Pos} {ea eb : EM D}
/-! each built-in by its name -/
theorem geLen (n : Nb X.mg) (ha : GE X E ar ac a ea) (hgl : Gl X "len" := by rfl) (hs : starEach [a] X.env = (false, eval a X.env) :: starEach [] X.env := by rfl) (hpl : (backTo pos (starEach [] X.env)).any (·.1) = false := by rfl) : GE X E [] [] (.Call (.Name "len" p) [a] [] pos) (dUn lenD ea) := ge_b1 call_len o1_len n.len bb_len ha hgl (by decide) (by decide) hs hpl
theorem geAbs (n : Nb X.mg) (ha : GE X E ar ac a ea) (hgl : Gl X "abs" := by rfl) (hs : starEach [a] X.env = (false, eval a X.env) :: starEach [] X.env := by rfl) (hpl : (backTo pos (starEach [] X.env)).any (·.1) = false := by rfl) : GE X E [] [] (.Call (.Name "abs" p) [a] [] pos) (dUn absD ea) := ge_b1 call_abs o1_abs n.abs bb_abs ha hgl (by decide) (by decide) hs hpl
theorem geSum (hc : X.calm = true) (n : Nb X.mg) (ha : GE X E ar ac a ea) (hgl : Gl X "sum" := by rfl) (hs : starEach [a] X.env = (false, eval a X.env) :: starEach [] X.env := by rfl) (hpl : (backTo pos (starEach [] X.env)).any (·.1) = false := by rfl) : GE X E [] [] (.Call (.Name "sum" p) [a] [] pos) (dUn sumD ea) := ge_b1 (cr_sum hc) o1_sum n.sum bb_sum ha hgl (by decide) (by decide) hs hpl
theorem geAll (hc : X.calm = true) (n : Nb X.mg) (ha : GE X E ar ac a ea) (hgl : Gl X "all" := by rfl) (hs : starEach [a] X.env = (false, eval a X.env) :: starEach [] X.env := by rfl) (hpl : (backTo pos (starEach [] X.env)).any (·.1) = false := by rfl) : GE X E [] [] (.Call (.Name "all" p) [a] [] pos) (dUn allD ea) := ge_b1 (cr_all hc) o1_all n.all bb_all ha hgl (by decide) (by decide) hs hpl
theorem geAny (hc : X.calm = true) (n : Nb X.mg) (ha : GE X E ar ac a ea) (hgl : Gl X "any" := by rfl) (hs : starEach [a] X.env = (false, eval a X.env) :: starEach [] X.env := by rfl) (hpl : (backTo pos (starEach [] X.env)).any (·.1) = false := by rfl) : GE X E [] [] (.Call (.Name "any" p) [a] [] pos) (dUn anyD ea) := ge_b1 (cr_any hc) o1_any n.any bb_any ha hgl (by decide) (by decide) hs hpl
theorem geMaxL (hc : X.calm = true) (hu : X.A.units + 64 < cLine) (n : Nb X.mg) (ha : GE X E ar ac a ea) (hgl : Gl X "max" := by rfl) (hs : starEach [a] X.env = (false, eval a X.env) :: starEach [] X.env := by rfl) (hpl : (backTo pos (starEach [] X.env)).any (·.1) = false := by rfl) : GE X E [] [] (.Call (.Name "max" p) [a] [] pos) (dUn maxL ea) := ge_b1 (cr_maxA hc hu) o1_maxL n.max bb_max ha hgl (by decide) (by decide) hs hpl
theorem geMinL (hc : X.calm = true) (hu : X.A.units + 64 < cLine) (n : Nb X.mg) (ha : GE X E ar ac a ea) (hgl : Gl X "min" := by rfl) (hs : starEach [a] X.env = (false, eval a X.env) :: starEach [] X.env := by rfl) (hpl : (backTo pos (starEach [] X.env)).any (·.1) = false := by rfl) : GE X E [] [] (.Call (.Name "min" p) [a] [] pos) (dUn minL ea) := ge_b1 (cr_minA hc hu) o1_minL n.min bb_min ha hgl (by decide) (by decide) hs hpl
theorem geMax2 (hc : X.calm = true) (n : Nb X.mg) (ha : GE X E ar1 ac1 a ea) (hb : GE X E ar2 ac2 b eb) (hgl : Gl X "max" := by rfl) (hs : starEach [a, b] X.env = (false, eval a X.env) :: starEach [b] X.env := by rfl) (hs2 : starEach [b] X.env = (false, eval b X.env) :: starEach [] X.env := by rfl) (hpl : (backTo pos (starEach [b] X.env)).any (·.1) = false := by rfl) : GE X E [] [] (.Call (.Name "max" p) [a, b] [] pos) (dBin maxD ea eb) := ge_b2 (al := ac1 ++ ac2) (call_max2 hc) og_max n.max bb_max ha hb (by simp) (by simp) hgl (by decide) (by decide) hs hs2 hpl
theorem geMin2 (hc : X.calm = true) (n : Nb X.mg) (ha : GE X E ar1 ac1 a ea) (hb : GE X E ar2 ac2 b eb) (hgl : Gl X "min" := by rfl) (hs : starEach [a, b] X.env = (false, eval a X.env) :: starEach [b] X.env := by rfl) (hs2 : starEach [b] X.env = (false, eval b X.env) :: starEach [] X.env := by rfl) (hpl : (backTo pos (starEach [b] X.env)).any (·.1) = false := by rfl) : GE X E [] [] (.Call (.Name "min" p) [a, b] [] pos) (dBin minD ea eb) := ge_b2 (al := ac1 ++ ac2) (call_min2 hc) og_min n.min bb_min ha hb (by simp) (by simp) hgl (by decide) (by decide) hs hs2 hpl
theorem geInt (n : Nb X.mg) (ha : GE X E ar ac a ea) (hgl : Gl X "int" := by rfl) (hs : starEach [a] X.env = (false, eval a X.env) :: starEach [] X.env := by rfl) (hpl : (backTo pos (starEach [] X.env)).any (·.1) = false := by rfl) : GE X E [] [] (.Call (.Name "int" p) [a] [] pos) (dUn toIntD ea) := ge_t1 cr_intD o1_int n.int bb_int ha hgl (by decide) (by decide) hs hpl
theorem geStr (n : Nb X.mg) (ha : GE X E ar ac a ea) (hgl : Gl X "str" := by rfl) (hs : starEach [a] X.env = (false, eval a X.env) :: starEach [] X.env := by rfl) (hpl : (backTo pos (starEach [] X.env)).any (·.1) = false := by rfl) : GE X E [] [] (.Call (.Name "str" p) [a] [] pos) (dUn strD ea) := ge_t1 call_str_int o1_str n.str bb_str ha hgl (by decide) (by decide) hs hpl
theorem gfList (n : Nb X.mg) (ha : GE X E ar ac a ea) (hgl : Gl X "list" := by rfl) (hs : starEach [a] X.env = (false, eval a X.env) :: starEach [] X.env := by rfl) (hpl : (backTo pos (starEach [] X.env)).any (·.1) = false := by rfl) : GF X E ac (.Call (.Name "list" p) [a] [] pos) (dUn listF ea) := gf_t1 call_list_of o1_list n.list bb_list ha hgl (by decide) (by decide) hs hpl
theorem geTuple (n : Nb X.mg) (ha : GE X E ar ac a ea) (hgl : Gl X "tuple" := by rfl) (hs : starEach [a] X.env = (false, eval a X.env) :: starEach [] X.env := by rfl) (hpl : (backTo pos (starEach [] X.env)).any (·.1) = false := by rfl) : GE X E [] ac (.Call (.Name "tuple" p) [a] [] pos) (dUn tupleD ea) := ge_t1 call_tuple_of o1_tuple n.tuple bb_tuple ha hgl (by decide) (by decide) hs hpl
end
end DL
namespace DL
open PySem PySem.Spec PyProof.Rows L2
open Sem (wp)
/-! ### enumerate, of lists and of tuples -/
set_option maxHeartbeats 1000000 in
theorem meets_enum1 {v : Value} {o : Obj} {H : Heap → Prop} (B : Begins v o H) :
    Meets (Builtin.«enumerate.__new__» ⟨[.type "enumerate", v], []⟩) (fun _ R s => H s.heap ∧
      R (.ok (.ret (.ref (s.heap.push o).objs.size))) { s with heap := (s.heap.push o).push { cls := .type "enumerate", data := .fields #[.none, .bool false, .ref s.heap.objs.size, rawInt 0, .none, .none] } }) :=
  .of_wp fun prog w A R s h => by
    obtain ⟨hp, g, d, tk, os⟩ := s; obtain ⟨h1, h⟩ := h
    have hsub := sub_enumerate
    have q1 : ∀ {A' : Around} {E : Value → Shared → Prop} {Q : Value → Shared → Prop}, Q (.ref hp.objs.size) ⟨hp.push o, g, d, tk, os⟩ → wpAny (model prog w) A' (pyIter v) Q E ⟨hp, g, d, tk, os⟩ :=
      fun q => B.iter prog w _ _ ⟨hp, g, d, tk, os⟩ _ h1 q
    wp_walk using q1
    refine wpAny_stack_any fun st => wpAny_pure ?_
    split
    · rename_i c _ _ _ _ _
      cases (c == Value.type "enumerate")
      · wp_walk using q1
        exact ⟨_, rfl, h⟩
      · wp_walk using q1
        exact ⟨_, rfl, h⟩
    · wp_walk using q1
      exact ⟨_, rfl, h⟩
theorem call_enum1 {prog : Program} {w : World} {A : Around} {E : Value → Shared → Prop} {s : Shared} {v : Value} {o : Obj} {H : Heap → Prop} {Q : Value → Shared → Prop} (B : Begins v o H) (h1 : H s.heap)
    (h : ∀ h', IsEnum h' (s.heap.objs.size + 1) s.heap.objs.size 0 .none → h'.get? s.heap.objs.size = some o → h'.objs.size = s.heap.objs.size + 2 →
      (∀ b o, s.heap.get? b = some o → h'.get? b = some o) → Q (.ref (s.heap.objs.size + 1)) { s with heap := h' }) :
    wpAny (model prog w) A (call (.type "enumerate") [v]) Q E s := by
  refine callType_new F.called_enumerate (by decide) (F.typeCall_enumerate_1 _) (F.newCall_enumerate_1 _) (fun obj => F.args_object_init_2 obj _) F.entry_enumerate_new
    (meets_enum1 B) ⟨h1, ?_⟩
  have hz : (s.heap.push o).objs.size = s.heap.objs.size + 1 := Heap.size_push ..
  show _ ∧ _
  rw [hz]
  have he : IsEnum ((s.heap.push o).push { cls := .type "enumerate", data := .fields #[.none, .bool false, .ref s.heap.objs.size, rawInt 0, .none, .none] }) (s.heap.objs.size + 1) s.heap.objs.size 0 .none := by
    have := Heap.get?_push_size (s.heap.push o) (o := { cls := .type "enumerate", data := .fields #[.none, .bool false, .ref s.heap.objs.size, rawInt 0, .none, .none] }) rfl
    rw [hz] at this; exact this
  refine ⟨⟨_, he, rfl⟩, h _ he (Heap.get?_push_of_some _ (Heap.get?_push_size _ B.free)) (by rw [Heap.size_push, hz]) fun b o x => Heap.get?_push_of_some _ (Heap.get?_push_of_some _ x)⟩
def IteT (K : PySem.W.Frag) (a : Addr) : It :=
  ⟨fun i H => ∃ (xs : List V) (x : V), SqT K H a xs ∧ xs[i]? = some x, fun i H v H' => ∃ T x, v = .ref T ∧ H T = none ∧ H' = upd H T (.tup [.int (i : Nat), x]) ∧ ∀ xs, SqT K H a xs → xs[i]? = some x, fun i H => ∃ xs : List V, SqT K H a xs ∧ xs.length ≤ i⟩
theorem turn_enumT {P : Program} {w : World} {K : PySem.W.Frag} {elts : List Expr} {kk : Nat} {tpos : Pos} (a e it : Addr) (hae : a ≠ it) (hae' : e ≠ a) :
    Turn P w K (.Tuple elts kk tpos) (IteT K a) [e, it] e (fun i h => (∃ old, IsEnum h e it ((i : Nat) : Int) old) ∧ h.IsTupleIter it a i ∧ e ≠ it) where
  mem := by simp
  obj := fun i h st b hb => by
    obtain ⟨⟨old, he⟩, ⟨o, ho, hc, hd⟩, _⟩ := st
    have e' : b = e ∨ b = it := by simpa using hb
    rcases e' with z | z
    · rw [z]; exact ⟨_, he, fun v q => nomatch q⟩
    · rw [z]; exact ⟨o, ho, fun v q => by rw [hd] at q; cases q⟩
  keep := fun i h h' st k => let ⟨⟨old, he⟩, hi, hne⟩ := st; ⟨⟨old, k e (by simp) _ he⟩, hi.at fun o q => k it (by simp) o q, hne⟩
  item := by
    intro X hP hw hK hc i pins s σ H E I hf st hg
    subst hP hw hK
    obtain ⟨⟨old, he⟩, hit, hne⟩ := st
    obtain ⟨xs, x, hq, hx⟩ := hg
    obtain ⟨its, rv, p, hz⟩ := I.tuple hq
    obtain ⟨u, hu, ru⟩ := rv.get hx
    have hel : e < s.heap.objs.size := Heap.lt_size he
    have hil : it < s.heap.objs.size := by obtain ⟨_, q, _⟩ := hit; exact Heap.lt_size q
    have hlen : i < its.toArray.size := by
      have := (List.getElem?_eq_some_iff.mp hu).1
      simpa using this
    refine wpAny_pyNext_enum_itemD (Draws.tuple (show X.A.in1.handled = none from I.ok.hd hc) it a hae its.toArray) he ⟨hit, show s.heap.IsTuple a its.toArray from p⟩ hlen hne (by simp [hne, hae']) fun x' h' tk hx' ho hst' hT hsz hk => ?_
    have ex : x' = u := by
      have : its[i]? = some x' := by simpa using hx'
      rw [hu] at this; exact (Option.some.inj this).symm
    subst ex
    obtain ⟨hit', _⟩ := hst'
    refine ⟨_, rfl, wpAny_letOwnedTupleGo_enum (s := { s with heap := h', toks := tk + 1 }) ho fun h'' he' sb => ?_⟩
    have hT2 : h''.get? s.heap.objs.size = some { cls := .type "tuple", data := .seq #[.int i tk, x'] } := (sb.2 _ (Nat.ne_of_gt hel)).trans hT
    have new : ObjOk X.prog X.w (upd H s.heap.objs.size (.tup [.int (i : Nat), x])) h'' s.heap.objs.size (.tup [.int (i : Nat), x]) :=
      ⟨by show 2 ≤ sizeLine; decide, [.int i tk, x'], .cons ⟨_, rfl⟩ (.cons ru .nil), ⟨_, hT2, rfl, _, rfl⟩⟩
    have I1 : Inv X pins σ (upd H s.heap.objs.size (.tup [.int (i : Nat), x])) { s with heap := h'', toks := tk + 1 } :=
      I.turnedNew (ch := [e, it]) (fun b ob hb q => (sb.2 b (fun z => hb (by simp [z]))).trans (hk b ob (fun z => hb (by simp [z])) (fun z => hb (by simp [z])) q)) hf (Nat.le_refl _) new
    refine ⟨.ref s.heap.objs.size, _, I1, rfl, ⟨_, x, rfl, I.hok.fresh (Nat.le_refl _), rfl, fun ys hy => by rw [I.tuple_inj hy hq]; exact hx⟩, ⟨⟨x', ?_⟩, hit'.at fun o q => (sb.2 it (Ne.symm hne)).trans q, hne⟩, fun b hb => ?_⟩
    · have e1 : ((i + 1 : Nat) : Int) = (i : Int) + 1 := by omega
      rw [e1]; exact he'
    · have hb' : b < s.heap.objs.size := by
        have e' : b = e ∨ b = it := by simpa using hb
        rcases e' with z | z
        · rw [z]; exact hel
        · rw [z]; exact hil
      rw [upd_ne (Nat.ne_of_lt hb')]
      exact (hf b hb).1
  done := by
    intro X hP hw hK hc i pins s σ H E I hf st hg
    subst hP hw hK
    obtain ⟨⟨old, he⟩, hit, hne⟩ := st
    obtain ⟨xs, hq, hx⟩ := hg
    obtain ⟨its, rv, p, hz⟩ := I.tuple hq
    obtain ⟨f0, f1, f2, f3, f4, f5⟩ := hf it (by simp)
    have hl := rv.length
    have hh : X.A.in1.handled = none := I.ok.hd hc
    have hnone : its.toArray[i]? = none := by simp; omega
    have hT : s.TypeIs (.ref e) "enumerate" := ⟨_, he, rfl⟩
    unfold pyNext
    refine wpAny_bind (wpAny_attempt (wpAny_callSpecial?_slot (name := Str.ofString "__next__") hT F.slot_enumerate_next
      (wpAny_call_entry F.slot_enumerate_next hT F.entry_enumerate_next ?_ (F.args_enumerate_next_1 _))))
    show wpAny _ _ (field (.ref e) 2 >>= _) _ _ _
    refine wpAny_bind (wpAny_field he rfl (x := .ref it) rfl ?_)
    refine wpAny_bind (wpAny_nextOf_tuple_end hh hit (show s.heap.IsTuple a its.toArray from p) hnone fun h' x eb hx' => ?_)
    obtain ⟨o, ho, hc⟩ := hx'
    refine wpAny_bind (wpAny_isInstance (T := "StopIteration") (b := true) ⟨o, ho, hc⟩ isSubtype_stop ?_)
    exact wpAny_pure ⟨rfl, I.turned (t' := s.toks) (fun b o hb q => eb b o hb q) f0 f1 f3 f4 f5⟩
  self := fun A i s Q E st h => let ⟨⟨_, he⟩, _⟩ := st; wpAny_pyIter_enum he h
theorem pi_enumA {X : Cx} {e : Expr} {te : TE} {p pos tpos : Pos} {elts : List Expr} {kk : Nat} (hg : Gl X "enumerate") (hm : X.mg "enumerate" = none) (he : PE X e te) (hs : starEach [e] X.env = [(false, eval e X.env)] := by rfl) :
    PI X (.Tuple elts kk tpos) (.Call (.Name "enumerate" p) [e] [] pos) (fun σ H R => te σ H fun v H1 => ∃ a, v = .ref a ∧ (((∃ xs, SqL X.K H1 a xs) ∧ R (Ite X.K a) H1) ∨ ((∃ xs, SqT X.K H1 a xs) ∧ R (IteT X.K a) H1))) := by
  refine ⟨fun pins s σ H R I h => ?_⟩
  refine Call_ (ld_blt I hg hm boot_enumerate (PyProof.Rows.callWith_type1 (args_cons (thn (he.run pins s σ H _ I h) fun u s1 ⟨v, H1, I1, r1, q1⟩ => args_nil ?_) hs) hs rfl))
  obtain ⟨a, ev, q⟩ := q1
  subst ev
  obtain rfl : u = Value.ref a := r1
  have fp : ∀ b ∈ [s1.heap.objs.size + 1, s1.heap.objs.size], s1.heap.objs.size ≤ b := fun b hb => by
    have e' : b = s1.heap.objs.size + 1 ∨ b = s1.heap.objs.size := by simpa using hb
    rcases e' with z | z
    · rw [z]; exact Nat.le_add_right _ _
    · rw [z]; exact Nat.le_refl _
  rcases q with ⟨⟨xs, hq⟩, q⟩ | ⟨⟨xs, hq⟩, q⟩
  · obtain ⟨its, rv, p', hz⟩ := I1.list hq
    refine call_enumerate_list p'.isList fun h' he hit hsz hk => wpAny_pyIter_enum he ?_
    have I2 : Inv X pins σ H1 { s1 with heap := h' } := I1.kept (t' := s1.toks) hk
    exact ⟨s1.heap.objs.size + 1, [s1.heap.objs.size + 1, s1.heap.objs.size], _, _, H1, rfl, I2, turn_enum a (s1.heap.objs.size + 1) s1.heap.objs.size, ⟨⟨.none, he⟩, hit, Nat.succ_ne_self _⟩, fun b hb => I1.fpOk (fp b hb) (I1.hok.fresh (fp b hb)), q⟩
  · obtain ⟨its, rv, p', hz⟩ := I1.tuple hq
    have hp : s1.heap.IsTuple a its.toArray := p'
    have hal : a < s1.heap.objs.size := by obtain ⟨_, q, _⟩ := hp; exact Heap.lt_size q
    refine call_enum1 (begins_tuple a its.toArray) hp fun h' he hit hsz hk => wpAny_pyIter_enum he ?_
    have I2 : Inv X pins σ H1 { s1 with heap := h' } := I1.kept (t' := s1.toks) hk
    exact ⟨s1.heap.objs.size + 1, [s1.heap.objs.size + 1, s1.heap.objs.size], _, _, H1, rfl, I2, turn_enumT a (s1.heap.objs.size + 1) s1.heap.objs.size (Nat.ne_of_lt hal) (Nat.ne_of_gt (Nat.lt_succ_of_lt hal)), ⟨⟨.none, he⟩, ⟨_, hit, rfl, rfl⟩, Nat.succ_ne_self _⟩, fun b hb => I1.fpOk (fp b hb) (I1.hok.fresh (fp b hb)), q⟩
section
variable {X : Cx} {E : XK} {al ar ac ar1 ac1 ar2 ac2 : List Nat} {a b c tg : Expr} {pos : Pos} {ea eb ec : EM D} {K : PySem.W.Frag} {mg : Mg}
theorem y_enumT {T B H} {a : Addr} {vs : List V} {ds : List D} (nb : ∀ p, H p = none → ¬ B p) (s : SqT K H a vs) (r : Reps K mg T B H ds vs) : Y K mg (IteT K a) (enumD 0 ds) T B H := fun i => by
  refine ⟨fun d e => ?_, fun hl => ⟨vs, s, by rw [enumD_len] at hl; rw [← r.len]; exact hl⟩⟩
  obtain ⟨x, ex, rfl⟩ := enumD_get e
  obtain ⟨v, e2, rv⟩ := r.get ex
  refine ⟨⟨vs, v, s, e2⟩, fun x H' z => ?_⟩
  obtain ⟨p, v', rfl, n, rfl, z1⟩ := z
  have z1 := z1 vs s
  rw [e2] at z1; cases z1
  rw [Nat.zero_add]
  exact ⟨.inr ⟨_, _, n, rfl⟩, rep_pair (nb p n) n (.int _) rv⟩
def enumM : D → M (List D)
  | .tup ds => fun w => .ok (enumD 0 ds) w
  | .lst ds => fun w => .ok (enumD 0 ds) w
  | _ => fun _ => .st
theorem gi_enum {p tpos : Pos} {elts : List Expr} {kk : Nat} (hm : X.mg "enumerate" = none) (he : GE X E ar ac a ea) (s1 : ar ⊆ al := by simp) (s2 : ac ⊆ al := by simp) (hg : Gl X "enumerate" := by rfl)
    (hs : starEach [a] X.env = (false, eval a X.env) :: starEach [] X.env := by rfl) : GI X E al ac (.Tuple elts kk tpos) (.Call (.Name "enumerate" p) [a] [] pos) (dUn enumM ea) :=
  pi_mono (pi_enumA hg hm he hs) fun σ H R ⟨env, w, T, A, rel, t, p⟩ => goI rel t p fun d w1 v H1 T1 x t1 rel1 r p1 => by
    unfold enumM at p1
    split at p1
    · obtain ⟨o, vs, rfl, l, q⟩ := tp_of r
      exact ⟨o, rfl, .inr ⟨⟨vs, l.sq⟩, p1 _ H1 T1 .refl t1 (fun T' H' Bx y nb hb => y_enumT nb (tp_ye l y) (reps_bx q y hb)) (fun T' A' H' y nb => y_enumT nb (tp_ys l s2 y) (reps_ys q s2 y))⟩⟩
    · obtain ⟨o, vs, rfl, l, q⟩ := r
      exact ⟨o, rfl, .inl ⟨⟨vs, l.sq⟩, p1 _ H1 T1 .refl t1 (fun T' H' Bx y nb hb => y_enumL nb (ls_ye l y) (reps_bx q y hb)) (fun T' A' H' y nb => y_enumL nb (ls_ys l s1 y) (reps_ys q s2 y))⟩⟩
    · exact p1.elim
end
end DL
namespace DL
open PySem PySem.Spec PyProof.Rows L2
open Sem (wp)
/-! ### comprehensions out of which an exception may fly -/
section
variable {M : Model} {A : Around} {E : Value → Shared → Prop} {s : Shared} {Z : Obj → Prop} {base : Heap} {env : PySem.Env} {outer l : List PySem.Env} {L L' e : Addr}
/-- held by another frame -/
theorem looks_else {Q : Unit → Shared → Prop} (hZ : HandSPX.Steady Z) (fr : A.frames = some (env :: outer)) (fe : env.frame = some L) (ne : L' ≠ L) (x : HandSPX.HeldZ base (env :: outer) e Z L' s.heap)
    (k : ∀ h', HandSPX.HeldZ base (env :: outer) e Z L h' → s.heap.UpToSlots h' → Q () { s with heap := h' }) : wpAny M A (noteFrame (.ref e) env) Q E s := by
  obtain ⟨b1, b2, b3, oe, vs, T, oT, ts, g1, z1, d1, v1, n1, n2, g2, d2, v2⟩ := x
  have oth : ∀ b, b ≠ T → (s.heap.update T (Obj.mapFields (·.setIfInBounds 3 Value.none))).get? b = s.heap.get? b := fun b hb => Heap.get?_update_other _ _ (Ne.symm hb)
  have nrec : ∀ b o, s.heap.get? b = some o → (∀ us, o.data ≠ .fields us) → b ≠ T := fun b o hb f q => by
    subst q; rw [g2] at hb; cases hb; exact f ts d2
  unfold noteFrame
  simp only [fe]
  refine wpAny_bind (wpAny_field g1 d1 v1 ?_)
  rw [if_pos (by simp)]
  refine wpAny_bind (wpAny_field g2 d2 v2 ?_)
  rw [if_neg (fun q => ne (by simpa [rawInt, Int.natCast_inj] using q))]
  refine wpAny_bind (wpAny_setField g2 d2 (Array.getElem?_eq_some_iff.mp v2).1 ?_)
  refine HandSPX.wpAny_entryZ hZ fr (b3.of_keeps fun b o hb f => ⟨o, (oth b (nrec b o hb f)).trans hb, rfl⟩) fe ((oth e (Ne.symm n2)).trans g1) (fun b o hb => (oth b fun q => by subst q; rw [n1] at hb; cases hb).trans (b1 b o hb)) b2 d1
    (Array.getElem?_eq_some_iff.mp v1).1 z1 fun h' ⟨y1, y2, y3, y4⟩ => k h' ⟨y1, b2, y2, y3⟩ fun b o hb f => y4 b o ((oth b (nrec b o hb f)).trans hb) f
end
abbrev bxe (X : Cx) (E : XK) : Value → Shared → Prop := XE X (fun cls d _ H => E cls d H)
/-- a block whose exceptions are told -/
abbrev blkX (X : Cx) (E : XK) (s : Shared) (H : Hp) (scope : Scope) (ce : PySem.Env) (fp : List Addr) : Cx := (X.blk s H scope ce fp).wish (bxe (X.blk s H scope ce fp) E)
section
variable {X : Cx} {E : XK}
theorem takes_blk {s H scope ce fp} : TakesE (blkX X E s H scope ce fp) E := fun u s' ⟨a, B, sI, pins, σ, H', cls, d, e, I, r⟩ => ⟨a, B, sI, pins, σ, H', cls, d, e, I.unwish, r⟩
theorem hideC {h h' : Heap} {C : Addr} (sb : Heap.SameBut C h h') {B : Heap} (st : B.StaysIn h) : (PySem.W.hideAll B [C]).StaysIn h' := fun b o e => by
  have z := PySem.W.of_hideAll _ e
  by_cases hb : b = C
  · subst hb
    rw [PySem.W.hideAll_none _ (by simp)] at e; cases e
  · exact (sb.2 b hb).trans (st b o z)
/-- what flies out of a block flies out of the def -/
theorem blk_fails {pins : List (Addr × Obj)} {σ : L2.St} {H3 : Hp} {s3 s' : Shared} {scope : Scope} {ce : PySem.Env} {fp : List Addr} {u : Value} (hstk : X.stack = X.env :: X.outer) (hfr : X.env.frame = some X.env.locals) (tk : TakesE X E) (I3 : Inv X pins σ H3 s3)
    (cfr : ce.frame = X.env.frame) (cL : ce.locals = s3.heap.objs.size) (f3 : ∀ b ∈ fp, FpOk X pins H3 b) (x : bxe (X.blk s3 H3 scope ce fp) E u s') :
    notedBy (model X.prog X.w) X.A ce (CompFails (model X.prog X.w) X.A X.xe ce) u s' := by
  obtain ⟨a, B, sI, pb, σb, Hb, cls, d, rfl, Ib, nb, up, sky, na, os, ag, w⟩ := x
  have nb : ∀ b o, sI.heap.get? b = some o → b ∉ frs X.stack → B.get? b = some o := nb
  have sky : Sky B X.stack a (Zc cls d) ce.locals s'.heap := sky
  unfold notedBy
  rw [noteFrame_env (.ref a) cfr]
  have fr : X.A.frames = some (X.env :: X.outer) := by rw [I3.ok.frames, hstk]
  have out : ∀ b ∈ frs X.stack, b < s3.heap.objs.size := fun b hb => by
    obtain ⟨_, o, ho, _⟩ := I3.stack.mem hb
    exact Heap.lt_size ho
  have nC : ce.locals ∉ frs X.stack := fun hb => by
    have := out _ hb
    rw [cL] at this; exact Nat.lt_irrefl _ this
  have neL : ce.locals ≠ X.env.locals := fun q => by
    have := I3.lt
    rw [← q, cL] at this; exact Nat.lt_irrefl _ this
  obtain ⟨mC, hnC, _⟩ := Ib.loc
  have hnC : sI.heap.Ns ce.locals mC := hnC
  have nHC : Hb ce.locals = none := Ib.free
  -- the state without it, back in the def
  have IX : Inv X pins σ Hb sI := I3.call' (ch := fp) Ib.os Ib.base Ib.hok Ib.bare fun b hb => ⟨(f3 b hb).2.2.2.1, (f3 b hb).2.1, (f3 b hb).2.2.2.2.1, (f3 b hb).2.2.2.2.2⟩
  have fC : FpOk X pins Hb ce.locals := by
    rw [cL] at nHC ⊢
    exact I3.fpOk (Nat.le_refl _) nHC
  obtain ⟨f0, f1, f2, f4, f5, f6⟩ := fC
  have fin : ∀ h1, HandSPX.HeldZ B (X.env :: X.outer) a (Zc cls d) X.env.locals h1 → s'.heap.UpToSlots h1 → CompFails (model X.prog X.w) X.A X.xe ce (.ref a) { s' with heap := h1 } := fun h1 hh up1 => by
    obtain ⟨b1, b2, b3, tz⟩ := hh
    have hn1 : h1.Ns ce.locals mC := by
      obtain ⟨o, es, ep, ho, r⟩ := hnC
      exact ⟨o, es, ep, b1 _ _ (nb _ _ ho nC), r⟩
    refine ⟨mC, hn1, fun h2 m2 hn2 sb => ?_⟩
    have nCa : a ≠ ce.locals := fun q => by
      obtain ⟨o, es, ep, ho, _⟩ := hnC
      have := nb _ _ ho nC
      rw [← q, b2] at this; cases this
    -- the ground without the block
    have st2 : (PySem.W.hideAll B [ce.locals]).StaysIn h2 := hideC sb b1
    have b2' : (PySem.W.hideAll B [ce.locals]).get? a = none := by
      cases q : (PySem.W.hideAll B [ce.locals]).get? a with
      | none => rfl
      | some o => have z := PySem.W.of_hideAll _ q; rw [b2] at z; cases z
    have ff : h2.FunFrames (PySem.W.hideAll B [ce.locals]) (X.env :: X.outer) := by
      refine Heap.FunFrames.sameBut sb hn2 ?_
      refine funFrames_none b3 fun L hL => ?_
      cases q : (PySem.W.hideAll B [ce.locals]).get? L with
      | none => rfl
      | some o =>
        have z := PySem.W.of_hideAll _ q
        obtain ⟨z2, _⟩ := b3.mem hL
        rw [z2] at z; cases z
    have tz2 : HandSPX.TracedZ h2 (PySem.W.hideAll B [ce.locals]) a (Zc cls d) (rawInt X.env.locals) := by
      obtain ⟨oe, vs, T, oT, ts, g1, z1, d1, v1, n1, n2, g2, d2, v2⟩ := tz
      have nT : T ≠ ce.locals := fun q => by
        obtain ⟨o, es, ep, ho, _⟩ := hnC
        have := nb _ _ ho nC
        rw [← q, n1] at this; cases this
      refine ⟨oe, vs, T, oT, ts, (sb.2 a nCa).trans g1, z1, d1, v1, ?_, n2, (sb.2 T nT).trans g2, d2, v2⟩
      cases q : (PySem.W.hideAll B [ce.locals]).get? T with
      | none => rfl
      | some o => have z := PySem.W.of_hideAll _ q; rw [n1] at z; cases z
    unfold PySem.passOn
    have tz3 := tz2
    obtain ⟨oe, vs, T, oT, ts, g1, z1, d1, v1, n1, n2, g2, d2, v2⟩ := tz3
    refine wpAny_bind (wpAny_field g1 d1 v1 ?_)
    rw [if_neg (by simp)]
    rw [cfr, hfr]
    refine wpAny_bind (HandSPX.setFlight_onZ (s := { s' with heap := h2 }) ⟨st2, b2', ff, tz2⟩ fun h3 hh3 up3 => wpAny_throw ?_)
    refine tk _ _ ⟨a, PySem.W.hideAll B [ce.locals], { sI with heap := PySem.W.hideAll sI.heap [ce.locals] }, pins, σ, Hb, cls, d, rfl, ?_, fun b o e hb => ?_, fun b o e hd => ?_, .inr (.inr (by rw [hstk]; exact hh3)), na, os, ag, w⟩
    · exact IX.turned (t' := sI.toks) (it := ce.locals) (fun b o hb e => PySem.W.hideAll_get _ e (by simp [hb])) f0 f1 f4 f5 f6
    · have z := PySem.W.of_hideAll _ e
      have hbC : b ≠ ce.locals := fun q => by
        rw [q, PySem.W.hideAll_none _ (by simp)] at e; cases e
      exact PySem.W.hideAll_get _ (nb b o z hb) (by simp [hbC])
    · have z := PySem.W.of_hideAll _ e
      have hbC : b ≠ ce.locals := fun q => by
        rw [q, PySem.W.hideAll_none _ (by simp)] at e; cases e
      obtain ⟨l1, e1⟩ := up b o z hd
      obtain ⟨l2, e2⟩ := up1 b _ e1 hd
      obtain ⟨l3, e3⟩ := up3 b _ ((sb.2 b hbC).trans e2) hd
      exact ⟨l3, e3⟩
  rw [hstk] at sky
  rcases sky with ⟨h1, h2, h3, oe, vs, h4, h5, h6, h7⟩ | fl | hh
  · exact HandSPX.look_newZ Zc.steady fr h3 hfr h4 h1 h2 h6 h7 h5 fin
  · exact HandSPX.looks_onZ Zc.steady fr hfr fl fin
  · exact looks_else Zc.steady fr hfr neL hh fin
end
end DL
namespace DL
open PySem PySem.Spec PyProof.Rows L2
open Sem (wp)
section
variable {X : Cx} {E : XK}
theorem lcx_core {pins : List (Addr × Obj)} {s : Shared} {σ : L2.St} {H : Hp} {Q : VK} {elt tg iter : Expr} {ifs : List Expr} {scope : Scope} {own : List (Str × Nat)} {pos pos' : Pos} {wi : TI} {g : TG} {tt : TT} {te : TE} {use : Option (Value → Sem Unit)} {Qf : Value → Shared → Prop}
    (hstk : X.stack = X.env :: X.outer) (hfr : X.env.frame = some X.env.locals) (tk : TakesE X E) (calm : X.calm = true) (nd : X.N.Nodup) (I : Inv X pins σ H s) (hi : PI X tg iter wi) (ok : BlkOk X.N X.env.scope scope own)
    (hg : ∀ s H C cl fp, PG (blkX X E s H scope (compEnvC scope cl C X.env) fp) tg g) (ht : ∀ s H C cl fp, PTs (blkX X E s H scope (compEnvC scope cl C X.env) fp) ifs tt)
    (he : ∀ s H C cl fp, PE (blkX X E s H scope (compEnvC scope cl C X.env) fp) elt te) (fs : ∀ x, foldedSetIterable iter X.env x = pure x)
    (h : tLc wi g tt te (own.map (·.2)) σ H Q)
    (hRR : ∀ D s' m H' (ce : PySem.Env), Inv X pins σ H' s' → Q (.ref D) H' → s'.heap.Ns ce.locals m → FpOk X pins H' ce.locals → compEnds (model X.prog X.w) X.A X.xe use Qf (.ref D) ce (.ok .next) s') :
    wpAny (model X.prog X.w) X.A (comprehension (.ListComp elt [⟨tg, iter, ifs, 0⟩] scope pos) scope X.env pos' (newList []) false (eval iter X.env) use) Qf X.xe s := by
  have frees : ∀ y ∈ scope.names, y.2 = .free → ∃ c, X.env.cells.lookup y.1 = some c := fun y hy e =>
    (ok.free y hy e).elim (fun k => I.ok.has _ (.inl k)) (fun k => I.ok.has _ (.inr k))
  refine comprehension_at (use := use) rfl fs (closure_ok frees) ok.kind (fun y hy e => (ok.uniq y hy).trans (congrArg some e)) (thn (hi.run pins s σ H _ I h) fun iv s1 h1 => thn h1 fun jv s2 ⟨it, fp, tn, J, H2, ej, I2, T, t2, f2, q2⟩ => ?_)
  subst ej
  refine wpAny_newObj_type (newEnv_comp ?_) (by show 0 ≤ sizeLine; decide)
  generalize eD : s2.heap.objs.size = D
  obtain ⟨W, ⟨m0, w0⟩, turn⟩ := q2 D (I2.hok.fresh (Nat.le_of_eq eD))
  generalize e3 : ({ s2 with heap := s2.heap.push { cls := .type "list", data := .seq ([] : List Value).toArray } } : Shared) = s3
  have I3 : Inv X pins σ (upd H2 D (.lst [])) s3 := by
    subst e3
    refine I2.laid (t' := s2.toks) (fun b o e => Heap.get?_push_of_some _ e) (Nat.le_of_eq eD) ⟨Nat.zero_le _, [], 0, .nil, ?_⟩
    subst eD; exact Heap.get?_push_size _ rfl
  have p3 : s3.heap = s2.heap.push { cls := .type "list", data := .seq ([] : List Value).toArray } := by subst e3; rfl
  have lt2 : ∀ b ∈ fp, b < s2.heap.objs.size := fun b hb => let ⟨_, e, _⟩ := T.obj _ _ t2 b hb; Heap.lt_size e
  have f3 : ∀ b ∈ fp, FpOk X pins (upd H2 D (.lst [])) b ∧ b < s3.heap.objs.size := fun b hb =>
    ⟨⟨(upd_ne (fun q => by have := lt2 b hb; rw [eD, q] at this; exact Nat.lt_irrefl _ this)).trans (f2 b hb).1, (f2 b hb).2⟩, by rw [p3, Heap.size_push]; exact Nat.lt_succ_of_lt (lt2 b hb)⟩
  have t3 : tn 0 s3.heap := T.keep _ _ _ t2 fun b _ o e => by rw [p3]; exact Heap.get?_push_of_some _ e
  have I4 := block_start I3 ok nd f3
  let cl := cellsFrom (s3.heap.objs.size + 1) scope.names (cloFrom X.env.cells scope.names [])
  have pg := hg s3 (upd H2 D (.lst [])) s3.heap.objs.size cl fp
  have pt := ht s3 (upd H2 D (.lst [])) s3.heap.objs.size cl fp
  have pe := he s3 (upd H2 D (.lst [])) s3.heap.objs.size cl fp
  show codeAny _ _ (.compStart (.ListComp elt [⟨tg, iter, ifs, 0⟩] scope pos) 0 (.ref it) (.ref D) (compEnvC scope cl s3.heap.objs.size X.env)) (compEnds (model X.prog X.w) X.A X.xe use Qf (.ref D) (compEnvC scope cl s3.heap.objs.size X.env)) { s3 with heap := pushCells (s3.heap.push { cls := .type "dict", data := .dict #[] }) scope.names }
  have nfp : ∀ b ∈ fp, (upd H2 D (.lst [])) b = none := fun b hb => (f3 b hb).1.1
  have cfr : (compEnvC scope cl s3.heap.objs.size X.env).frame = X.env.frame := rfl
  have cL : (compEnvC scope cl s3.heap.objs.size X.env).locals = s3.heap.objs.size := rfl
  generalize hce : compEnvC scope cl s3.heap.objs.size X.env = ce at cfr cL pg pt pe ⊢
  have I4 : Inv (X.blk s3 (upd H2 D (.lst [])) scope ce fp) [] (wipe σ (own.map (·.2))) (upd H2 D (.lst [])) { s3 with heap := pushCells (s3.heap.push { cls := .type "dict", data := .dict #[] }) scope.names } := by subst hce; exact I4
  generalize eH : upd H2 D (.lst []) = H3 at I3 I4 pg pt pe w0 nfp f3
  generalize e4 : ({ s3 with heap := pushCells (s3.heap.push { cls := .type "dict", data := .dict #[] }) scope.names } : Shared) = s4 at I4 ⊢
  have t4 : tn 0 s4.heap := T.keep _ _ _ t3 fun b _ o e => by subst e4; exact pushCells_keeps _ _ _ _ (Heap.get?_push_of_some _ e)
  have I4 : Inv (blkX X E s3 H3 scope ce fp) [] (wipe σ (own.map (·.2))) H3 s4 := I4.wish _
  have fails : ∀ {u : Value} {s' : Shared}, bxe (X.blk s3 H3 scope ce fp) E u s' → notedBy (model X.prog X.w) X.A ce (CompFails (model X.prog X.w) X.A X.xe ce) u s' := fun {u s'} x => blk_fails hstk hfr tk I3 cfr cL (fun b hb => (f3 b hb).1) x
  have endE : ∀ {u : Value} {s' : Shared}, notedBy (model X.prog X.w) X.A ce (CompFails (model X.prog X.w) X.A X.xe ce) u s' → notedBy (model X.prog X.w) X.A ce (fun e s'' => compEnds (model X.prog X.w) X.A X.xe use Qf (.ref D) ce (.error e) s'') u s' := fun {u s'} x =>
    wpAny_mono x (fun _ s2 y => by cases use <;> exact y) fun _ s2 y => by cases use <;> exact y
  have stat : ∀ {σ' : L2.St} {H' : Hp} {s' : Shared}, Inv (blkX X E s3 H3 scope ce fp) [] σ' H' s' → (∀ b ∈ fp, H' b = none) → ∀ b ∈ fp, FpOk (blkX X E s3 H3 scope ce fp) [] H' b := fun {σ' H' s'} J n b hb =>
    ⟨n b hb, (J.ok.exf b hb).1, J.ok.exfs b hb, .inl hb, fun x c e => (J.ok.exf b hb).2 x c e, fun p hp => by cases hp⟩
  have loop : codeAny (model X.prog X.w) X.A (.compLoop (.ListComp elt [⟨tg, iter, ifs, 0⟩] scope pos) 0 (.ref it) (.ref D) ce) (compEnds (model X.prog X.w) X.A X.xe use Qf (.ref D) ce) s4 := by
    refine compLoop_any (fun n s' => ∃ i H', Inv (blkX X E s3 H3 scope ce fp) [] (wipe σ (own.map (·.2))) H' s' ∧ tn i s'.heap ∧ (∀ b ∈ fp, H' b = none) ∧ W i n H') ?_ m0 ⟨0, H3, I4, t4, nfp, w0⟩
    rintro n s5 ⟨i, H5, I5, t5, n5, w5⟩
    rcases turn i n H5 w5 with ⟨stop, qq⟩ | ⟨go, Nx, hNx, step⟩
    · refine thnF (T.done (blkX X E s3 H3 scope ce fp) rfl rfl rfl calm i [] s5 _ H5 (fun _ _ => False) I5 (stat I5 n5) t5 stop) fun r s6 ⟨er, I6⟩ => ?_
      subst er
      have I7 : Inv X pins σ H5 s6 := I3.call' (ch := fp) I6.os I6.base I6.hok I6.bare fun b hb => ⟨(f3 b hb).1.2.2.2.1, (f3 b hb).1.2.1, (f3 b hb).1.2.2.2.2.1, (f3 b hb).1.2.2.2.2.2⟩
      have nC : H5 ce.locals = none := I6.free
      obtain ⟨m, hn, _⟩ := I6.loc
      have hn : s6.heap.Ns ce.locals m := hn
      refine hRR D s6 m H5 ce I7 qq hn ?_
      rw [cL] at nC ⊢
      exact I3.fpOk (Nat.le_refl _) nC
    · refine thnF (T.item (blkX X E s3 H3 scope ce fp) rfl rfl rfl calm i [] s5 _ H5 (fun _ _ => False) I5 (stat I5 n5) t5 go) fun r s6 ⟨u, er, h6⟩ => ?_
      subst er
      refine thnF h6 fun _ s7 ⟨x, H7, I7, r7, y7, t7, n7⟩ => ?_
      have P7 := I7.pinned (stat I7 n7) (T.obj _ _ t7)
      refine wpAny_mono (pg.run _ s7 _ H7 x u _ P7 r7 (step x H7 y7)) (fun _ s8 ⟨σ8, H8, I8, hw8, q8⟩ => ?_) fun _ _ x => endE (fails x)
      refine wpAny_mono (pt.run _ s8 σ8 H8 _ I8 q8) (fun b s9 ⟨H9, I9, q9⟩ => ?_) fun _ _ x => endE (fails x)
      have fin : ∀ {s' : Shared} {H' : Hp}, Inv (blkX X E s3 H3 scope ce fp) ([] ++ pinsAt fp s7.heap) σ8 H' s' → Nx H' → ∃ m, m < n ∧ ∃ i H', Inv (blkX X E s3 H3 scope ce fp) [] (wipe σ (own.map (·.2))) H' s' ∧ tn i s'.heap ∧ (∀ b ∈ fp, H' b = none) ∧ W i m H' := fun {s' H'} J nx => by
        obtain ⟨m', hm, w'⟩ := hNx H' nx
        have pin' : ∀ b ∈ fp, ∀ o, s7.heap.get? b = some o → s'.heap.get? b = some o ∧ H' b = none := fun b hb o e =>
          let z := J.pin (b, o) (List.mem_append_right _ (List.mem_append_right _ (mem_pinsAt hb e)))
          ⟨z.1, z.2.1⟩
        refine ⟨m', hm, i + 1, H', (J.unpinned (pins := [])).weak (by rw [← hw8, wipe_length]) (fun j v e => ?_), T.keep _ _ _ t7 fun b hb o e => (pin' b hb o e).1, fun b hb => ?_, w'⟩
        · rw [← hw8] at e
          exact (wipe_some e).1
        · obtain ⟨o, e, _⟩ := T.obj _ _ t7 b hb
          exact (pin' b hb o e).2
      cases b with
      | false =>
        simp only [Bool.false_eq_true, if_false] at q9 ⊢
        exact fin I9 q9
      | true =>
        simp only [if_true] at q9 ⊢
        refine wpAny_mono (pe.run _ s9 σ8 H9 _ I9 q9) (fun z s10 ⟨yv, H10, I10, r10, acc, hD10, hz10, nx⟩ => ?_) fun _ _ x => endE (fails x)
        exact app_ok (X := blkX X E s3 H3 scope ce fp) I10 hD10 hz10 r10 fun s11 I11 => fin I11 nx
  exact codeAny_compStart_list loop (T.self X.A 0 _ _ _ t4 loop)
theorem pe_lcx {elt tg iter : Expr} {ifs : List Expr} {scope : Scope} {own : List (Str × Nat)} {pos : Pos} {wi : TI} {g : TG} {tt : TT} {te : TE} (hstk : X.stack = X.env :: X.outer) (hfr : X.env.frame = some X.env.locals) (tk : TakesE X E) (calm : X.calm = true) (nd : X.N.Nodup) (hi : PI X tg iter wi) (ok : BlkOk X.N X.env.scope scope own)
    (hg : ∀ s H C cl fp, PG (blkX X E s H scope (compEnvC scope cl C X.env) fp) tg g) (ht : ∀ s H C cl fp, PTs (blkX X E s H scope (compEnvC scope cl C X.env) fp) ifs tt)
    (he : ∀ s H C cl fp, PE (blkX X E s H scope (compEnvC scope cl C X.env) fp) elt te) (fs : ∀ x, foldedSetIterable iter X.env x = pure x) :
    PE X (.ListComp elt [⟨tg, iter, ifs, 0⟩] scope pos) (tLc wi g tt te (own.map (·.2))) := by
  refine ⟨fun pins s σ H Q I h => ?_⟩
  rw [eval_ListComp]
  refine lcx_core hstk hfr tk calm nd I hi ok hg ht he fs h fun D s' m H' ce J q hn f => ⟨m, hn, fun h2 sb => ?_⟩
  obtain ⟨f0, f1, f2, f3, f4, f5⟩ := f
  exact ⟨.ref D, H', J.turned (t' := s'.toks) (fun b o hb e => (sb.2 b hb).trans e) f0 f1 f3 f4 f5, rfl, q⟩
end
section
variable {X : Cx} {E : XK} {al ar ac ar1 ac1 ar2 ac2 ac3 js : List Nat} {a b c tg elt iter : Expr} {ifs : List Expr} {pos : Pos} {ea eb ec ε : EM D} {K : PySem.W.Frag} {mg : Mg} {β : TM} {κ : EM Bool} {ι : EM (List D)} {own : List (Str × Nat)} {scope : Scope}
def dCompX (ac ac3 vs : List Nat) (ι : EM (List D)) (β : TM) (κ : EM Bool) (ε : EM D) : EM (List D) := fun env w => if ac3.all (· < env.length) then (ι env w).bind fun ds w => if ds.length ≤ sizeLine ∧ noOw (frzs env ac) vs = true then compM β κ ε ds (wipeE (frzs env ac) vs) w else .st else .st
theorem comp_liftX {vs : List Nat} (hj : js ⊆ vs) (s1 : ar1 ⊆ ac3) (s2 : ac1 ⊆ ac3) (s3 : ac ⊆ ac3) {σ H Q} (h : liftF K mg E ac3 (dCompX ac ac3 vs ι β κ ε) σ H Q) : tLc (liftI K mg E al ac ι) (liftG K mg js β) (liftT K mg E κ) (liftE K mg E ar1 ac1 ε) vs σ H Q := by
  obtain ⟨env, w, T, A, rel, t, p⟩ := h
  unfold dCompX at p
  split at p
  · rename_i h3
    refine ⟨env, w, T, A, rel, t, ?_⟩
    cases q : ι env w with
    | st => rw [q] at p; exact p.elim
    | ex e w1 => rw [q] at p; exact p
    | ok ds w1 =>
      rw [q] at p
      have p : PostF K mg E T A ac3 H Q (if ds.length ≤ sizeLine ∧ noOw (frzs env ac) vs = true then compM β κ ε ds (wipeE (frzs env ac) vs) w1 else .st) := p
      intro J H1 T1 x t1 ye _ Da n
      split at p
      · rename_i hz
        exact comp_loop (rel.ext x) t1 ye hz.2 hz.1 hj s1 s2 s3 (fun k hk => by simpa using List.all_eq_true.mp h3 k hk) rfl rfl rfl (p.ext x) Da n
      · exact p.elim
  · exact p.elim
/-- [..] out of which an exception may fly -/
theorem gf_compX (hstk : X.stack = X.env :: X.outer) (hfr : X.env.frame = some X.env.locals) (tk : TakesE X E) (hc : X.calm = true) (hN : X.N.Nodup) (hi : GI X E al ac tg iter ι) (ok : BlkOk X.N X.env.scope scope own)
    (hg : ∀ s H C cl fp, TakesE (blkX X E s H scope (compEnvC scope cl C X.env) fp) E → GG (blkX X E s H scope (compEnvC scope cl C X.env) fp) js tg β) (ht : ∀ s H C cl fp, TakesE (blkX X E s H scope (compEnvC scope cl C X.env) fp) E → GTs (blkX X E s H scope (compEnvC scope cl C X.env) fp) E ifs κ)
    (he : ∀ s H C cl fp, TakesE (blkX X E s H scope (compEnvC scope cl C X.env) fp) E → GE (blkX X E s H scope (compEnvC scope cl C X.env) fp) E ar1 ac1 elt ε) (hj : js ⊆ own.map (·.2) := by decide) (s1 : ar1 ⊆ ac3 := by simp) (s2 : ac1 ⊆ ac3 := by simp) (s3 : ac ⊆ ac3 := by simp) (hs : ∀ x, foldedSetIterable iter X.env x = pure x := by intro _; rfl) :
    GF X E ac3 (.ListComp elt [⟨tg, iter, ifs, 0⟩] scope pos) (dCompX ac ac3 (own.map (·.2)) ι β κ ε) :=
  pe_mono (pe_lcx (g := liftG X.K X.mg js β) (tt := liftT X.K X.mg E κ) (te := liftE X.K X.mg E ar1 ac1 ε) hstk hfr tk hc hN hi ok (fun s H C cl fp => hg s H C cl fp takes_blk) (fun s H C cl fp => ht s H C cl fp takes_blk) (fun s H C cl fp => he s H C cl fp takes_blk) hs) fun σ H Q h => comp_liftX hj s1 s2 s3 h
end
end DL
namespace DL
open PySem PySem.Spec PyProof.Rows L2
/-! ### a def's name as a value -/
theorem cst_fn {P w K mg base x n k φ} (F : FnD P w K mg base x n k φ) : Cst K mg (Str.ofString x) (.fn x) := by
  obtain ⟨f, fd, ps, h1, h2, _⟩ := F.ex
  exact ⟨.ref f, .ref f, h1, rfl, fun _ _ _ => .fn h1⟩
/-! ### keywords -/
def gJ {α : Type} (j : Nat) (us ws : List α) : List α := if us.length = j then us ++ ws else []
/-- a def called with j values ahead, its other parameters by their names -/
def KB (K : PySem.W.Frag) (fd : FuncData) (ps : List Str) (j : Nat) : Prop := KBinds K fd ps (ps.drop j) (gJ j) (gJ j)
theorem kb_mk {K fd ps j} (hj : j < ps.length) (h : ∀ (us ws : List Value), us.length = j → ws.length = ps.length - j → bindArgs fd ⟨us, (ps.drop j).zip ws⟩ = pure (ps.zip (us ++ ws))) : KB K fd ps j where
  to := fun s us ws _ hl => by
    unfold gJ at hl ⊢
    split at hl
    · rename_i e
      rw [if_pos e]
      refine .of_eq (h us ws e ?_)
      rw [List.length_append] at hl; omega
    · rw [List.length_nil] at hl; omega
  rel := fun {vs us zs ws} r1 r2 => by
    unfold gJ
    rw [r1.length]
    split
    · exact r1.append r2
    · exact .nil
/-- a def that is worth φ, and may be called by names behind j values (j of js) -/
structure FnK (P : Program) (w : World) (K : PySem.W.Frag) (mg : Mg) (base : Heap) (x : String) (n k : Nat) (φ : List D → M D) (js : List Nat) (names : List Str) : Prop where
  ex : ∃ f fd ps, mg (Str.ofString x) = some (.ref f) ∧ PySem.W.keepIn K (.ref f) = true ∧ Binds K fd ps [] ∧ ps.length = n ∧ FnOk P w K mg base (L2.CX P w) k f fd ps (spD K mg n φ) ∧ ps = names ∧ ∀ j ∈ js, KB K fd ps j
theorem FnK.d {P w K mg base x n k φ js nms} (F : FnK P w K mg base x n k φ js nms) : FnD P w K mg base x n k φ := by
  obtain ⟨f, fd, ps, h1, h2, h3, h4, h5, _⟩ := F.ex
  exact ⟨f, fd, ps, h1, h2, h3, h4, h5⟩
theorem FnK.mono {P w K mg base x n k k' φ js nms} (F : FnK P w K mg base x n k φ js nms) (h : k ≤ k') : FnK P w K mg base x n k' φ js nms := by
  obtain ⟨f, fd, ps, h1, h2, h3, h4, h5, h6, h7⟩ := F.ex
  exact ⟨f, fd, ps, h1, h2, h3, h4, h5.mono h, h6, h7⟩
section
variable {X : Cx} {E : XK} {al al1 al2 ar ac : List Nat} {a b c : Expr} {es : List Expr} {kws : List Keyword} {pos kpos : Pos} {ea eb : EM D} {K : PySem.W.Frag} {mg : Mg}
theorem pe_callK0 {CX : CXT} {k : Nat} {f : Addr} {fd : FuncData} {ps ks : List Str} {sp : Sp} {x : Str} {p : Pos} {tk : TA} {g : List Value → List Value → List Value} {gV : List V → List V → List V} (F : FnOk X.prog X.w X.K X.mg X.base CX k f fd ps sp) (hr : Room k X.A) (hg : Gl X x) (hm : X.mg x = some (.ref f)) (hk : PySem.W.keepIn X.K (.ref f) = true) (hb : KBinds X.K fd ps ks g gV) (hx : Passes CX X E)
    (kw : PK X kws tk) (al : (backToKw pos (keywordEach kws X.env)).all (·.1.isSome) = true) (nm : (backToKw pos (keywordEach kws X.env)).filterMap (·.1) = ks)
    (hdb : (x == ("__debug__" : Str)) = false) (pl : ((backTo pos (starEach [] X.env)).any (·.1) || (backToKw pos (keywordEach kws X.env)).any (·.1.isNone)) = false) :
    PE X (.Call (.Name x p) [] kws pos) (tCallK sp gV E tNil tk) := by
  refine ⟨fun pins s σ H Q I h => ?_⟩
  refine wpAny_Call_Name_kw (ld_glob I hg hm ?_ hdb)
  refine PySem.W.callWith_KW0 (h₀ := X.base) I.ok.mod.kin hk al (thn (kw.run pos pins s σ H _ I h) fun ws s2 ⟨zs, H2, I2, rz, q2⟩ => ⟨I2.kIn, ?_⟩) pl
  rw [nm]
  exact run_fnk F hr hb hx I2 .nil rz q2
def GKw (X : Cx) (E : XK) (al : List Nat) (kws : List Keyword) (α : EM (List D)) : Prop := PK X kws (liftA X.K X.mg E al α)
theorem pk_mono {t u : TA} (h : PK X kws t) (m : ∀ σ H Q, u σ H Q → t σ H Q) : PK X kws u := ⟨fun pos pins s σ H Q I q => h.run pos pins s σ H Q I (m _ _ _ q)⟩
theorem gkw_nil : GKw X E [] [] aNil := pk_mono pk_nil fun σ H Q ⟨env, w, T, A, rel, t, p⟩ => p [] H T .refl t .nil
theorem gkw_cons {nm : Option Str} {α : EM (List D)} (ha : GE X E ar ac a ea) (hr : GKw X E al1 kws α) (s1 : ar ⊆ al := by simp) (s2 : ac ⊆ al := by simp) (s3 : al1 ⊆ al := by simp) : GKw X E al (⟨nm, a, kpos⟩ :: kws) (aCons ea α) :=
  pk_mono (pk_cons ha hr) fun σ H Q ⟨env, w, T, A, rel, t, p⟩ => goA1 (f := fun d w => (α env w).bind fun ds w => .ok (d :: ds) w) rel t p fun d w1 v H1 T1 x t1 rel1 r p1 => by
    refine ⟨env, w1, T1, A, rel1, t1, ?_⟩
    cases q : α env w1 with
    | ok ds w2 =>
      rw [q] at p1
      exact fun vs H2 T2 x2 t2 rs => p1 (v :: vs) H2 T2 x2 t2 (.cons ((rep2_ext r x2).rep s1 s2) (reps_al rs s3))
    | ex e w => rw [q] at p1; exact p1
    | st => rw [q] at p1; exact p1
theorem gJ_0 {α : Type} (ws : List α) : gJ 0 [] ws = ws := rfl
theorem ge_callK0 {x : Str} {nm : String} {n k : Nat} {φ : List D → M D} {p : Pos} {α : EM (List D)} {js : List Nat} {nms : List Str} (F : FnK X.prog X.w X.K X.mg X.base nm n k φ js nms) (h0 : 0 ∈ js) (hx : x = Str.ofString nm) (hr : Room k X.A) (tk : TakesE X E) (ha : GKw X E al kws α) (hks : (backToKw pos (keywordEach kws X.env)).filterMap (·.1) = nms := by rfl) (hg : Gl X x := by rfl)
    (hall : (backToKw pos (keywordEach kws X.env)).all (·.1.isSome) = true := by rfl) (hdb : (x == ("__debug__" : Str)) = false := by decide) (hpl : ((backTo pos (starEach [] X.env)).any (·.1) || (backToKw pos (keywordEach kws X.env)).any (·.1.isNone)) = false := by rfl) : GE X E al al (.Call (.Name x p) [] kws pos) (dCall n φ α) := by
  subst hx
  obtain ⟨f, fd, ps, h1, h2, h3, h4, h5, rfl, h7⟩ := F.ex
  refine pe_mono (pe_callK0 h5 hr hg h1 h2 (h7 0 h0) (tk_pass tk) ha hall (by rw [hks, List.drop_zero]) hdb hpl) fun σ H Q h => ?_
  exact call_lift h
def dCallK (n j : Nat) (φ : List D → M D) (α β : EM (List D)) : EM D := fun env w => (α env w).bind fun ds w => (β env w).bind fun es w => if ds.length = j ∧ (ds ++ es).length = n then φ (ds ++ es) w else .st
theorem Reps.length' {T B H ds vs} (r : Reps K mg T B H ds vs) : vs.length = ds.length := r.len.symm
theorem ge_callK {x : Str} {nm : String} {n j k : Nat} {φ : List D → M D} {p : Pos} {α β : EM (List D)} {js : List Nat} {nms ks : List Str} (F : FnK X.prog X.w X.K X.mg X.base nm n k φ js nms) (h0 : j ∈ js) (hx : x = Str.ofString nm) (hr : Room k X.A) (tk : TakesE X E) (ha : GA X E al1 (a :: es) α) (hb : GKw X E al2 kws β) (s1 : al1 ⊆ al := by simp) (s2 : al2 ⊆ al := by simp)
    (hks : (backToKw pos (keywordEach kws X.env)).filterMap (·.1) = nms.drop j := by rfl) (hg : Gl X x := by rfl)
    (hall : (backToKw pos (keywordEach kws X.env)).all (·.1.isSome) = true := by rfl) (hdb : (x == ("__debug__" : Str)) = false := by decide) (he : starEach (a :: es) X.env = (false, eval a X.env) :: starEach es X.env := by rfl) (hpl : ((backTo pos (starEach (a :: es) X.env)).any (·.1) || (backToKw pos (keywordEach kws X.env)).any (·.1.isNone)) = false := by rfl) :
    GE X E al al (.Call (.Name x p) (a :: es) kws pos) (dCallK n j φ α β) := by
  subst hx
  obtain ⟨f, fd, ps, h1, h2, h3, h4, h5, rfl, h7⟩ := F.ex
  refine pe_mono (pe_callK h5 hr hg h1 h2 (h7 j h0) (tk_pass tk) ha hb hall hks hdb he hpl) fun σ H Q ⟨env, w, T, A, rel, t, p⟩ => ?_
  refine goAE (f := fun ds w => (β env w).bind fun es w => if ds.length = j ∧ (ds ++ es).length = n then φ (ds ++ es) w else .st) rel t p fun ds w1 vs H1 T1 x t1 rel1 rs p1 => ?_
  refine goAE (f := fun es w => if ds.length = j ∧ (ds ++ es).length = n then φ (ds ++ es) w else .st) rel1 t1 p1 fun es w2 zs H2 T2 x2 t2 rel2 rz p2 => ?_
  split at p2
  · rename_i hl
    show spD X.K X.mg n φ (gJ j vs zs) H2 Q E
    have e : gJ j vs zs = vs ++ zs := by unfold gJ; rw [if_pos (by rw [← rs.len]; exact hl.1)]
    rw [e]
    exact call_post rel2 t2 hl.2 ((reps_al (reps_ext rs x2) s1).app (reps_al rz s2)) p2
  · exact p2.elim
/-! ### a local that holds a def -/
def dCallL (i : Nat) (Φ : String → Option (Nat × (List D → M D))) (α : EM (List D)) : EM D := fun env w => match env[i]? with
  | some (.fz (.fn x)) => match Φ x with
    | some (n, φ) => dCall n φ α env w
    | none => .st
  | _ => .st
theorem ge_callL {i : Nat} {x : Str} {k : Nat} {Φ : String → Option (Nat × (List D → M D))} {e : Expr} {p : Pos} {α : EM (List D)} (Fs : ∀ nm n φ, Φ nm = some (n, φ) → FnX X nm n k φ) (hr : Room k X.A) (tk : TakesE X E) (ha : GA X E al (e :: es) α) (hN : X.N[i]? = some x := by rfl) (hv : Vis X.env.scope x := by first | exact Or.inl rfl | exact Or.inr (Or.inl rfl) | exact Or.inr (Or.inr rfl))
    (hdb : (x == ("__debug__" : Str)) = false := by decide) (hcd : (x == ("__classdict__" : Str)) = false := by decide) (he : starEach (e :: es) X.env = (false, eval e X.env) :: starEach es X.env := by rfl) (hpl : (backTo pos (starEach es X.env)).any (·.1) = false := by rfl) :
    GE X E al al (.Call (.Name x p) (e :: es) [] pos) (dCallL i Φ α) := by
  refine ⟨fun pins s σ H Q I h => ?_⟩
  obtain ⟨env, w, T, A, rel, t, pp⟩ := h
  unfold dCallL at pp
  split at pp
  · rename_i nm hi
    split at pp
    · rename_i n φ hΦ
      obtain ⟨f, fd, ps, h1, h2, h3, h4, h5⟩ := (Fs _ _ _ hΦ).ex
      obtain ⟨v, hv1, rv⟩ := rel.slot i _ hi
      cases rv with
      | fn hm =>
        rw [h1] at hm; cases hm
        refine (pe_callL (i := i) (f := f) (sp := spD X.K X.mg n φ) (dvs := []) h5 hr hN hv h2 h3 .nil (tk_pass tk) ha hdb hcd he hpl).run pins s σ H Q I ⟨hv1, ?_⟩
        have z := call_lift (al := al) ⟨env, w, T, A, rel, t, pp⟩
        simp only [List.append_nil]
        exact z
    · exact pp.elim
  · exact pp.elim
end
end DL
namespace DL
open PySem PySem.Spec PyProof.Rows L2
open Sem (wp)
/-! ### a tuple, so many times -/
set_option maxHeartbeats 1000000 in
theorem tup_same (l : Addr) (items : Array Value) (n : Nat) (sl : Array (Option Value)) (dd : Option Addr) (x : Int) (u : Tok) (z0 : (decide (x < -(2 ^ 63)) || decide (x ≥ 2 ^ 63)) = false) (z1 : (items.isEmpty || x == 1) = true) :
    Meets (Builtin.«tuple.__mul__» ⟨[.ref l, .int x u], []⟩) (fun _ R s => s.heap.get? l = some { cls := .type "tuple", dict := dd, data := .seq items n, slots := sl } ∧ R (.ok (.ret (Value.ref l))) s) :=
  .of_wp fun prog w A R s h => by
    obtain ⟨hp, g, d, tk, os⟩ := s
    obtain ⟨ho, h⟩ := h
    have f1 := AutoSeq1.idx_int
    wp_walk using AutoSeq1.wpAny_loadPart' ho
    refine wpAny_ite_false (decide_eq_false (by rw [z0]; exact Bool.false_ne_true)) ?_
    wp_walk using AutoSeq1.wpAny_loadPart' ho
    exact ⟨_, rfl, h⟩
set_option maxHeartbeats 1000000 in
theorem tup_none (l : Addr) (items : Array Value) (n : Nat) (sl : Array (Option Value)) (dd : Option Addr) (x : Int) (u : Tok) (z0 : (decide (x < -(2 ^ 63)) || decide (x ≥ 2 ^ 63)) = false) (z1 : (items.isEmpty || x == 1) = false) (z2 : (decide (x ≤ 0) || items.isEmpty) = true) :
    Meets (Builtin.«tuple.__mul__» ⟨[.ref l, .int x u], []⟩) (fun _ R s => s.heap.get? l = some { cls := .type "tuple", dict := dd, data := .seq items n, slots := sl } ∧
      R (.ok (.ret (Value.ref s.heap.objs.size))) { s with heap := s.heap.push { cls := Value.type "tuple", data := Data.seq #[] }, toks := s.toks }) :=
  .of_wp fun prog w A R s h => by
    obtain ⟨hp, g, d, tk, os⟩ := s
    obtain ⟨ho, h⟩ := h
    have f1 := AutoSeq1.idx_int
    wp_walk using AutoSeq1.wpAny_loadPart' ho
    refine wpAny_ite_false (decide_eq_false (by rw [z0]; exact Bool.false_ne_true)) ?_
    wp_walk using AutoSeq1.wpAny_loadPart' ho
    exact ⟨_, rfl, h⟩
def rRepG (K : PySem.W.Frag) : R2 := fun x y H Q => ∃ l k xs, x = .ref l ∧ y = .int k ∧ SqT K H l xs ∧ -(2 ^ 62) ≤ k ∧ k < 2 ^ 62 ∧ xs.length ≤ sizeLine ∧ xs.length * k.toNat ≤ sizeLine ∧ ((xs = [] ∨ k = 1) → Q (.ref l) H) ∧ ∀ p, H p = none → Q (.ref p) (upd H p (.tup (List.replicate k.toNat xs).flatten))
section
variable {X : Cx} {E : XK} {ar ac ar1 ac1 ar2 ac2 ar3 ac3 : List Nat} {a b c : Expr} {pos : Pos} {ea eb ec : EM D}
theorem op_repTD : OpR X (binaryOp .Mult) (rRepG X.K) := by
  intro pins s σ H x y v u Q I rx ry h
  obtain ⟨l, k, xs, rfl, rfl, hT, g1, g2, gl, gz, qs, qn⟩ := h
  cases rx
  obtain ⟨t, rfl⟩ := ry
  obtain ⟨its, r, ⟨⟨cls, dd, data, sl⟩, ho, hc, n, hd⟩, hs⟩ := I.tuple hT
  simp only at hc hd
  subst hc hd
  have le : its.length = xs.length := r.length.symm
  have z0 : (decide (k < -(2 ^ 63)) || decide (k ≥ 2 ^ 63)) = false := by
    rw [decide_eq_false (by omega), decide_eq_false (by omega)] <;> rfl
  have em : its.toArray.isEmpty = true ↔ xs = [] := by
    rw [List.isEmpty_toArray, List.isEmpty_iff]
    exact ⟨fun e => List.eq_nil_of_length_eq_zero (by rw [← le, e]; rfl), fun e => List.eq_nil_of_length_eq_zero (by rw [le, e]; rfl)⟩
  have road : ∀ {Q' : Value → Shared → Prop}, wpAny (model X.prog X.w) X.A (call (.builtin "tuple.__mul__") [.ref l, .int k t]) Q' X.xe s → wpAny (model X.prog X.w) X.A (binaryOp .Mult (.ref l) (.int k t)) Q' X.xe s := fun {Q'} h =>
    wpAny_binaryOp_repeat_ref (T := "tuple") (U := "int") (by decide) ⟨_, ho, rfl⟩ (fun s' => typeIs_int s' k t) noFill_tuple_mul F.fills_int_mul F.slot_int_rmul repeat_tuple F.slot_int_index.lookup
      (call_meets F.slot_int_rmul (typeIs_int s k t) F.entry_int_rmul (F.args_int_rmul_2 _ _) (int_rmul_tuple k t l its.toArray n dd sl) ⟨ho, rfl, ⟨_, ho, rfl⟩, h⟩)
  by_cases h1 : (its.toArray.isEmpty || k == 1) = true
  · refine road (call_meets F.slot_tuple_mul ⟨_, ho, rfl⟩ F.entry_tuple_mul (F.args_tuple_mul_2 _ _) (tup_same l its.toArray n sl dd k t z0 h1) ⟨ho, ?_⟩)
    refine ⟨.ref l, H, I, rfl, qs ?_⟩
    simp only [Bool.or_eq_true, beq_iff_eq] at h1
    exact h1.imp em.mp id
  · have h1 : (its.toArray.isEmpty || k == 1) = false := by simpa using h1
    have h1' := h1
    simp only [Bool.or_eq_false_iff] at h1'
    have hn : xs ≠ [] := fun e => by rw [em.mpr e] at h1'; exact absurd h1'.1 (by decide)
    have n1 : k ≠ 1 := by simpa using h1'.2
    by_cases h2 : k ≤ 0
    · have z2 : (decide (k ≤ 0) || its.toArray.isEmpty) = true := by rw [decide_eq_true h2]; rfl
      refine road (call_meets F.slot_tuple_mul ⟨_, ho, rfl⟩ F.entry_tuple_mul (F.args_tuple_mul_2 _ _) (tup_none l its.toArray n sl dd k t z0 h1 z2) ⟨ho, ?_⟩)
      have e0 : k.toNat = 0 := by omega
      rw [e0] at qn
      exact ⟨.ref s.heap.objs.size, _, I.laid (t' := s.toks) (o := .tup []) (fun b ob q => Heap.get?_push_of_some _ q) (Nat.le_refl _) ⟨Nat.zero_le _, [], .nil, IsTup.new _ _⟩, rfl, qn _ (I.hok.fresh (Nat.le_refl _))⟩
    · have z2 : (decide (k ≤ 0) || its.toArray.isEmpty) = false := by rw [decide_eq_false h2, h1'.1]; rfl
      have pz : xs.length * k.toNat = ((its.toArray.size : Nat) : Int) * k := by
        rw [List.size_toArray, le, ← Int.toNat_of_nonneg (show 0 ≤ k by omega)]
        simp
      have gz' : ((its.toArray.size : Nat) : Int) * k ≤ sizeLine := by rw [← pz]; exact_mod_cast gz
      have c3 : ¬ ((its.toArray.size : Nat) : Int) * k > (2 ^ 63 - 1) / 8 := by
        have : ((sizeLine : Nat) : Int) ≤ (2 ^ 63 - 1) / 8 := by rw [sizeLine_eq]; decide
        omega
      have c4 : Builtin.Tuple.tupleTooMany (((its.toArray.size : Nat) : Int) * k) = false := by
        unfold Builtin.Tuple.tupleTooMany
        exact decide_eq_false (by omega)
      have fl : (List.replicate k.toNat its).flatten.length ≤ sizeLine := by
        rw [PyProof.Rows.lm_len_rep_flat, le, Nat.mul_comm]; exact gz
      refine road (call_meets F.slot_tuple_mul ⟨_, ho, rfl⟩ F.entry_tuple_mul (F.args_tuple_mul_2 _ _) (tuple_mulW l its.toArray n dd sl k t z0 h1 z2 c3 c4 (by rw [size_rep, List.size_toArray]; exact fl)) ⟨ho, ?_⟩)
      rw [size_rep]
      refine ⟨.ref s.heap.objs.size, _, I.laid (t' := s.toks) (o := .tup (List.replicate k.toNat xs).flatten) (fun b ob q => Heap.get?_push_of_some _ q) (Nat.le_refl _) ?_, rfl, qn _ (I.hok.fresh (Nat.le_refl _))⟩
      exact ⟨by rw [PyProof.Rows.lm_len_rep_flat, Nat.mul_comm]; exact gz, _, r.rep k.toNat, IsTup.new _ _⟩
def repT : D → D → M D
  | .tup s, .int k => fun w => if k < 2 ^ 62 ∧ -(2 ^ 62) ≤ k ∧ s.length * k.toNat ≤ sizeLine then .ok (.tup (List.replicate k.toNat s).flatten) w else .st
  | _, _ => fun _ => .st
theorem og_repT {K mg} {al : List Nat} : OpG K mg E al al al (rRepG K) repT := by
  intro T A H w Q ar d1 v1 d2 v2 f r1 r2 p
  unfold repT at p
  split at p
  · obtain ⟨a, vs, rfl, l1, q1⟩ := tp_of r1
    split at p
    · rename_i s k h
      have hl := q1.len
      rw [hl] at h
      refine ⟨a, k, vs, rfl, int_of r2, l1.sq, by omega, by omega, l1.size, h.2.2, fun hh => p.same f.tins ?_, fun n hn => p.tup f (q1.rep _) ?_ hn⟩
      · have e : (List.replicate k.toNat s).flatten = s := by
          rcases hh with hh | hh
          · have : s = [] := List.eq_nil_of_length_eq_zero (by rw [hl, hh]; rfl)
            subst this; simp
          · subst hh; simp
        rw [e]; exact r1
      · simpa [Nat.mul_comm] using h.2.2
    · exact p.elim
  · exact p.elim
end
end DL
namespace DL
open PySem PySem.Spec PyProof.Rows L2
open Sem (wp)
/-! ### a tuple from its end -/
theorem rev_places (n : Nat) : Builtin.Slice.slicePlaces ((n : Int) - 1) (-1) (-1) = n := by
  unfold Builtin.Slice.slicePlaces
  rw [if_neg (by decide), show (-(-1 : Int)) = 1 by decide, Int.ediv_one]
  split <;> omega
theorem rev_pick (xs : Array Value) : ((List.range xs.size).filterMap fun (m : Nat) => xs[(((xs.size : Nat) : Int) - 1 + (m : Int) * (-1)).toNat]?).toArray = xs.toList.reverse.toArray := by
  congr 1
  apply List.ext_getElem?
  intro i
  have e : ∀ (l : List Nat), (∀ m ∈ l, m < xs.size) → l.filterMap (fun (m : Nat) => xs[(((xs.size : Nat) : Int) - 1 + (m : Int) * (-1)).toNat]?) = l.filterMap fun m => xs.toList.reverse[m]? := by
    intro l hl
    induction l with
    | nil => rfl
    | cons m l ih =>
    rw [List.filterMap_cons, List.filterMap_cons, ih fun k hk => hl k (List.mem_cons_of_mem _ hk)]
    have := hl m List.mem_cons_self
    have eq : xs[(((xs.size : Nat) : Int) - 1 + (m : Int) * (-1)).toNat]? = xs.toList.reverse[m]? := by
      rw [List.getElem?_reverse (by simpa using this)]
      have e2 : (((xs.size : Nat) : Int) - 1 + (m : Int) * (-1)).toNat = xs.toList.length - 1 - m := by simp; omega
      rw [e2]; simp
    rw [eq]
  rw [e _ fun m hm => List.mem_range.mp hm]
  have e3 : ∀ (l : List Value) (k : Nat), k ≤ l.length → (List.range k).filterMap (fun m => l[m]?) = l.take k := by
    intro l k hk
    induction k with
    | zero => simp
    | succ k ih =>
      rw [List.range_succ, List.filterMap_append, ih (by omega), List.take_succ]
      have : l[k]? = some l[k] := List.getElem?_eq_getElem (by omega)
      simp [this]
  rw [e3 _ _ (by simp), List.take_of_length_le (by simp)]
section
variable {prog : Program} {w : World} {A : Around} {E : Value → Shared → Prop} {s : Shared}
theorem slice_part {v : Value} {o : Option Int} {Q : Option Int → Shared → Prop} (p : IsPart v o) (h : Q o s) : wpAny (model prog w) A (Builtin.Slice.slicePartIndex v) Q E s := HT.slicePart_ p h
theorem tup_from_end {t sl : Addr} {items : Array Value} {vl vu vs : Value} {Q : Value → Shared → Prop} (ht : IsTup s.heap t items) (hs : s.heap.IsSliceOf sl vl vu vs) (pl : IsPart vl none) (pu : IsPart vu none) (ps : IsPart vs (some (-1))) (sz : items.size ≤ sizeLine)
    (h : Q (.ref s.heap.objs.size) { s with heap := s.heap.push { cls := .type "tuple", data := .seq items.toList.reverse.toArray } }) : wpAny (model prog w) A (getItem (.ref t) (.ref sl)) Q E s := by
  obtain ⟨os, o1, o2, o3⟩ := id hs
  have ts : s.TypeIs (.ref sl) "slice" := ⟨os, o1, o2⟩
  have ok : sizeOk (.seq items.toList.reverse.toArray) := by
    show items.toList.reverse.toArray.size ≤ sizeLine
    simpa using sz
  unfold getItem
  try with_reducible refine wpAny_holding ?_
  first | refine wpAny_bind (wpAny_pure ?_) | skip
  refine wpAny_bind (wpAny_sequenceKey ht.typeIs (by decide) ?_)
  refine wpAny_bind (wpAny_callSpecial?_slot (name := Str.ofString "__getitem__") ht.typeIs PyProof.Rows.slot_tuple_getitem
    (wpAny_call_entry PyProof.Rows.slot_tuple_getitem ht.typeIs PyProof.Rows.entry_tuple_getitem ?_ (PyProof.Rows.args_tuple_getitem _ _)))
  show wpAny _ _ (Builtin.Tuple.tupleItemsOf (.ref t) >>= _) _ _ s
  refine wpAny_bind (tupleItemsOf_ ht (wpAny_bind (wpAny_typeOf ts ?_)))
  rw [if_pos (by decide)]
  have ap : ∀ {Q' : Int × Int × Nat → Shared → Prop}, Q' (((items.size : Nat) : Int) - 1, -1, items.size) s → wpAny (model prog w) A.in1 (Builtin.Slice.sliceApplied (.ref sl) (pure ((items.size : Nat) : Int))) Q' E s := fun {Q'} q => by
    unfold Builtin.Slice.sliceApplied Builtin.Slice.sliceFields
    refine wpAny_bind (wpAny_bind (wpAny_field o1 o3 (x := vl) rfl (wpAny_bind (wpAny_field o1 o3 (x := vu) rfl (wpAny_bind (wpAny_field o1 o3 (x := vs) rfl (wpAny_pure ?_)))))))
    refine wpAny_bind (slice_part ps ?_)
    show wpAny _ _ (if ((-1 : Int) == 0) = true then _ else _) _ _ s
    rw [if_neg (by decide)]
    refine wpAny_bind (slice_part pl (wpAny_bind (slice_part pu (wpAny_bind (wpAny_pure ?_)))))
    show wpAny _ _ (pure (((items.size : Nat) : Int) - 1, (-1 : Int), Builtin.Slice.slicePlaces (((items.size : Nat) : Int) - 1) (-1) (-1))) _ _ s
    rw [rev_places]
    exact wpAny_pure q
  refine wpAny_bind (ap ?_)
  show wpAny _ _ (if ((((items.size : Nat) : Int) - 1) == 0 && (-1 : Int) == 1 && items.size == items.size) = true then _ else _) _ _ s
  rw [if_neg (by simp), rev_pick]
  first
    | exact wpAny_bind (m := Builtin.Tuple.tupleExact _) (wpAny_newObj_type (wpAny_pure ⟨_, rfl, wpAny_pure h⟩) ok)
    | exact wpAny_bind (m := Builtin.Tuple.tupleExact _) (wpAny_newObj_type (wpAny_bind (wpAny_pure (wpAny_pure ⟨_, rfl, wpAny_pure h⟩))) ok)
    | exact wpAny_bind (wpAny_bind (m := Builtin.Tuple.tupleExact _) (wpAny_newObj_type (wpAny_pure (wpAny_pure ⟨_, rfl, wpAny_pure h⟩)) ok))
end
section
variable {X : Cx} {E : XK} {ar ac ar1 ac1 ar2 ac2 ar3 ac3 : List Nat} {a b c : Expr} {pos : Pos} {ea eb ec : EM D}
theorem pe_revT {e : Expr} {te : TE} {k : Nat} {p1 p2 p3 pos : Pos} (he : PE X e te) : PE X (.Subscript e (.Slice none none (some (.UnaryOp .USub (.Constant (.int 1) k p1) p2)) p3) pos) (fun σ H Q => te σ H fun x H1 => ∃ a xs, x = .ref a ∧ SqT X.K H1 a xs ∧ xs.length ≤ sizeLine ∧ ∀ p, H1 p = none → Q (.ref p) (upd H1 p (.tup xs.reverse))) := by
  refine ⟨fun pins s σ H Q I h => ?_⟩
  refine Subscript_ (thn (he.run pins s σ H _ I h) fun v s1 ⟨x, H1, I1, r1, a, xs, ex, hx, hz, q⟩ => ?_)
  subst ex
  cases r1
  have st : PO X (some (.UnaryOp .USub (.Constant (.int 1) k p1) p2)) (tPart (tUn (rU fun i => .int (-i)) (tC (.int 1)))) := po_some (pe_un un_neg pe_int)
  refine wpAny_Slice (thn (po_none.run pins s1 σ H1 (fun o H2 => o = none ∧ H2 = H1) I1 ⟨rfl, rfl⟩) fun vl s2 ⟨l, H2, I2, pl, el, e2⟩ => ?_)
  subst el e2
  refine thn (po_none.run pins s2 σ H2 (fun o H3 => o = none ∧ H3 = H2) I2 ⟨rfl, rfl⟩) fun vu s3 ⟨u, H3, I3, pu, eu, e3⟩ => ?_
  subst eu e3
  refine thn (st.run pins s3 σ H3 (fun o H4 => o = some (-1) ∧ H4 = H3) I3 ⟨1, rfl, -1, rfl, rfl, rfl⟩) fun vs s4 ⟨o, H4, I4, ps, eo, e4⟩ => ?_
  subst eo e4
  have I5 : Inv X pins σ H4 { s4 with heap := s4.heap.push { cls := .type "slice", data := .fields #[vl, vu, vs] } } := I4.kept (t' := s4.toks) fun b ob q => Heap.get?_push_of_some _ q
  obtain ⟨its, r, ht, hz2⟩ := I5.tuple hx
  have hl := r.length
  show wpAny (model X.prog X.w) X.A (subscriptTail e (.Slice none none (some (.UnaryOp .USub (.Constant (.int 1) k p1) p2)) p3) (.ref a) (.ref s4.heap.objs.size)) (EP X pins σ Q) X.xe { s4 with heap := s4.heap.push { cls := .type "slice", data := .fields #[vl, vu, vs] } }
  refine tail_any (ops := [.ref a, .ref s4.heap.objs.size]) ht.typeIs (PyProof.Rows.slot_tuple_getitem.lookup) ?_ (by with_unfolding_all rfl)
  refine tup_from_end ht (Heap.IsSliceOf.new _ vl vu vs) pl pu ps (by rw [List.size_toArray]; omega) ?_
  refine ⟨.ref _, _, I5.laid (t' := s4.toks) (o := .tup xs.reverse) (fun b ob q => Heap.get?_push_of_some _ q) (Nat.le_refl _) ?_, rfl, q _ (I5.hok.fresh (Nat.le_refl _))⟩
  exact ⟨by rw [List.length_reverse]; exact hz, its.reverse, r.reverse, ⟨_, Heap.get?_push_size _ rfl, rfl, _, rfl⟩⟩
def revT : D → M D
  | .tup s => fun w => .ok (.tup s.reverse) w
  | _ => fun _ => .st
def revF : D → M (List D)
  | .lst s => fun w => .ok s.reverse w
  | _ => fun _ => .st
theorem ge_revT {k : Nat} {p1 p2 p3 : Pos} (h : GE X E ar ac a ea) : GE X E [] ac (.Subscript a (.Slice none none (some (.UnaryOp .USub (.Constant (.int 1) k p1) p2)) p3) pos) (dUn revT ea) :=
  pe_mono (pe_revT h) fun σ H Q ⟨env, w, T, A, rel, t, p⟩ => go1 rel t p fun d w1 v H1 T1 x t1 rel1 r p1 => by
    unfold revT at p1
    split at p1
    · obtain ⟨o, vs, rfl, l, q⟩ := tp_of r
      exact ⟨o, vs, rfl, l.sq, l.size, fun n hn => p1.tup (rel1.fr t1) q.rev (by simpa using l.size) hn⟩
    · exact p1.elim
theorem gf_revL {k : Nat} {p1 p2 p3 : Pos} (h : GE X E ar ac a ea) : GF X E ac (.Subscript a (.Slice none none (some (.UnaryOp .USub (.Constant (.int 1) k p1) p2)) p3) pos) (dUn revF ea) :=
  pe_mono (pe_revL h) fun σ H Q ⟨env, w, T, A, rel, t, p⟩ => goF rel t p fun d w1 v H1 T1 x t1 rel1 r p1 => by
    unfold revF at p1
    split at p1
    · obtain ⟨o, vs, rfl, l, q⟩ := r
      exact ⟨o, vs, rfl, l.sq, fun n hn => p1.lst (rel1.fr t1) q.rev (by simpa using l.size) hn⟩
    · exact p1.elim
def dNotT (κ : EM Bool) : EM Bool := fun env w => (κ env w).bind fun b w => .ok (!b) w
end
end DL
namespace DL
open PySem PySem.Spec PyProof.Rows L2
open Sem (wp)
/-! ### try, its clauses with names -/
abbrev TSu := Addr → Value → Option Addr → TS
/-- behind a suite its name is gone -/
def gone (D : Ends) (i : Nat) : Ends := { nx := fun σ' H' => D.nx (σ'.set i none) H', rt := D.rt, bk := fun σ' H' => D.bk (σ'.set i none) H', ct := fun σ' H' => D.ct (σ'.set i none) H' }
def wManyA (K : PySem.W.Frag) (Wout : WX) (D : Ends) : List (Value × Nat × TSu) → WX
  | [] => Wout
  | (c, i, ts) :: r => fun cls d σ H => ∃ b, PySem.W.exmOne K cls c = some b ∧ (b = true → ∀ a, H a = none → ts a cls d (gone D i) (σ.set i (some (.ref a))) H) ∧ (b = false → wManyA K Wout D r cls d σ H)
inductive HdsA (X : Cx) : List ExceptHandler → List (Value × Nat × TSu) → Prop
  | nil : HdsA X [] []
  | cons {x n : Str} {i : Nat} {c : Value} {ts : TSu} {st : Stmt} {suite : List Stmt} {np pos' : Pos} {hds : List ExceptHandler} {l : List (Value × Nat × TSu)} (hc : Names X x c) (hi : X.N[i]? = some n) (hn : X.env.kindOf n = some .local)
      (hsu : ∀ (a : Addr) (oe : Obj) (cls : Value) (d : Option Addr) (pn : List (Addr × Obj)), Zc cls d oe → (∃ vs, oe.data = .fields vs) → PSs (X.suite a ((a, oe) :: pn)) (st :: suite) (ts a cls d)) (r : HdsA X hds l) :
      HdsA X (.ExceptHandler (some (.Name x np)) (some n) (st :: suite) pos' :: hds) ((c, i, ts) :: l)
section
variable {X : Cx} {body : List Stmt} {hd0 : ExceptHandler} {hds : List ExceptHandler} {l : List (Value × Nat × TSu)} {pos : Pos} {tb : WX → TS} {Wout : WX}
theorem ps_try_manyA (hs : X.stack = X.env :: X.outer) (hf : X.env.frame = some X.env.locals) (nd : X.N.Nodup) (tk : Takes X Wout)
    (hb : ∀ (W : WX) (pn : List (Addr × Obj)) (xe : Value → Shared → Prop), Takes (X.tr pn xe) W → PassesOwn (model X.prog X.w) X.A X.env xe → PSs (X.tr pn xe) body (tb W))
    (hh : HdsA X (hd0 :: hds) l) : PS X (.Try body (hd0 :: hds) [] [] pos) (fun D σ H => tb (wManyA X.K Wout D l) D σ H) := by
  refine ⟨fun pins s σ H D I h => ?_⟩
  have ok := I.ok
  have fr : X.A.frames = some (X.env :: X.outer) := ok.frames.trans (by rw [hs])
  refine wpAny_Try_except (wpAny_mono ((hb (wManyA X.K Wout D l) (X.pn ++ pins) (fun e t1 => wpAny (model X.prog X.w) X.A (noteFrame e X.env) (fun _ t2 => wpAny (model X.prog X.w) X.A (setFlight e none) (fun _ t3 =>
    wpAny (model X.prog X.w) X.A (handleBy e X.env (hd0 :: hds)) (SP X pins D) X.xe t3) X.xe t2) X.xe t1) (fun u s' xx => ?_) PassesOwn.looking).run [] s σ H D (I.toTry _) h) (fun f s1 sp => ?_) (fun e s1 he => he))
  · obtain ⟨a, B, sI, pinsB, σb, Hb, cls, d, rfl, JT, nb, up, sky, na, os, ag, w⟩ := xx
    have J : Inv X pins σb Hb sI := JT.ofTry ok
    have sky1 : Sky B (X.env :: X.outer) a (Zc cls d) X.env.locals s'.heap := by rw [← hs]; exact sky
    show wpAny (model X.prog X.w) X.A (noteFrame (.ref a) X.env) _ _ _
    refine Sky.land Zc.steady fr hf sky1 fun h3 fl up3 => ?_
    have J3 : Inv X pins σb Hb { s' with heap := h3 } := J.landed nb fl.1 (up.trans up3) os ag
    obtain ⟨o3, v3, e3, z3, d3⟩ := fl.there
    have nfr : a ∉ frs (X.env :: X.outer) := fun hm => by
      obtain ⟨_, o', e', nf⟩ := fl.2.2.1.mem hm
      rw [e3] at e'; cases e'
      exact nf _ d3
    have nL : a ≠ X.env.locals := fun z => nfr (List.mem_filterMap.mpr ⟨X.env, List.mem_cons_self, by rw [hf, z]⟩)
    have nF : a ∉ X.fs := fun hm => let ⟨e, he, q⟩ := List.mem_filterMap.mp hm; nfr (List.mem_filterMap.mpr ⟨e, List.mem_cons_of_mem _ he, q⟩)
    have S3 := J3.suite e3 d3 na nL nF
    have go : ∀ {hs' : List ExceptHandler} {l' : List (Value × Nat × TSu)}, HdsA X hs' l' → wManyA X.K Wout D l' cls d σb Hb → wpAny (model X.prog X.w) X.A (handleBy (.ref a) X.env hs') (SP X pins D) X.xe { s' with heap := h3 } := by
      intro hs' l' hk
      induction hk with
      | nil =>
        intro w
        refine wpAny_handleBy_nil ?_
        obtain ⟨_, _, _, oe, vs, T, oT, ts', g1, _, g2, g3, _⟩ := id fl
        unfold PySem.passOn
        refine wpAny_bind (wpAny_field g1 g2 g3 ?_)
        rw [if_neg (by simp)]
        have fin : wpAny (model X.prog X.w) X.A (setFlight (.ref a) X.env.frame) (fun _ s4 => wpAny (model X.prog X.w) X.A (throw (.ref a) : Sem Flow) (SP X pins D) X.xe s4) X.xe { s' with heap := h3 } := by
          rw [hf]
          exact HandSPX.setFlight_upZ fl fun h4 hh4 up4 => wpAny_throw (tk _ _ ⟨a, B, sI, pins, σb, Hb, cls, d, rfl, J, nb, (up.trans up3).trans up4, .inr (.inr (by rw [hs]; exact hh4)), na, os, ag, w⟩)
        first
          | exact wpAny_bind (wpAny_pure (wpAny_bind fin))
          | exact wpAny_bind fin
      | @cons x n i c ts st suite np pos' hds2 l2 hc hi hn hsu r ih =>
        intro w
        obtain ⟨b, b1, yes, no⟩ := w
        refine wpAny_handleBy_cons (codeAny_handlers_test ?_) (by intro q; cases q)
        have LT : PySem.W.Looks (model X.prog X.w) h3 (typeOf (.ref a)) cls := fun A Q E s k q => wpAny_typeOf_ref (k _ _ e3) (by rw [z3.1]; exact q)
        have LM := PySem.W.exm_one (M := model X.prog X.w) (J3.kIn) LT b1
        have test : ∀ {Q : Value → Shared → Prop} {E : Value → Shared → Prop}, Q c { s' with heap := h3 } → wpAny (model X.prog X.w) (X.A.mark (some (.ref a))) (eval (.Name x np) X.env) Q E { s' with heap := h3 } := fun {Q E} q => by
          obtain ⟨g, nd', m | ⟨m, bv, nn⟩⟩ := hc
          · exact ld_glob (X := X.suite a ((a, o3) :: (X.pn ++ pins))) S3 g m q nd'
          · exact ld_blt (X := X.suite a ((a, o3) :: (X.pn ++ pins))) S3 g m bv q nn nd'
        refine test (LM.here ?_)
        cases b with
        | true =>
          refine codeAny_handlers_suite_as (HandSPX.lands_againZ fl fun h4 fl4 up4 => ?_)
          have J4 : Inv X pins σb Hb { s' with heap := h4 } := J.landed nb fl4.1 ((up.trans up3).trans up4) os ag
          obtain ⟨o4, v4, e4, z4, d4⟩ := fl4.there
          have S4 := J4.suite e4 d4 na nL nF
          refine store_ok (X := X.suite a ((a, o4) :: (X.pn ++ pins))) (v := .ref a) S4 nd hi (.inl hn) rfl (fun s5 S5 => ?_) (.inr hn)
          refine wpAny_mono ((hsu a o4 cls d (X.pn ++ pins) z4 ⟨_, d4⟩).run [] s5 _ Hb _ S5 (yes rfl a na)) (fun f s6 sp => ?_) (fun _ _ z => False.elim z)
          have fin : ∀ {σ6 : L2.St} {H6 : Hp} {Q : Shared → Prop}, Inv (X.suite a ((a, o4) :: (X.pn ++ pins))) [] σ6 H6 s6 → (∀ s7, Inv X pins (σ6.set i none) H6 s7 → Q s7) →
              wpAny (model X.prog X.w) X.A (do bindName X.env n .none; unbindBehindTheSuite X.env n pos') (fun _ s7 => Q s7) X.xe s6 := fun {σ6 H6 Q} S6 hq => gone_ok (S6.unsuite ok) nd hi hn hq
          cases f with
          | next => obtain ⟨σ6, H6, S6, q6⟩ := sp; exact fin S6 fun s7 J7 => ⟨_, _, J7, q6⟩
          | brk => obtain ⟨σ6, H6, S6, q6⟩ := sp; exact fin S6 fun s7 J7 => ⟨_, _, J7, q6⟩
          | cont => obtain ⟨σ6, H6, S6, q6⟩ := sp; exact fin S6 fun s7 J7 => ⟨_, _, J7, q6⟩
          | ret u => obtain ⟨v6, σ6, H6, S6, r6, q6⟩ := sp; exact fin S6 fun s7 J7 => ⟨_, _, _, J7, r6, q6⟩
        | false =>
          show wpAny _ X.A (handleBy (.ref a) X.env hds2) _ _ _
          exact ih (no rfl)
    exact go hh w
  · cases f with
    | next => obtain ⟨σ', H', JT, q⟩ := sp; exact wpAny_execs_nil ⟨σ', H', JT.ofTry ok, q⟩
    | brk => obtain ⟨σ', H', JT, q⟩ := sp; exact ⟨σ', H', JT.ofTry ok, q⟩
    | cont => obtain ⟨σ', H', JT, q⟩ := sp; exact ⟨σ', H', JT.ofTry ok, q⟩
    | ret u => obtain ⟨v, σ', H', JT, r, q⟩ := sp; exact ⟨v, σ', H', JT.ofTry ok, r, q⟩
end
end DL
namespace DL
open PySem PySem.Spec PyProof.Rows L2
/-! ### try: f(..) except X as n: return 'x' if isinstance(n, ValueError) else 'y' -/
def ExcT (K : PySem.W.Frag) (mg : Mg) (c : String) : Prop := ∃ C, mg (Str.ofString c) = some (.ref C) ∧ ExcC K C ∧ PySem.W.kitOne K (.ref C) (.type "ValueError") = some true
def ExcE (K : PySem.W.Frag) (mg : Mg) (c c' : String) : Prop := ∃ C C', mg (Str.ofString c) = some (.ref C) ∧ mg (Str.ofString c') = some (.ref C') ∧ PySem.W.exmOne K (.ref C) (.ref C') = some (decide (c' = c))
def tsTell (K : PySem.W.Frag) (i : Nat) (z : Str) : TSu := fun a cls d D σ H => (∃ C, cls = .ref C ∧ d = none ∧ ExcC K C ∧ PySem.W.kitOne K (.ref C) (.type "ValueError") = some true) ∧ σ[i]? = some (some (.ref a)) ∧ D.rt (.str z) H
theorem bb_VE : bootBuiltins "ValueError" = some (.type "ValueError") := by decide +kernel
section
variable {X : Cx} {E : XK}
theorem suite_tell {i : Nat} {n z z2 : Str} {a : Addr} {oe : Obj} {cls : Value} {d : Option Addr} {pn : List (Addr × Obj)} {k1 k2} {p1 p2 p3 p4 p5 p6 p7 p8 : Pos} (hN : X.N[i]? = some n) (hv : Vis X.env.scope n) (h1 : (n == ("__debug__" : Str)) = false) (h2 : (n == ("__classdict__" : Str)) = false) (ni : X.mg "isinstance" = none) (nv : X.mg "ValueError" = none) (g1 : Gl X "isinstance") (g2 : Gl X "ValueError")
    (e1 : starEach [.Name n p2, .Name "ValueError" p3] X.env = (false, eval (.Name n p2) X.env) :: starEach [.Name "ValueError" p3] X.env) (e2 : starEach [.Name "ValueError" p3] X.env = (false, eval (.Name "ValueError" p3) X.env) :: starEach [] X.env) (hpl : (backTo p4 (starEach [.Name "ValueError" p3] X.env)).any (·.1) = false)
    (hz : Zc cls d oe) (hf : ∃ vs, oe.data = .fields vs) : PSs (X.suite a ((a, oe) :: pn)) [.Return (some (.IfExp (.Call (.Name "isinstance" p1) [.Name n p2, .Name "ValueError" p3] [] p4) (.Constant (.str z) k1 p5) (.Constant (.str z2) k2 p6) p7)) p8] (tsTell X.K i z a cls d) := by
  refine ⟨fun pins s σ H D I h => ?_⟩
  obtain ⟨⟨C, rfl, rfl, hC, hk⟩, hs, q⟩ := h
  have call := pe_callB (X := X.suite a ((a, oe) :: pn)) (p := p1) (pos := p4) (call_isE hC hz hf) g1 ni bb_isi (pa_cons (pe_var (X := X.suite a ((a, oe) :: pn)) (pos := p2) hN hv h1 h2) (pa_cons (cls_n (X := X.suite a ((a, oe) :: pn)) (p := p3) nv bb_VE g2 (by decide) (by decide)) pa_nil e2) e1) (by decide) (by decide) e1 hpl
  refine (pss_one (ps_ret (pe_ifExp (pt_val call (by intro _; rfl)) pe_str pe_str))).run pins s σ H D I ?_
  refine ⟨.ref a, hs, ?_⟩
  exact ⟨.ty "ValueError", .type "ValueError", true, rfl, fun u r => r, hk, true, rfl, q⟩
inductive GHds (X : Cx) : List ExceptHandler → List (String × Str × Nat) → Prop
  | nil : GHds X [] []
  | cons {c : String} {x n z z2 : Str} {i : Nat} {k1 k2} {np pos' p1 p2 p3 p4 p5 p6 p7 p8 : Pos} {hds l} (hx : x = Str.ofString c) (hN : X.N[i]? = some n) (hn : X.env.kindOf n = some .local) (hv : Vis X.env.scope n) (h1 : (n == ("__debug__" : Str)) = false) (h2 : (n == ("__classdict__" : Str)) = false) (h3 : (x == ("__debug__" : Str)) = false) (g0 : Gl X x) (g1 : Gl X "isinstance") (g2 : Gl X "ValueError")
      (e1 : starEach [.Name n p2, .Name "ValueError" p3] X.env = (false, eval (.Name n p2) X.env) :: starEach [.Name "ValueError" p3] X.env) (e2 : starEach [.Name "ValueError" p3] X.env = (false, eval (.Name "ValueError" p3) X.env) :: starEach [] X.env) (hpl : (backTo p4 (starEach [.Name "ValueError" p3] X.env)).any (·.1) = false)
      (r : GHds X hds l) : GHds X (.ExceptHandler (some (.Name x np)) (some n) [.Return (some (.IfExp (.Call (.Name "isinstance" p1) [.Name n p2, .Name "ValueError" p3] [] p4) (.Constant (.str z) k1 p5) (.Constant (.str z2) k2 p6) p7)) p8] pos' :: hds) ((c, z, i) :: l)
def sTry (U : List String) (l : List (String × Str × Nat)) (τ : SM) : SM := fun env w => match τ env w with
  | .ex e w => if e.cls ∈ U ∧ e.arg = none then (match l.find? (fun p => p.1 = e.cls) with
    | some p => .rt (.str p.2.1) w
    | none => .ex e w) else .st
  | o => o
theorem GHds.to {hds l} (h : GHds X hds l) (ni : X.mg "isinstance" = none) (nv : X.mg "ValueError" = none) (f : ∀ p ∈ l, ∃ C, X.mg (Str.ofString p.1) = some (.ref C)) : ∃ l' : List (Value × Nat × TSu), HdsA X hds l' ∧ l'.map (fun q => (some q.1, q.2)) = l.map (fun p => (X.mg (Str.ofString p.1), p.2.2, tsTell X.K p.2.2 p.2.1)) ∧ ∀ p ∈ l, p.2.2 < X.N.length := by
  induction h with
  | nil => exact ⟨[], .nil, rfl, fun _ h => nomatch h⟩
  | @cons c x n z z2 i k1 k2 np pos' p1 p2 p3 p4 p5 p6 p7 p8 hds l hx hN hn hv h1 h2 h3 g0 g1 g2 e1 e2 hpl r ih =>
    obtain ⟨l', a1, a2, a3⟩ := ih fun p hp => f p (List.mem_cons_of_mem _ hp)
    obtain ⟨C, hC⟩ := f _ List.mem_cons_self
    subst hx
    refine ⟨(.ref C, i, tsTell X.K i z) :: l', .cons ⟨g0, h3, .inl hC⟩ hN hn (fun a oe cls d pn hz hf => suite_tell hN hv h1 h2 ni nv g1 g2 e1 e2 hpl hz hf) a1, ?_, fun p hp => ?_⟩
    · rw [List.map_cons, List.map_cons, a2, hC]
    · rcases List.mem_cons.mp hp with rfl | hp
      · exact (List.getElem?_eq_some_iff.mp hN).1
      · exact a3 p hp
theorem tell_chain {Dn : Ends} {T A H w1} {e : Ex} {C : Addr} {H' : Hp} {T' : Tt} {A' : Ow} {σ' : L2.St} {n : Nat} (st : Step T A H T' A' H') (t1 : Tins H' T' w1) (hl : σ'.length = n) (hC : X.mg (Str.ofString e.cls) = some (.ref C)) (xr : XR X.mg e (.ref C) none H') (hEC : ExcC X.K C) (hkit : PySem.W.kitOne X.K (.ref C) (.type "ValueError") = some true) :
    ∀ (l : List (String × Str × Nat)) (l' : List (Value × Nat × TSu)), l'.map (fun q => (some q.1, q.2)) = l.map (fun p => (X.mg (Str.ofString p.1), p.2.2, tsTell X.K p.2.2 p.2.1)) → (∀ p ∈ l, p.2.2 < n) → (∀ p ∈ l, ExcE X.K X.mg e.cls p.1) →
      PostS X.K X.mg E T A H Dn (match l.find? (fun p => p.1 = e.cls) with
        | some p => .rt (.str p.2.1) w1
        | none => .ex e w1) → wManyA X.K (fun cls d _ H => E cls d H) Dn l' (.ref C) none σ' H' := by
  intro l
  induction l with
  | nil =>
    intro l' a2 a3 fe p
    cases l' with
    | nil => exact p _ _ H' T' A' st t1 xr
    | cons q r => cases a2
  | cons hd l ih =>
    intro l' a2 a3 fe p
    cases l' with
    | nil => cases a2
    | cons hd' l' =>
      obtain ⟨c', z', i'⟩ := hd
      obtain ⟨v', j', ts'⟩ := hd'
      rw [List.map_cons, List.map_cons] at a2
      obtain ⟨b1, b2⟩ := List.cons.inj a2
      obtain ⟨C1, C3, d1, d2, d3⟩ := fe _ List.mem_cons_self
      rw [hC] at d1; cases d1
      have b1 : (some v', j', ts') = (X.mg (Str.ofString c'), i', tsTell X.K i' z') := b1
      have d2 : X.mg (Str.ofString c') = some (.ref C3) := d2
      rw [d2] at b1
      cases b1
      have d3 : PySem.W.exmOne X.K (.ref C) (.ref C3) = some (decide (c' = e.cls)) := d3
      refine ⟨_, d3, fun hyes a na => ?_, fun hno => ?_⟩
      · have hyes : c' = e.cls := of_decide_eq_true hyes
        rw [List.find?_cons_of_pos (by simpa using hyes)] at p
        exact ⟨⟨C, rfl, rfl, hEC, hkit⟩, List.getElem?_set_self (by rw [hl]; exact a3 _ List.mem_cons_self), p (.str z') H' T' A' st t1 (.str z')⟩
      · have hno : c' ≠ e.cls := of_decide_eq_false hno
        rw [List.find?_cons_of_neg (by simpa using hno)] at p
        exact ih l' b2 (fun p hp => a3 p (List.mem_cons_of_mem _ hp)) (fun p hp => fe p (List.mem_cons_of_mem _ hp)) p
theorem gs_try {body : List Stmt} {h0 : ExceptHandler} {hds : List ExceptHandler} {l : List (String × Str × Nat)} {pos : Pos} {τ : SM} {U : List String} (hstk : X.stack = X.env :: X.outer) (hfr : X.env.frame = some X.env.locals) (nd : X.N.Nodup) (tk : TakesE X E)
    (hb : ∀ (pn : List (Addr × Obj)) (xe : Value → Shared → Prop) (E' : XK), TakesE (X.tr pn xe) E' → PassesOwn (model X.prog X.w) X.A X.env xe → GSs (X.tr pn xe) E' body τ)
    (hh : GHds X (h0 :: hds) l) (ni : X.mg "isinstance" = none) (nv : X.mg "ValueError" = none) (ft : ∀ c ∈ U, ExcT X.K X.mg c) (fe : ∀ c ∈ U, ∀ p ∈ l, ExcE X.K X.mg c p.1) (fl : ∀ p ∈ l, p.1 ∈ U) : GS X E (.Try body (h0 :: hds) [] [] pos) (sTry U l τ) := by
  obtain ⟨l', a1, a2, a3⟩ := hh.to ni nv fun p hp => let ⟨C, h, _⟩ := ft _ (fl p hp); ⟨C, h⟩
  refine ps_mono (ps_try_manyA (tb := fun W => liftS X.K X.mg (fun cls d H' => ∀ σ' : L2.St, σ'.length = X.N.length → W cls d σ' H') τ) hstk hfr nd tk (fun W pn xe tkW ps => ?_) a1) fun Dn σ H ⟨env, w, T, A, rel, t, p⟩ => ⟨env, w, T, A, rel, t, ?_⟩
  · refine hb pn xe _ (fun u s' ⟨a, B, sI, pins, σ', H', cls, d, e, I, nb, up, sky, na, os, ag, w⟩ => tkW u s' ⟨a, B, sI, pins, σ', H', cls, d, e, I, nb, up, sky, na, os, ag, w σ' I.len⟩) ps
  · unfold sTry at p
    cases q : τ env w with
    | nx e1 w1 => rw [q] at p; exact p
    | rt d w1 => rw [q] at p; exact p
    | bk e1 w1 => rw [q] at p; exact p
    | ct e1 w1 => rw [q] at p; exact p
    | st => rw [q] at p; exact p
    | ex e w1 =>
      rw [q] at p
      have p : PostS X.K X.mg E T A H Dn (if e.cls ∈ U ∧ e.arg = none then (match l.find? (fun p => p.1 = e.cls) with
        | some p => .rt (.str p.2.1) w1
        | none => .ex e w1) else .st) := p
      split at p
      · rename_i hU
        intro cls oa H' T' A' st t1 xr σ' hl
        obtain ⟨C, hC, rfl, hoa⟩ := id xr
        rw [hU.2] at hoa
        have hoa : oa = none := hoa
        subst hoa
        obtain ⟨C2, hC2, hEC, hkit⟩ := ft _ hU.1
        rw [hC] at hC2; cases hC2
        exact tell_chain st t1 hl hC xr hEC hkit l l' a2 a3 (fe _ hU.1) p
      · exact p.elim
end
end DL
namespace DL
open PySem PySem.Spec PyProof.Rows L2
section
variable {X : Cx} {E : XK} {al ar ac ar1 ac1 ar2 ac2 : List Nat} {a b c : Expr} {rest : List Expr} {pos : Pos} {ea eb : EM D} {fa fb : EM (List D)} {K : PySem.W.Frag} {mg : Mg}
/-! ### x or y, new lists -/
theorem fresh_rep2 {T A H T' H' w ds vs} {a : Addr} (fr : Fr T A H w) (x : Ext T H T' H') (n : H a = none) (e : H' a = some (.lst vs)) (m : a ∉ T') (z : vs.length ≤ sizeLine) (r : Reps K mg T' (fun x => Bad T' A ac x ∨ x = a) H' ds vs) : Rep2 K mg T' A [] ac H' (.lst ds) (.ref a) := by
  refine ⟨a, vs, rfl, ⟨?_, z, e⟩, r.le fun b hb => .inl hb⟩
  rintro (b | ⟨i, _, b⟩)
  · exact m b
  · exact fr.own i a b n
def dOrF (f g : EM (List D)) : EM (List D) := fun env w => (f env w).bind fun ds w => if ds.isEmpty then g env w else .ok ds w
theorem gf_one {op} (h : GF X E ac a fa) : GF X E ac (.BoolOp op [a] pos) fa := pe_one h
theorem PostF.wk {T A H Q} {r : Res (List D)} (h : PostF K mg E T A ac H Q r) (s : ac1 ⊆ ac) : PostF K mg E T A ac1 H Q r := by
  cases r with
  | ok d w => exact fun a vs H' T' x t n e m z rp => h a vs H' T' x t n e m z (rp.le fun b hb => hb.imp (Bad.le fun _ k => s k) id)
  | ex e w => exact h
  | st => exact h
theorem gf_or (ha : GF X E ac1 a fa) (hb : GF X E ac2 (.BoolOp .Or (b :: rest) pos) fb) (s1 : ac1 ⊆ ac := by simp) (s2 : ac2 ⊆ ac := by simp) : GF X E ac (.BoolOp .Or (a :: b :: rest) pos) (dOrF fa fb) :=
  pe_mono (pe_orT ha hb) fun σ H Q ⟨env, w, T, A, rel, t, p⟩ => by
    refine ⟨env, w, T, A, rel, t, ?_⟩
    unfold dOrF at p
    cases q : fa env w with
    | st => rw [q] at p; exact p
    | ex e w1 => rw [q] at p; exact p
    | ok ds w1 =>
      rw [q] at p
      intro o vs H' T' x t' n e m z rp
      have r2 := fresh_rep2 (rel.fr t) x n e m z rp
      refine ⟨!ds.isEmpty, tru_rep r2 rfl, ?_⟩
      have p : PostF X.K X.mg E T A ac H Q (if ds.isEmpty = true then fb env w1 else .ok ds w1) := p
      cases em : ds.isEmpty with
      | true =>
        rw [em, if_pos rfl] at p
        exact ⟨env, w1, T', A, rel.ext x, t', PostF.wk (p.ext x) s2⟩
      | false =>
        rw [em, if_neg Bool.false_ne_true] at p
        exact p o vs H' T' x t' n e m z (rp.le fun b hb => hb.imp (Bad.le fun _ k => s1 k) id)
/-! ### the boxes of draws -/
def boxM : List D → M D
  | [.int i, .int j, .int k] => fun w => .ok (.box w.length) (w ++ [(i, j, k)])
  | _ => fun _ => .st
def dBox (f : EM (List D)) : EM D := fun env w => (f env w).bind boxM
theorem ge_box (h : GF X E ac a fa) : GE X E [] [] a (dBox fa) := pe_mono h fun σ H Q ⟨env, w, T, A, rel, t, p⟩ => by
  refine ⟨env, w, T, A, rel, t, ?_⟩
  unfold dBox at p
  cases q : fa env w with
  | st => rw [q] at p; exact p
  | ex e w1 => rw [q] at p; exact p
  | ok ds w1 =>
    rw [q] at p
    intro o vs H' T' x t' n e m z rp
    replace p : Post X.K X.mg E T A [] [] H Q (boxM ds w1) := p
    unfold boxM at p
    split at p
    · rename_i i j k
      have ev : vs = [.int i, .int j, .int k] := by
        cases rp with
        | cons r1 rp => cases rp with
          | cons r2 rp => cases rp with
            | cons r3 rp => cases rp; cases r1; cases r2; cases r3; rfl
      subst ev
      have ml : o ∉ T'.l := fun h => m (.inl h)
      obtain ⟨N, eN, hN⟩ := x.pre
      refine p (.ref o) H' (T' ++ [o]) ⟨⟨N ++ [o], by rw [eN, app_app], fun b hb => ?_⟩, x.kp, x.there⟩ ⟨?_, ?_, fun k' a' t'' h1 h2 => ?_, t'.2.2.2⟩ ?_
      · rcases List.mem_append.mp hb with hb | hb
        · exact hN b hb
        · rw [List.mem_singleton.mp hb]; exact n
      · rw [app_l, List.length_append, List.length_append, t'.1]; rfl
      · rw [app_l]
        refine List.nodup_append.mpr ⟨t'.2.1, by simp, fun b hb c hc => ?_⟩
        rw [List.mem_singleton.mp hc]
        exact fun z => ml (z ▸ hb)
      · rw [app_l] at h1
        by_cases hk : k' < T'.l.length
        · rw [List.getElem?_append_left hk] at h1
          rw [List.getElem?_append_left (by rw [← t'.1]; exact hk)] at h2
          exact t'.2.2.1 k' a' t'' h1 h2
        · have hk2 : k' = T'.l.length := by
            have := (List.getElem?_eq_some_iff.mp h1).1
            rw [List.length_append, List.length_singleton] at this; omega
          subst hk2
          rw [List.getElem?_append_right (Nat.le_refl _)] at h1
          rw [t'.1, List.getElem?_append_right (Nat.le_refl _)] at h2
          simp at h1 h2
          subst h1 h2
          exact e
      · refine rep2_of (al := []) (.box ?_)
        rw [app_l, ← t'.1, List.getElem?_append_right (Nat.le_refl _)]; simp
    · exact p.elim
theorem tins_mut {T H w} {o : Addr} {b : Nat} {t : Int × Int × Int} (h : Tins H T w) (hb : T.l[b]? = some o) : Ext T H T (upd H o (.lst [.int t.1, .int t.2.1, .int t.2.2])) ∧ Tins (upd H o (.lst [.int t.1, .int t.2.1, .int t.2.2])) T (w.set b t) := by
  have mo : o ∈ T.l := by
    obtain ⟨hk, e⟩ := List.getElem?_eq_some_iff.mp hb
    rw [← e]; exact List.getElem_mem hk
  have th : ∀ a, H a ≠ none → upd H o (.lst [.int t.1, .int t.2.1, .int t.2.2]) a ≠ none := fun a n => by
    by_cases e : a = o
    · rw [e, upd_same]; intro z; cases z
    · rw [upd_ne e]; exact n
  refine ⟨⟨⟨[], by simp [app_nil]⟩, fun a u n e => by rw [upd_ne (fun z => n (by rw [z]; exact mo))]; exact e, th⟩, by rw [List.length_set]; exact h.1, h.2.1, fun k a u h1 h2 => ?_, fun b hb => th b (h.2.2.2 b hb)⟩
  by_cases hk : k = b
  · subst hk
    rw [hb] at h1; cases h1
    have hl : k < w.length := by rw [← h.1]; exact (List.getElem?_eq_some_iff.mp hb).1
    rw [List.getElem?_set_self hl] at h2
    cases h2
    exact upd_same
  · rw [List.getElem?_set_ne (Ne.symm hk)] at h2
    rw [upd_ne (fun z => hk (by
      rw [z] at h1
      obtain ⟨k1, e1⟩ := List.getElem?_eq_some_iff.mp h1
      obtain ⟨k2, e2⟩ := List.getElem?_eq_some_iff.mp hb
      exact (List.getElem_inj h.2.1).mp (e1.trans e2.symm)))]
    exact h.2.2.1 k a u h1 h2
def setB (t : Int × Int × Int) (n v : Int) : Option (Int × Int × Int) := if n = 0 then some (v, t.2.1, t.2.2) else if n = 1 then some (t.1, v, t.2.2) else if n = 2 then some (t.1, t.2.1, v) else none
def setW (env : Env) (w : W) (b : Nat) : D → D → Option (Int × Int × Int) → Out
  | .int v, .int n, some t => match setB t n v with
    | some t' => .nx env (w.set b t')
    | none => .st
  | _, _, _ => .st
def sBoxSet (i : Nat) (k e : EM D) : SM := fun env w => Out.bind (e env w) fun d w => match env[i]? with
  | some (.fz (.box b)) => Out.bind (k env w) fun q w => setW env w b d q w[b]?
  | _ => .st
theorem gs_boxset {i : Nat} {x : Str} {p tp : Pos} (hx : PE X (.Name x p) (tVar i)) (hk : GE X E ar2 ac2 b eb) (he : GE X E ar ac a ea)
    (h0 : ∀ v, assign (.Subscript (.Name x p) b tp) X.env v = (do
      let ov ← holding [v] (eval (.Name x p) X.env)
      let iv ← holding [v, ov] (eval b X.env)
      standAt tp
      holding [v, ov, iv] (setItem ov iv v)
      release [v, ov, iv] []) := by intro _; rfl)
    (hs : swapsWithSole [.Subscript (.Name x p) b tp] a pos.line X.env = pure false := by rfl) (hw : swappedStores [.Subscript (.Name x p) b tp] a X.env = pure none := by rfl) (h1 : (assignEach [.Subscript (.Name x p) b tp] X.env).map (·.2) = [assign (.Subscript (.Name x p) b tp) X.env] := by rfl) :
    GS X E (.Assign [.Subscript (.Name x p) b tp] a pos) (sBoxSet i eb ea) :=
  ps_mono (ps_asg he (pg_sub hx hk set_list h0) hs hw h1) fun Dn σ H ⟨env, w, T, A, rel, t, p⟩ => by
    refine goS (f := fun d w => match env[i]? with
      | some (.fz (.box b)) => Out.bind (eb env w) fun q w => setW env w b d q w[b]?
      | _ => .st) rel t p fun d w1 v H1 T1 x t1 rel1 r p1 => ?_
    split at p1
    · rename_i bx hi
      obtain ⟨v0, e0, rb⟩ := rel1.slot i _ hi
      cases rb with
      | box hb =>
        rename_i o
        refine ⟨.ref o, e0, ?_⟩
        refine goS (f := fun q w => setW env w bx d q w[bx]?) rel1 t1 p1 fun q w2 v2 H2 T2 x2 t2 rel2 r2 p2 => ?_
        generalize hw2 : w2[bx]? = ot at p2
        unfold setW at p2
        split at p2
        · rename_i vv n tt
          split at p2
          · rename_i t3 hset
            have hb2 := x2.at _ _ hb
            have hH := t2.2.2.1 bx o tt hb2 hw2
            rw [show v = .int vv from int_of r]
            obtain ⟨xe, te⟩ := tins_mut (t := t3) t2 hb2
            unfold setB at hset
            have fin : ∀ (j : Nat), ixN 3 n = some j → ([V.int tt.1, .int tt.2.1, .int tt.2.2].set j (.int vv)) = [V.int t3.1, .int t3.2.1, .int t3.2.2] → rSetL (.ref o) v2 (.int vv) H2 (fun H' => Dn.nx σ H') := fun j hj hl => by
              refine ⟨o, _, n, j, rfl, int_of r2, hH, hj, ?_⟩
              rw [hl]
              exact p2 σ _ T2 A (.of_ext xe) (rel2.ext xe) te
            split at hset
            · rename_i hn; subst hn; cases hset; exact fin 0 rfl rfl
            · split at hset
              · rename_i hn; subst hn; cases hset; exact fin 1 rfl rfl
              · split at hset
                · rename_i hn; subst hn; cases hset; exact fin 2 rfl rfl
                · cases hset
          · exact p2.elim
        · exact p2.elim
    · exact p1.elim
end
end DL
namespace DL
open PySem PySem.Spec PyProof.Rows L2
theorem takesN {X : Cx} : TakesE X NoE := takes_none5
/-- a def from its body -/
theorem fnk_mk {P : Program} {w : World} {K : PySem.W.Frag} {mg : Mg} {base : Heap} {x : String} {qual : Str} {st : Stmt} {f : Addr} {fd : FuncData} {N ps : List Str} {k : Nat} {τ : SM} {js : List Nat} (F : Fun K (Str.ofString x) qual st f fd) (hm : mg (Str.ofString x) = some (.ref f)) (S : FnScope N ps (defScope st)) (hb : Binds K fd ps [])
    (hj : ∀ j ∈ js, KB K fd ps j)
    (body : ∀ (cdv : Value) (A : Around) (outer : List PySem.Env) (s : Shared) (H : Hp) (E : XK), Room k (A.deeper (envOfC qual (defScope st) s.heap.objs.size f cdv)) → TakesE (cxOf (L2.CX P w) P w K mg base N qual (defScope st) f cdv A outer s H E) E →
      PassesOwn (model (cxOf (L2.CX P w) P w K mg base N qual (defScope st) f cdv A outer s H E).prog w) (cxOf (L2.CX P w) P w K mg base N qual (defScope st) f cdv A outer s H E).A (cxOf (L2.CX P w) P w K mg base N qual (defScope st) f cdv A outer s H E).env (cxOf (L2.CX P w) P w K mg base N qual (defScope st) f cdv A outer s H E).xe →
      GSs (cxOf (L2.CX P w) P w K mg base N qual (defScope st) f cdv A outer s H E) E (defBody st) τ) {n : Nat} (hn : ps.length = n) {M : Nat} (hM : N.length = M) : FnK P w K mg base x n (k + 1) (bodyD M τ) js ps := by
  subst hn hM
  refine ⟨f, fd, ps, hm, F.kp, hb, rfl, F.okX S (fun vs H Q E ⟨ds, w, T, h, _⟩ => h) fun cdv A outer s H vs Q E hr ⟨ds, w', T, hl, t, rs, p⟩ => ⟨_, body cdv A outer s H E hr (takes_of rfl rfl rfl rfl) (passes_of rfl), ?_⟩, rfl, hj⟩
  have hpl : ps.length ≤ N.length := by
    have := S.pre
    rw [← this]; simp; omega
  refine ⟨_, w', T, _, start_rel rs hl.symm hpl, t, ?_⟩
  unfold bodyD at p
  show PostS K mg E T _ H _ (τ (ds.map Slot.fz ++ List.replicate (N.length - ds.length) Slot.un) w')
  cases q : τ (ds.map Slot.fz ++ List.replicate (N.length - ds.length) Slot.un) w' with
  | nx e1 w1 => rw [q] at p; exact fun σ' H' T' A' x r t => p .non H' T' x.ext t .non
  | rt d w1 => rw [q] at p; exact fun v H' T' A' x t r => p v H' T' x.ext t r
  | ex e w1 => rw [q] at p; exact fun c o H' T' A' x t r => p c o H' T' x.ext t r
  | bk e w1 => rw [q] at p; exact p.elim
  | ct e w1 => rw [q] at p; exact p.elim
  | st => rw [q] at p; exact p.elim
/-- a def that never ends, for a start -/
def noFn : List D → M D := fun _ _ => .st
theorem fnk_0 {P : Program} {w : World} {K : PySem.W.Frag} {mg : Mg} {base : Heap} {x : String} {qual : Str} {st : Stmt} {f : Addr} {fd : FuncData} {N ps : List Str} {js : List Nat} (F : Fun K (Str.ofString x) qual st f fd) (hm : mg (Str.ofString x) = some (.ref f)) (S : FnScope N ps (defScope st)) (hb : Binds K fd ps [])
    (hj : ∀ j ∈ js, KB K fd ps j) {n k : Nat} (hn : ps.length = n) : FnK P w K mg base x n k noFn js ps := by
  refine ⟨f, fd, ps, hm, F.kp, hb, hn, ⟨fun vs H Q E ⟨ds, w, T, h, _⟩ => h.trans hn.symm, fun A outer s H args us vs Q E hr e b v ⟨ds, w, T, _, _, _, p⟩ => p.elim⟩, rfl, hj⟩
/-- what the top has of a def -/
structure DefAt (K : PySem.W.Frag) (mg : Mg) (x : String) (st : Stmt) (f : Addr) (fd : FuncData) : Prop where
  fn : Fun K (Str.ofString x) (Str.ofString x) st f fd
  mgf : mg (Str.ofString x) = some (.ref f)
end DL
namespace DL
open PySem PySem.Spec PyProof.Rows L2
section
variable {X : Cx} {E : XK} {ar ac ar1 ac1 ar2 ac2 : List Nat} {a b : Expr} {pos p p2 p3 : Pos} {ea eb : EM D} {K : PySem.W.Frag} {mg : Mg}
/-! ### list(range(..)) -/
def rgOk (i j : Int) : Bool := b62 i && b62 j && decide ((j - i).toNat ≤ 2 ^ 24)
theorem rgOk_of {i j : Int} (h : rgOk i j = true) : RgOk i j := by
  unfold rgOk at h
  simp only [Bool.and_eq_true, decide_eq_true_eq] at h
  obtain ⟨h1, h2⟩ := b62_of h.1.1
  obtain ⟨h3, h4⟩ := b62_of h.1.2
  exact ⟨h1, h2, h3, h4, h.2⟩
def lrg (i j : Int) : M (List D) := fun w => if rgOk i j then .ok (rngL i 1 (j - i).toNat) w else .st
theorem reps_rg {T B H} {i j : Int} : Reps K mg T B H (rngL i 1 (j - i).toNat) (rgV i j) := by
  have e : rngL i 1 (j - i).toNat = ((List.range (j - i).toNat).map fun (k : Nat) => i + (k : Int)).map D.int := by
    unfold rngL
    rw [List.map_map]
    refine List.map_congr_left fun k _ => ?_
    show D.int (i + (k : Int) * 1) = _
    rw [Int.mul_one]; rfl
  have e2 : rgV i j = ((List.range (j - i).toNat).map fun (k : Nat) => i + (k : Int)).map V.int := by
    unfold rgV
    rw [List.map_map]; rfl
  rw [e, e2]
  exact reps_ints _
theorem rg_size {i j : Int} (h : rgOk i j = true) : (rgV i j).length ≤ sizeLine := by
  have := (rgOk_of h).2.2.2.2
  rw [rgV_length, sizeLine_eq]; omega
def lrg1 : D → M (List D)
  | .int j => lrg 0 j
  | _ => fun _ => .st
def lrg2 : D → D → M (List D)
  | .int i, .int j => lrg i j
  | _, _ => fun _ => .st
theorem gf_listRg1 (hc : X.calm = true) (n : Nb X.mg) (ha : GE X E ar ac a ea) (hg : Gl X "list" := by rfl) (hg2 : Gl X "range" := by rfl) (na : starEach [.Call (.Name "range" p2) [a] [] p3] X.env = (false, eval (.Call (.Name "range" p2) [a] [] p3) X.env) :: starEach [] X.env := by rfl) (na2 : starEach [a] X.env = (false, eval a X.env) :: starEach [] X.env := by rfl) :
    GF X E [] (.Call (.Name "list" p) [.Call (.Name "range" p2) [a] [] p3] [] pos) (dUn lrg1 ea) :=
  pe_mono (pe_listRg hc hg n.list (prg_1 hg2 n.range ha na2) na) fun σ H Q ⟨env, w, T, A, rel, t, pp⟩ => goF rel t pp fun d w1 v H1 T1 x t1 rel1 r p1 => by
    unfold lrg1 at p1
    split at p1
    · unfold lrg at p1
      split at p1
      · rename_i j hj
        exact ⟨j, int_of r, rgOk_of hj, fun q hq => p1.lst (rel1.fr t1) reps_rg (rg_size hj) hq⟩
      · exact p1.elim
    · exact p1.elim
theorem gf_listRg2 (hc : X.calm = true) (n : Nb X.mg) (ha : GE X E ar1 ac1 a ea) (hb : GE X E ar2 ac2 b eb) (hg : Gl X "list" := by rfl) (hg2 : Gl X "range" := by rfl) (na : starEach [.Call (.Name "range" p2) [a, b] [] p3] X.env = (false, eval (.Call (.Name "range" p2) [a, b] [] p3) X.env) :: starEach [] X.env := by rfl) (na2 : starEach [a, b] X.env = (false, eval a X.env) :: starEach [b] X.env := by rfl) (na3 : starEach [b] X.env = (false, eval b X.env) :: starEach [] X.env := by rfl) (hp : (backTo p3 (starEach [b] X.env)).any (·.1) = false := by rfl) :
    GF X E [] (.Call (.Name "list" p) [.Call (.Name "range" p2) [a, b] [] p3] [] pos) (dBinF lrg2 ea eb) :=
  pe_mono (pe_listRg hc hg n.list (prg_2 hg2 n.range ha hb na2 na3 hp) na) fun σ H Q ⟨env, w, T, A, rel, t, pp⟩ => goF (f := fun x w => (eb env w).bind fun y w => lrg2 x y w) rel t pp fun d w1 v H1 T1 x t1 rel1 r p1 => goF rel1 t1 p1 fun d2 w2 v2 H2 T2 x2 t2 rel2 r2 p2 => by
    unfold lrg2 at p2
    split at p2
    · unfold lrg at p2
      split at p2
      · rename_i i j hj
        exact ⟨i, j, int_of r, int_of r2, rgOk_of hj, fun q hq => p2.lst (rel2.fr t2) reps_rg (rg_size hj) hq⟩
      · exact p2.elim
    · exact p2.elim
end
end DL
namespace DL
open PySem PySem.Spec PyProof.Rows L2
/-! ### what the top has written -/
section
variable {K : PySem.W.Frag} {mg : Mg} {h : Heap}
theorem def_mk {x : String} {st : Stmt} {f : Addr} {oc : Value} {od an : Option Addr} {osl : Array (Option Value)} {kV doc pm cdv ct : Value} (X : K.In h) (G : h.Ns mainGlobals mg) (a : PySem.W.nsIn K mainGlobals (Str.ofString x) = some (some (.ref f)))
    (l : K.lookup f = some ⟨oc, od, .func (PySem.W.fnOf (Str.ofString x) (Str.ofString x) (defArgs st) (defBody st) (defScope st) .none kV doc pm an cdv ct), osl⟩) (c : PySem.W.codeIn K cdv (Str.ofString x) = true) (k : PySem.W.keepIn K (.ref f) = true) :
    ∃ fd, DefAt K mg x st f fd := ⟨_, fun_mk l c k, PySem.W.mg_of X G a⟩
theorem cst_int {x : String} {n : Int} {t : Tok} (X : K.In h) (G : h.Ns mainGlobals mg) (a : PySem.W.nsIn K mainGlobals (Str.ofString x) = some (some (.int n t))) : Cst K mg (Str.ofString x) (.int n) := ⟨_, .int n, PySem.W.mg_of X G a, ⟨t, rfl⟩, fun _ _ _ => .int n⟩
theorem cst_str {x : String} {n : Str} {t : Tok} (X : K.In h) (G : h.Ns mainGlobals mg) (a : PySem.W.nsIn K mainGlobals (Str.ofString x) = some (some (.str n t))) : Cst K mg (Str.ofString x) (.str n) := ⟨_, .str n, PySem.W.mg_of X G a, ⟨t, rfl⟩, fun _ _ _ => .str n⟩
theorem cst_pair {x : String} {i j : Int} {p : Addr} {t t' : Tok} {n : Nat} {od : Option Addr} {sl : Array (Option Value)} (X : K.In h) (G : h.Ns mainGlobals mg) (a : PySem.W.nsIn K mainGlobals (Str.ofString x) = some (some (.ref p)))
    (l : K.lookup p = some ⟨.type "tuple", od, .seq #[.int i t, .int j t'] n, sl⟩) : Cst K mg (Str.ofString x) (.tup [.int i, .int j]) :=
  ⟨_, .ref p, PySem.W.mg_of X G a, rfl, fun T B H => .tup (vs := [.int i, .int j]) (.inr ⟨by show 2 ≤ sizeLine; decide, .inr ⟨_, _, _, l, rfl, rfl, by show 2 ≤ sizeLine; decide, .cons ⟨t, rfl⟩ (.cons ⟨t', rfl⟩ .nil)⟩⟩) (.cons (.int i) (.cons (.int j) .nil))⟩
theorem exc_mk {c : String} {C : Addr} (X : K.In h) (G : h.Ns mainGlobals mg) (a : PySem.W.nsIn K mainGlobals (Str.ofString c) = some (some (.ref C))) (e : PySem.W.excIn K C [.type "ValueError", .type "Exception", .type "BaseException", .type "object"] "ValueError.__new__" = true)
    (k : PySem.W.keepIn K (.ref C) = true) (s : PySem.W.subIn K (.ref C) (.type "BaseException") = some true) (t : PySem.W.typeIn K (.ref C) = some (.type "type")) : ExcN K mg c := ⟨C, PySem.W.mg_of X G a, e, k, s, t⟩
theorem nb_mk (X : K.In h) (G : h.Ns mainGlobals mg)
    (a1 : PySem.W.nsIn K mainGlobals "len" = some none) (a2 : PySem.W.nsIn K mainGlobals "abs" = some none) (a3 : PySem.W.nsIn K mainGlobals "max" = some none) (a4 : PySem.W.nsIn K mainGlobals "min" = some none) (a5 : PySem.W.nsIn K mainGlobals "sum" = some none)
    (a6 : PySem.W.nsIn K mainGlobals "all" = some none) (a7 : PySem.W.nsIn K mainGlobals "any" = some none) (a8 : PySem.W.nsIn K mainGlobals "sorted" = some none) (a9 : PySem.W.nsIn K mainGlobals "isinstance" = some none) (a10 : PySem.W.nsIn K mainGlobals "int" = some none)
    (a11 : PySem.W.nsIn K mainGlobals "bool" = some none) (a12 : PySem.W.nsIn K mainGlobals "str" = some none) (a13 : PySem.W.nsIn K mainGlobals "list" = some none) (a14 : PySem.W.nsIn K mainGlobals "tuple" = some none) (a15 : PySem.W.nsIn K mainGlobals "range" = some none)
    (a16 : PySem.W.nsIn K mainGlobals "enumerate" = some none) (a17 : PySem.W.nsIn K mainGlobals "zip" = some none) (a18 : PySem.W.nsIn K mainGlobals "reversed" = some none) (a19 : PySem.W.nsIn K mainGlobals "set" = some none) (a20 : PySem.W.nsIn K mainGlobals "dict" = some none) : Nb mg :=
  ⟨PySem.W.mg_none_of X G a1, PySem.W.mg_none_of X G a2, PySem.W.mg_none_of X G a3, PySem.W.mg_none_of X G a4, PySem.W.mg_none_of X G a5, PySem.W.mg_none_of X G a6, PySem.W.mg_none_of X G a7, PySem.W.mg_none_of X G a8, PySem.W.mg_none_of X G a9, PySem.W.mg_none_of X G a10,
   PySem.W.mg_none_of X G a11, PySem.W.mg_none_of X G a12, PySem.W.mg_none_of X G a13, PySem.W.mg_none_of X G a14, PySem.W.mg_none_of X G a15, PySem.W.mg_none_of X G a16, PySem.W.mg_none_of X G a17, PySem.W.mg_none_of X G a18, PySem.W.mg_none_of X G a19, PySem.W.mg_none_of X G a20⟩
theorem none_mk {x : Str} (X : K.In h) (G : h.Ns mainGlobals mg) (a : PySem.W.nsIn K mainGlobals x = some none) : mg x = none := PySem.W.mg_none_of X G a
theorem exct_mk {c : String} {C : Addr} (X : K.In h) (G : h.Ns mainGlobals mg) (a : PySem.W.nsIn K mainGlobals (Str.ofString c) = some (some (.ref C)))
    (h1 : PySem.W.findIn K (.ref C) "__getattribute__" = some (some (.builtin "BaseException.__getattribute__"))) (h2 : PySem.W.findIn K (.ref C) "__getattr__" = some none) (h3 : PySem.W.subIn K (.ref C) (.type "BaseException") = some true) (h4 : PySem.W.hasDictIn K C = true)
    (h5 : PySem.W.findIn K (.ref C) "__class__" = some (some (.builtin "object.__class__"))) (h6 : PySem.W.specialIn K (.builtin "object.__class__") "__get__" = some (some (.builtin "getset_descriptor.__get__"))) (h7 : PySem.W.takesIn K (.builtin "object.__class__") = some true) (h8 : PySem.W.mroIn K C (.type "object") = some true)
    (h9 : PySem.W.kitOne K (.ref C) (.type "ValueError") = some true) : ExcT K mg c := ⟨C, PySem.W.mg_of X G a, ⟨h1, h2, h3, h4, h5, h6, h7, h8⟩, h9⟩
theorem exce_mk {c c' : String} {C C' : Addr} (X : K.In h) (G : h.Ns mainGlobals mg) (a : PySem.W.nsIn K mainGlobals (Str.ofString c) = some (some (.ref C))) (a' : PySem.W.nsIn K mainGlobals (Str.ofString c') = some (some (.ref C'))) (e : PySem.W.exmOne K (.ref C) (.ref C') = some (decide (c' = c))) : ExcE K mg c c' :=
  ⟨C, C', PySem.W.mg_of X G a, PySem.W.mg_of X G a', e⟩
end
/-! ### the law -/
def spS (K : PySem.W.Frag) : Sp := fun vs H Q _ => ∃ (a : Addr) (ns : List Int), vs = [.ref a] ∧ SqL K H a (ns.map V.int) ∧ Only H ∧ ns.length ≤ 63 ∧ ∀ H', Q (.bl true) H'
theorem law_ok {P : Program} {w : World} {K : PySem.W.Frag} {mg : Mg} {base : Heap} {k : Nat} {φ : List D → M D} {f : Addr} {fd : FuncData} (F : FnOk P w K mg base (L2.CX P w) k f fd ["script"] (spD K mg 1 φ)) (law : ∀ ns : List Int, ns.length ≤ 63 → ∃ w', φ [.scr ns] [] = .ok (.bl true) w') :
    FnOk P w K mg base (L2.CX P w) k f fd ["script"] (spS K) := by
  refine F.imp fun vs H Q E ⟨a, ns, ev, hS, hO, hl, q⟩ => ?_
  obtain ⟨w', hw⟩ := law ns hl
  refine ⟨[.scr ns], [], ⟨[], []⟩, by rw [ev]; rfl, ⟨rfl, List.nodup_nil, fun k a t h => by simp at h, fun b hb => nomatch hb⟩, ?_, ?_⟩
  · subst ev
    refine .cons (.scr ?_) .nil
    rcases hS with (hS | ⟨o, hS⟩) | hS
    · rcases hO a with z | ⟨o, xs, z⟩
      · rw [z] at hS; cases hS
      · rw [z] at hS; cases hS
    · exact .inl ⟨fun m => (by rcases m with m | m <;> exact nomatch m), ⟨o, hS⟩⟩
    · exact .inr (.inr hS)
  · rw [hw]
    intro v H' T' x t r
    cases r
    exact q H'
theorem cx_none {P : Program} {w : World} (H : Hp) (s : Shared) (e : Value) (s' : Shared) (h : L2.CX P w [] H s (fun _ _ _ => False) e s') : False := by
  obtain ⟨_, _, _, _, _, _, _, _, _, _, _, _, z⟩ := h
  exact z
theorem fok_mk {P : Program} {w : World} {K : PySem.W.Frag} {mg : Mg} {base : Heap} {x qual : Str} {st : Stmt} {f : Addr} {fd : FuncData} {N ps : List Str} {k : Nat} {τ : SM} (F : Fun K x qual st f fd) (S : FnScope N ps (defScope st))
    (body : ∀ (cdv : Value) (A : Around) (outer : List PySem.Env) (s : Shared) (H : Hp) (E : XK), Room k (A.deeper (envOfC qual (defScope st) s.heap.objs.size f cdv)) → TakesE (cxOf (L2.CX P w) P w K mg base N qual (defScope st) f cdv A outer s H E) E →
      PassesOwn (model (cxOf (L2.CX P w) P w K mg base N qual (defScope st) f cdv A outer s H E).prog w) (cxOf (L2.CX P w) P w K mg base N qual (defScope st) f cdv A outer s H E).A (cxOf (L2.CX P w) P w K mg base N qual (defScope st) f cdv A outer s H E).env (cxOf (L2.CX P w) P w K mg base N qual (defScope st) f cdv A outer s H E).xe →
      GSs (cxOf (L2.CX P w) P w K mg base N qual (defScope st) f cdv A outer s H E) E (defBody st) τ) {n : Nat} (hn : ps.length = n) {M : Nat} (hM : N.length = M) : FnOk P w K mg base (L2.CX P w) (k + 1) f fd ps (spD K mg n (bodyD M τ)) := by
  subst hn hM
  refine F.okX S (fun vs H Q E ⟨ds, w, T, h, _⟩ => h) fun cdv A outer s H vs Q E hr ⟨ds, w', T, hl, t, rs, p⟩ => ⟨_, body cdv A outer s H E hr (takes_of rfl rfl rfl rfl) (passes_of rfl), ?_⟩
  have hpl : ps.length ≤ N.length := by
    have := S.pre
    rw [← this]; simp; omega
  refine ⟨_, w', T, _, start_rel rs hl.symm hpl, t, ?_⟩
  unfold bodyD at p
  show PostS K mg E T _ H _ (τ (ds.map Slot.fz ++ List.replicate (N.length - ds.length) Slot.un) w')
  cases q : τ (ds.map Slot.fz ++ List.replicate (N.length - ds.length) Slot.un) w' with
  | nx e1 w1 => rw [q] at p; exact fun σ' H' T' A' x r t => p .non H' T' x.ext t .non
  | rt d w1 => rw [q] at p; exact fun v H' T' A' x t r => p v H' T' x.ext t r
  | ex e w1 => rw [q] at p; exact fun c o H' T' A' x t r => p c o H' T' x.ext t r
  | bk e w1 => rw [q] at p; exact p.elim
  | ct e w1 => rw [q] at p; exact p.elim
  | st => rw [q] at p; exact p.elim
end DL
namespace DL
open PySem
/-! ### reckoning with mirrors: what each step is -/
section
variable {α β : Type} {env : Env} {w : W} {e f g h : EM D} {κ μ : EM Bool} {τ ν : SM} {d x y : D} {ds es : List D} {i j n k : Int}
@[simp] theorem bind_ok (a : α) (w : W) (f : α → W → Res β) : (Res.ok a w).bind f = f a w := rfl
@[simp] theorem bind_ex (a : Ex) (w : W) (f : α → W → Res β) : (Res.ex a w : Res α).bind f = .ex a w := rfl
@[simp] theorem bind_st (f : α → W → Res β) : (Res.st : Res α).bind f = .st := rfl
@[simp] theorem obind_ok (a : α) (w : W) (f : α → W → Out) : Out.bind (Res.ok a w) f = f a w := rfl
@[simp] theorem obind_ex (a : Ex) (w : W) (f : α → W → Out) : Out.bind (Res.ex a w : Res α) f = .ex a w := rfl
@[simp] theorem obind_st (f : α → W → Out) : Out.bind (Res.st : Res α) f = .st := rfl
@[simp] theorem e_dC : dC d env w = .ok d w := rfl
def getS (o : Option Slot) (w : W) : Res D := match o with
  | some (.fz d) => .ok d w
  | some (.ow (.lst ds)) => .ok (.lst ds) w
  | _ => .st
@[simp] theorem e_getS : getS (some (.fz d)) w = .ok d w := rfl
@[simp] theorem e_getO : getS (some (.ow (.lst ds))) w = .ok (.lst ds) w := rfl
@[simp] theorem e_dVar {m : Nat} : dVar m env w = getS env[m]? w := rfl
@[simp] theorem g_0 {s : Slot} {r : List Slot} : (List.cons s r : Env)[0]? = some s := rfl
@[simp] theorem g_s {s : Slot} {r : List Slot} {m : Nat} : (List.cons s r : Env)[m + 1]? = r[m]? := rfl
@[simp] theorem e_dBin {q : D → D → M D} : dBin q e f env w = (e env w).bind fun x w => (f env w).bind fun y w => q x y w := rfl
@[simp] theorem e_dBinF {q : D → D → M (List D)} : dBinF q e f env w = (e env w).bind fun x w => (f env w).bind fun y w => q x y w := rfl
@[simp] theorem e_dTri {q : D → D → D → M α} : dTri q e f g env w = (e env w).bind fun x w => (f env w).bind fun y w => (g env w).bind fun z w => q x y z w := rfl
@[simp] theorem e_dUn {q : D → M α} : dUn q e env w = (e env w).bind q := rfl
@[simp] theorem e_dTru : dTru e env w = (e env w).bind truM := rfl
@[simp] theorem e_dB : dB e env w = (e env w).bind boolM := rfl
@[simp] theorem e_dAndT : dAndT κ μ env w = (κ env w).bind fun b w => if b then μ env w else .ok false w := rfl
@[simp] theorem e_dOrT : dOrT κ μ env w = (κ env w).bind fun b w => if b then .ok true w else μ env w := rfl
@[simp] theorem e_dNotT : dNotT κ env w = (κ env w).bind fun b w => .ok (!b) w := rfl
@[simp] theorem e_dNot : dNot e env w = (dTru e env w).bind fun b w => .ok (.bl (!b)) w := rfl
@[simp] theorem e_dAnd : dAnd e f env w = (e env w).bind fun d w => (truM d w).bind fun b w => if b then f env w else .ok d w := rfl
@[simp] theorem e_dOr : dOr e f env w = (e env w).bind fun d w => (truM d w).bind fun b w => if b then .ok d w else f env w := rfl
@[simp] theorem e_dIf : dIf κ e f env w = (κ env w).bind fun b w => if b then e env w else f env w := rfl
@[simp] theorem e_dChain {q p : D → D → M D} : dChain q p e f g env w = (e env w).bind fun x w => (f env w).bind fun y w => (q x y w).bind fun z w => (boolM z w).bind fun k w => if k then (g env w).bind fun u w => p y u w else .ok (.bl false) w := rfl
@[simp] theorem e_dNeg : dNeg e env w = (e env w).bind (unI' fun i => -i) := rfl
@[simp] theorem e_neg {i : Int} : unI' (fun i => -i) (.int i) w = .ok (.int (-i)) w := rfl
@[simp] theorem e_aNil : aNil env w = .ok [] w := rfl
@[simp] theorem e_aCons {r : EM (List D)} : aCons e r env w = (e env w).bind fun d w => (r env w).bind fun ds w => .ok (d :: ds) w := rfl
@[simp] theorem e_dTup {r : EM (List D)} : dTup r env w = (r env w).bind fun ds w => if ds.length ≤ sizeLine then .ok (.tup ds) w else .st := rfl
@[simp] theorem e_dLst {r : EM (List D)} : dLst r env w = (r env w).bind fun ds w => if ds.length ≤ sizeLine then .ok ds w else .st := rfl
@[simp] theorem e_dL {r : EM (List D)} : dL r env w = (r env w).bind fun ds w => .ok (.lst ds) w := rfl
@[simp] theorem e_oNo : oNo env w = .ok none w := rfl
@[simp] theorem e_oSo : oSo e env w = (e env w).bind intM := rfl
@[simp] theorem e_intM {i : Int} : intM (.int i) w = .ok (some i) w := rfl
@[simp] theorem e_dSl {q : D → Option Int → Option Int → M α} {lo hi : EM (Option Int)} : dSl q e lo hi env w = (e env w).bind fun d w => (lo env w).bind fun l w => (hi env w).bind fun h w => q d l h w := rfl
@[simp] theorem e_tYes : tYesM env w = .ok true w := rfl
@[simp] theorem e_dCall {m : Nat} {φ : List D → M D} {r : EM (List D)} : dCall m φ r env w = (r env w).bind fun ds w => if ds.length = m then φ ds w else .st := rfl
@[simp] theorem e_dCallK {m l : Nat} {φ : List D → M D} {r q : EM (List D)} : dCallK m l φ r q env w = (r env w).bind fun ds w => (q env w).bind fun es w => if ds.length = l ∧ (ds ++ es).length = m then φ (ds ++ es) w else .st := rfl
section
variable {φ : List D → M D} {e1 e2 e3 e4 e5 : EM D}
@[simp high] theorem dc0 : dCall 0 φ aNil env w = φ [] w := rfl
@[simp high] theorem dc1 : dCall 1 φ (aCons e1 aNil) env w = (e1 env w).bind fun a w => φ [a] w := by
  show ((e1 env w).bind _).bind _ = _
  cases e1 env w <;> rfl
@[simp high] theorem dc2 : dCall 2 φ (aCons e1 (aCons e2 aNil)) env w = (e1 env w).bind fun a w => (e2 env w).bind fun b w => φ [a, b] w := by
  simp only [e_dCall, e_aCons, e_aNil]
  cases e1 env w with
  | ok a w =>
    simp only [bind_ok]
    cases e2 env w <;> rfl
  | ex => rfl
  | st => rfl
@[simp high] theorem dc3 : dCall 3 φ (aCons e1 (aCons e2 (aCons e3 aNil))) env w = (e1 env w).bind fun a w => (e2 env w).bind fun b w => (e3 env w).bind fun c w => φ [a, b, c] w := by
  simp only [e_dCall, e_aCons, e_aNil]
  cases e1 env w with
  | ok a w => 
    simp only [bind_ok]
    cases e2 env w with
    | ok b w =>
      simp only [bind_ok]
      cases e3 env w <;> rfl
    | ex => rfl
    | st => rfl
  | ex => rfl
  | st => rfl
@[simp high] theorem dt0 : dTup aNil env w = .ok (.tup []) w := by
  simp only [e_dTup, e_aNil, bind_ok]
  exact if_pos (Nat.zero_le _)
@[simp high] theorem dt1 : dTup (aCons e1 aNil) env w = (e1 env w).bind fun a w => .ok (.tup [a]) w := by
  simp only [e_dTup, e_aCons, e_aNil]
  cases e1 env w with
  | ok a w => simp only [bind_ok]; exact if_pos (by decide : 1 ≤ sizeLine)
  | ex => rfl
  | st => rfl
@[simp high] theorem dt2 : dTup (aCons e1 (aCons e2 aNil)) env w = (e1 env w).bind fun a w => (e2 env w).bind fun b w => .ok (.tup [a, b]) w := by
  simp only [e_dTup, e_aCons, e_aNil]
  cases e1 env w with
  | ok a w =>
    simp only [bind_ok]
    cases e2 env w with
    | ok b w => simp only [bind_ok]; exact if_pos (by decide : 2 ≤ sizeLine)
    | ex => rfl
    | st => rfl
  | ex => rfl
  | st => rfl
@[simp high] theorem dt3 : dTup (aCons e1 (aCons e2 (aCons e3 aNil))) env w = (e1 env w).bind fun a w => (e2 env w).bind fun b w => (e3 env w).bind fun c w => .ok (.tup [a, b, c]) w := by
  simp only [e_dTup, e_aCons, e_aNil]
  cases e1 env w with
  | ok a w =>
    simp only [bind_ok]
    cases e2 env w with
    | ok b w =>
      simp only [bind_ok]
      cases e3 env w with
      | ok c w => simp only [bind_ok]; exact if_pos (by decide : 3 ≤ sizeLine)
      | ex => rfl
      | st => rfl
    | ex => rfl
    | st => rfl
  | ex => rfl
  | st => rfl
end
theorem sl_of {n : Nat} (h : n ≤ 16777216) : n ≤ sizeLine := by rw [PySem.sizeLine_eq]; exact h
@[simp] theorem e_sNil : sNil env w = .nx env w := rfl
@[simp] theorem e_sBreak : sBreak env w = .bk env w := rfl
@[simp] theorem e_sCont : sCont env w = .ct env w := rfl
@[simp] theorem e_sDrop : sDrop e env w = Out.bind (e env w) fun _ w => .nx env w := rfl
@[simp] theorem e_sRet : sRet e env w = Out.bind (e env w) fun d w => .rt d w := rfl
@[simp] theorem e_sIf : sIf κ τ ν env w = Out.bind (κ env w) fun b w => if b then τ env w else ν env w := rfl
def seqO (o : Out) (ν : SM) : Out := match o with
  | .nx env w => ν env w
  | o => o
@[simp] theorem e_sqn : seqO (.nx env w) ν = ν env w := rfl
@[simp] theorem e_sqr : seqO (.rt d w) ν = .rt d w := rfl
@[simp] theorem e_sqe {x : Ex} : seqO (.ex x w) ν = .ex x w := rfl
@[simp] theorem e_sqb : seqO (.bk env w) ν = .bk env w := rfl
@[simp] theorem e_sqc : seqO (.ct env w) ν = .ct env w := rfl
@[simp] theorem e_sqs : seqO .st ν = .st := rfl
@[simp] theorem e_sqi {c : Prop} [Decidable c] {o p : Out} : seqO (if c then o else p) ν = if c then seqO o ν else seqO p ν := by split <;> rfl
@[simp] theorem e_sSeq : sSeq τ ν env w = seqO (τ env w) ν := rfl
def nxO (o : Option Env) (w : W) : Out := match o with
  | some env' => .nx env' w
  | none => .st
@[simp] theorem e_nxO : nxO (some env) w = .nx env w := rfl
@[simp] theorem e_sRaise {x : Ex} : sRaise x env w = .ex x w := rfl
@[simp] theorem e_sAsg {b : TM} {al : List Nat} : sAsg b al e env w = Out.bind (e env w) fun d w => nxO (b d (frzs env al)) w := rfl
@[simp] theorem e_bName {m : Nat} : bName m d env = some (env.set m (.fz d)) := rfl
@[simp] theorem e_frzs0 : frzs env [] = env := rfl
@[simp] theorem e_frzs {m : Nat} {al : List Nat} : frzs env (m :: al) = frzs (frz1 env m) al := rfl
def frzO (o : Option Slot) (env : Env) (m : Nat) : Env := match o with
  | some (.ow (.lst ds)) => env.set m (.fz (.lst ds))
  | some (.ow _) => env.set m .un
  | _ => env
@[simp] theorem e_frzO {m : Nat} : frzO (some (.ow (.lst ds))) env m = env.set m (.fz (.lst ds)) := rfl
@[simp] theorem e_frzf {m : Nat} : frzO (some (.fz d)) env m = env := rfl
@[simp] theorem e_frzu {m : Nat} : frzO (some .un) env m = env := rfl
@[simp] theorem e_frzn {m : Nat} : frzO none env m = env := rfl
@[simp] theorem e_frz1 {m : Nat} : frz1 env m = frzO env[m]? env m := rfl
@[simp] theorem st_0 {s t : Slot} {r : List Slot} : List.set (List.cons s r : Env) 0 t = t :: r := rfl
@[simp] theorem st_s {s t : Slot} {r : List Slot} {m : Nat} : List.set (List.cons s r : Env) (m + 1) t = s :: r.set m t := rfl
@[simp] theorem e_bTup2 {b c : TM} {u v : D} : bTup 2 (bCons b (bCons c bNil)) (.tup [u, v]) env = (b u env).bind fun env => (c v env).bind some := rfl
@[simp] theorem e_bTup3 {b c b3 : TM} {u v z : D} : bTup 3 (bCons b (bCons c (bCons b3 bNil))) (.tup [u, v, z]) env = (b u env).bind fun env => (c v env).bind fun env => (b3 z env).bind some := rfl
@[simp] theorem e_bTup2l {b c : TM} {u v : D} : bTup 2 (bCons b (bCons c bNil)) (.lst [u, v]) env = (b u env).bind fun env => (c v env).bind some := rfl
@[simp] theorem e_sOwn {m : Nat} {ac : List Nat} {r : EM (List D)} : sOwn m ac r env w = Out.bind (r env w) fun ds w => .nx ((frzs env ac).set m (.ow (.lst ds))) w := rfl
def ownO (o : Option Slot) : Option (List D) := match o with
  | some (.ow (.lst ds)) => some ds
  | _ => none
@[simp] theorem e_ownO : ownO (some (.ow (.lst ds))) = some ds := rfl
@[simp] theorem e_ownL {m : Nat} : ownL env m = ownO env[m]? := rfl
def app1 (o : Option (List D)) (r : Out) : Out := match o with
  | none => .st
  | some _ => r
@[simp] theorem e_app1 {r : Out} : app1 (some ds) r = r := rfl
def app2 (o : Option (List D)) (env : Env) (m : Nat) (d : D) (w : W) : Out := match o with
  | some ds => if ds.length < sizeLine then .nx (env.set m (.ow (.lst (ds ++ [d])))) w else .st
  | none => .st
@[simp] theorem e_app2 {m : Nat} : app2 (some ds) env m d w = if ds.length < sizeLine then .nx (env.set m (.ow (.lst (ds ++ [d])))) w else .st := rfl
@[simp] theorem e_sApp {m : Nat} {al : List Nat} : sApp m al e env w = app1 (ownL env m) (Out.bind (e env w) fun d w => app2 (ownL (frzs env al) m) (frzs env al) m d w) := by
  unfold sApp app1 app2
  cases ownL env m <;> rfl
@[simp] theorem e_kNil : kNil env w = .ok [] w := rfl
@[simp] theorem e_kOwn {r : EM (List PK1)} : kOwn r env w = (r env w).bind fun ks w => .ok (.nil :: ks) w := rfl
@[simp] theorem e_kVal {r : EM (List PK1)} : kVal e r env w = (e env w).bind fun d w => (r env w).bind fun ks w => .ok (.val d :: ks) w := rfl
@[simp] theorem e_sPar {is al : List Nat} {r : EM (List PK1)} : sPar is al r env w = Out.bind (r env w) fun ks w => if al.all (· < env.length) then nxO (setK is ks (frzs env al)) w else .st := rfl
@[simp] theorem e_setK {m : Nat} {ms : List Nat} {k : PK1} {ks : List PK1} : setK (m :: ms) (k :: ks) env = if m < env.length then setK ms ks (env.set m (kSlot k)) else none := by simp [setK]
@[simp] theorem e_setK0 : setK [] [] env = some env := rfl
@[simp] theorem e_kS : kSlot (.val d) = .fz d := rfl
@[simp] theorem e_kSn : kSlot .nil = .ow (.lst []) := rfl
theorem e_sFor {al : List Nat} {it : EM (List D)} {b : TM} : sFor al it b τ env w = Out.bind (it env w) fun ds w => forM b τ ds (frzs env al) w := rfl
theorem e_sWhile {m : Nat} : sWhile m κ τ env w = whileM κ τ m env w := rfl
theorem e_dComp3 {ac ac3 vs : List Nat} {it : EM (List D)} {b : TM} : dComp3 ac ac3 vs it b κ e env w = if ac3.all (· < env.length) then (it env w).bind fun ds w => if ds.length ≤ sizeLine ∧ noOw (frzs env ac) vs = true then noX (compM b κ e ds (wipeE (frzs env ac) vs) w) else .st else .st := rfl
theorem e_dCompX {ac ac3 vs : List Nat} {it : EM (List D)} {b : TM} : dCompX ac ac3 vs it b κ e env w = if ac3.all (· < env.length) then (it env w).bind fun ds w => if ds.length ≤ sizeLine ∧ noOw (frzs env ac) vs = true then compM b κ e ds (wipeE (frzs env ac) vs) w else .st else .st := rfl
@[simp] theorem e_noX (a : α) (w : W) : noX (.ok a w) = .ok a w := rfl
@[simp] theorem e_wipe0 : wipeE env [] = env := rfl
@[simp] theorem e_wipe {m : Nat} {vs : List Nat} : wipeE env (m :: vs) = (wipeE env vs).set m .un := rfl
@[simp] theorem e_dOrF {r q : EM (List D)} : dOrF r q env w = (r env w).bind fun ds w => if ds.isEmpty then q env w else .ok ds w := rfl
@[simp] theorem e_dBox {r : EM (List D)} : dBox r env w = (r env w).bind boxM := rfl
@[simp] theorem e_boxM {a b c : Int} : boxM [.int a, .int b, .int c] w = .ok (.box w.length) (w ++ [(a, b, c)]) := rfl
def endO (o : Out) : Res D := match o with
  | .nx _ w => .ok .non w
  | .rt d w => .ok d w
  | .ex e w => .ex e w
  | _ => .st
@[simp] theorem e_endn : endO (.nx env w) = .ok .non w := rfl
@[simp] theorem e_endr : endO (.rt d w) = .ok d w := rfl
@[simp] theorem e_endx {x : Ex} : endO (.ex x w) = .ex x w := rfl
theorem e_body {N : Nat} : bodyD N τ ds w = endO (τ (ds.map .fz ++ List.replicate (N - ds.length) .un) w) := rfl
/-! the boxes -/
@[simp] theorem w_0 {t : Int × Int × Int} {r : List (Int × Int × Int)} : (List.cons t r : W)[0]? = some t := rfl
@[simp] theorem w_s0 {t u : Int × Int × Int} {r : List (Int × Int × Int)} : List.set (List.cons t r : W) 0 u = u :: r := rfl
def boxO (o : Option Slot) (k : EM D) (env : Env) (w : W) (d : D) : Out := match o with
  | some (.fz (.box b)) => Out.bind (k env w) fun q w => setW env w b d q w[b]?
  | _ => .st
@[simp] theorem e_boxO {b : Nat} : boxO (some (.fz (.box b))) e env w d = Out.bind (e env w) fun q w => setW env w b d q w[b]? := rfl
@[simp] theorem e_sBoxSet {m : Nat} : sBoxSet m e f env w = Out.bind (f env w) fun d w => boxO env[m]? e env w d := rfl
@[simp] theorem e_setW0 {b : Nat} {v : Int} {t : Int × Int × Int} : setW env w b (.int v) (.int 0) (some t) = .nx env (w.set b (v, t.2.1, t.2.2)) := rfl
@[simp] theorem e_setW1 {b : Nat} {v : Int} {t : Int × Int × Int} : setW env w b (.int v) (.int 1) (some t) = .nx env (w.set b (t.1, v, t.2.2)) := rfl
@[simp] theorem e_setW2 {b : Nat} {v : Int} {t : Int × Int × Int} : setW env w b (.int v) (.int 2) (some t) = .nx env (w.set b (t.1, t.2.1, v)) := rfl
@[simp] theorem ix_box0 {t : Int × Int × Int} {r : W} : ixD (.box 0) (.int 0) (List.cons t r : W) = .ok (.int t.1) (t :: r) := rfl
@[simp] theorem ix_box1 {t : Int × Int × Int} {r : W} : ixD (.box 0) (.int 1) (List.cons t r : W) = .ok (.int t.2.1) (t :: r) := rfl
@[simp] theorem ix_box2 {t : Int × Int × Int} {r : W} : ixD (.box 0) (.int 2) (List.cons t r : W) = .ok (.int t.2.2) (t :: r) := rfl
/-! operations -/
@[simp] theorem e_add : addD (.int i) (.int j) w = .ok (.int (i + j)) w := rfl
@[simp] theorem e_sub : subD (.int i) (.int j) w = .ok (.int (i - j)) w := by simp [subD, intG, tt2]
@[simp] theorem e_lt : ltD (.int i) (.int j) w = .ok (.bl (decide (i < j))) w := by simp [ltD, intG, tt2]
@[simp] theorem e_le : leD (.int i) (.int j) w = .ok (.bl (decide (i ≤ j))) w := by simp [leD, intG, tt2]
@[simp] theorem e_gt : gtD (.int i) (.int j) w = .ok (.bl (decide (j < i))) w := by simp [gtD, intG, tt2]
@[simp] theorem e_ge : geD (.int i) (.int j) w = .ok (.bl (decide (j ≤ i))) w := by simp [geD, intG, tt2]
@[simp] theorem e_max : maxD (.int i) (.int j) w = .ok (.int (if j > i then j else i)) w := by simp [maxD, intG, tt2]
@[simp] theorem e_min : minD (.int i) (.int j) w = .ok (.int (if j < i then j else i)) w := by simp [minD, intG, tt2]
theorem e_mod (h : j ≠ 0) : modD (.int i) (.int j) w = .ok (.int (i.fmod j)) w := by simp [modD, intG, h]
theorem e_modp (h : 0 < j) : modD (.int i) (.int j) w = .ok (.int (i % j)) w := by
  rw [e_mod (by omega), Int.fmod_eq_emod_of_nonneg _ (by omega)]
theorem log2_lt {n : Nat} (h : n < 2 ^ 9000) : n.log2 < 9000 := by
  by_cases e : n = 0
  · subst e; decide
  · exact (Nat.log2_lt e).mpr h
theorem e_divp (h : 0 < j) (h2 : j < 2 ^ 9000) : divD (.int i) (.int j) w = .ok (.int (i / j)) w := by
  have c : CDivD i j := ⟨by omega, log2_lt (by omega)⟩
  simp only [divD, intG, c, if_true]
  rw [Int.fdiv_eq_ediv_of_nonneg _ (by omega)]
theorem e_mull (h : -(2 ^ 64) < i) (h2 : i < 2 ^ 64) : mulD (.int i) (.int j) w = .ok (.int (i * j)) w := by
  have c : CMulD i j := .inl ⟨h, h2⟩
  simp only [mulD, intG, c, if_true]
theorem e_mulr (h : -(2 ^ 64) < j) (h2 : j < 2 ^ 64) : mulD (.int i) (.int j) w = .ok (.int (i * j)) w := by
  have c : CMulD i j := .inr (.inl ⟨h, h2⟩)
  simp only [mulD, intG, c, if_true]
@[simp] theorem e_int {i : Int} : toIntD (.int i) w = .ok (.int i) w := rfl
@[simp] theorem e_intb {b : Bool} : toIntD (.bl b) w = .ok (.int (if b then 1 else 0)) w := rfl
@[simp] theorem e_abs : absD (.int i) w = .ok (.int (if i < 0 then -i else i)) w := rfl
@[simp] theorem e_lenT : lenD (.tup ds) w = .ok (.int ds.length) w := rfl
@[simp] theorem e_lenL : lenD (.lst ds) w = .ok (.int ds.length) w := rfl
@[simp] theorem e_truB {b : Bool} : truM (.bl b) w = .ok b w := rfl
@[simp] theorem e_boolM {b : Bool} : boolM (.bl b) w = .ok b w := rfl
@[simp] theorem e_seqT : seqM (.tup ds) w = .ok ds w := rfl
@[simp] theorem e_seqL : seqM (.lst ds) w = .ok ds w := rfl
@[simp] theorem e_revT : revM (.tup ds) w = .ok ds.reverse w := rfl
@[simp] theorem e_revL : revM (.lst ds) w = .ok ds.reverse w := rfl
@[simp] theorem e_enT : enumM (.tup ds) w = .ok (enumD 0 ds) w := rfl
@[simp] theorem e_enL : enumM (.lst ds) w = .ok (enumD 0 ds) w := rfl
@[simp] theorem e_tupL : tupleD (.lst ds) w = .ok (.tup ds) w := rfl
@[simp] theorem e_isi {cs : List String} : isiD cs d w = match tyD d with
  | some t => .ok (.bl (cs.any (subTy t))) w
  | none => .st := by unfold isiD; split <;> rename_i h <;> simp [h]
theorem toP_int {i : Int} : toP (.int i) = .int i := rfl
theorem eqv_int : eqvD (.int i) (.int j) = decide (i = j) := by
  show PyData.eqv (.int i) (.int j) = _
  simp only [PyData.eqv]
  by_cases h : i = j <;> simp [h]
@[simp] theorem sh_int : shD (.int i) = true := rfl
@[simp] theorem e_eqI : eqD (.int i) (.int j) w = .ok (.bl (decide (i = j))) w := by
  unfold eqD; rw [sh_int, sh_int, eqv_int]; rfl
@[simp] theorem e_neI : neD (.int i) (.int j) w = .ok (.bl (decide (i ≠ j))) w := by
  unfold neD; rw [sh_int, sh_int, eqv_int]; simp
end
end DL
namespace DL
open PySem
/-! ### loops, comprehensions: how they end -/
theorem comp_map {b : TM} {κ : EM Bool} {e : EM D} {env : Env} {w : W} (f : D → D) : ∀ ds : List D, (∀ d ∈ ds, ∃ env', b d env = some env' ∧ κ env' w = .ok true w ∧ e env' w = .ok (f d) w) → compM b κ e ds env w = .ok (ds.map f) w
  | [], _ => rfl
  | d :: ds, h => by
    obtain ⟨env', h1, h2, h3⟩ := h d List.mem_cons_self
    unfold compM
    rw [h1]
    simp only [h2, h3, bind_ok, if_true, comp_map f ds fun d hd => h d (List.mem_cons_of_mem _ hd), List.map_cons]
theorem comp_filter {b : TM} {κ : EM Bool} {e : EM D} {env : Env} {w : W} (p : D → Bool) (f : D → D) : ∀ ds : List D, (∀ d ∈ ds, ∃ env', b d env = some env' ∧ κ env' w = .ok (p d) w ∧ (p d = true → e env' w = .ok (f d) w)) → compM b κ e ds env w = .ok ((ds.filter p).map f) w
  | [], _ => rfl
  | d :: ds, h => by
    obtain ⟨env', h1, h2, h3⟩ := h d List.mem_cons_self
    have ih := comp_filter p f ds fun d hd => h d (List.mem_cons_of_mem _ hd)
    unfold compM
    rw [h1]
    cases q : p d with
    | true =>
      rw [q] at h2
      simp only [h2, h3 q, bind_ok, if_true, ih, List.filter_cons, q, List.map_cons]
    | false =>
      rw [q] at h2
      simp [h2, bind_ok, ih, List.filter_cons, q]
/-- with what stands behind each turn -/
theorem comp_inv {b : TM} {κ : EM Bool} {e : EM D} {env : Env} (I : List D → W → Prop) : ∀ (ds : List D) (acc : List D) (w : W), I acc w → (∀ d ∈ ds, ∀ acc w, I acc w → ∃ env' y w', b d env = some env' ∧ κ env' w = .ok true w ∧ e env' w = .ok y w' ∧ I (acc ++ [y]) w') →
    ∃ ys w', compM b κ e ds env w = .ok ys w' ∧ ys.length = ds.length ∧ I (acc ++ ys) w'
  | [], acc, w, h0, _ => ⟨[], w, rfl, rfl, by rw [List.append_nil]; exact h0⟩
  | d :: ds, acc, w, h0, h => by
    obtain ⟨env', y, w1, h1, h2, h3, h4⟩ := h d List.mem_cons_self acc w h0
    obtain ⟨ys, w2, h5, h6, h7⟩ := comp_inv I ds (acc ++ [y]) w1 h4 fun d hd => h d (List.mem_cons_of_mem _ hd)
    refine ⟨y :: ys, w2, ?_, by simp [h6], by rw [List.append_assoc] at h7; exact h7⟩
    unfold compM
    rw [h1]
    simp only [h2, h3, bind_ok, if_true, h5]
/-- a for that runs to its end -/
theorem for_inv {b : TM} {τ : SM} (I : List D → Env → W → Prop) : ∀ (ds acc : List D) (env : Env) (w : W), I acc env w → (∀ d ∈ ds, ∀ acc env w, I acc env w → ∃ env1 env' w', b d env = some env1 ∧ (τ env1 w = .nx env' w' ∨ τ env1 w = .ct env' w') ∧ I (acc ++ [d]) env' w') →
    ∃ env' w', forM b τ ds env w = .nx env' w' ∧ I (acc ++ ds) env' w'
  | [], acc, env, w, h0, _ => ⟨env, w, rfl, by rw [List.append_nil]; exact h0⟩
  | d :: ds, acc, env, w, h0, h => by
    obtain ⟨env1, env', w', h1, h2, h3⟩ := h d List.mem_cons_self acc env w h0
    obtain ⟨env2, w2, h4, h5⟩ := for_inv I ds (acc ++ [d]) env' w' h3 fun d hd => h d (List.mem_cons_of_mem _ hd)
    refine ⟨env2, w2, ?_, by rw [List.append_assoc] at h5; exact h5⟩
    unfold forM
    rw [h1]
    rcases h2 with h2 | h2
    · simp only [h2]; exact h4
    · simp only [h2]; exact h4
theorem mem_rng {lo : Int} {n : Nat} {d : D} (h : d ∈ rngL lo 1 n) : ∃ k : Nat, k < n ∧ d = .int (lo + k) := by
  unfold rngL at h
  obtain ⟨k, hk, rfl⟩ := List.mem_map.mp h
  exact ⟨k, List.mem_range.mp hk, by rw [Int.mul_one]⟩
theorem len_rng {lo c : Int} {n : Nat} : (rngL lo c n).length = n := by simp [rngL]
theorem rng_map {lo : Int} {n : Nat} : rngL lo 1 n = (List.range n).map fun (k : Nat) => D.int (lo + k) := by
  unfold rngL
  refine List.map_congr_left fun k _ => ?_
  rw [Int.mul_one]
theorem e_rng1 {j : Int} {w : W} (h : -(2 ^ 62) ≤ j) (h2 : j < 2 ^ 62) : rng1 (.int j) w = .ok (rngL 0 1 j.toNat) w := by
  have : b62 j = true := by unfold b62; simp; omega
  simp only [rng1, this, if_true]
theorem e_rng2 {i j : Int} {w : W} (h : -(2 ^ 62) ≤ j) (h2 : j < 2 ^ 62) (h3 : -(2 ^ 62) ≤ i) (h4 : i < 2 ^ 62) : rng2 (.int i) (.int j) w = .ok (rngL i 1 (j - i).toNat) w := by
  have a : b62 j = true := by unfold b62; simp; omega
  have b : b62 i = true := by unfold b62; simp; omega
  simp only [rng2, a, b, Bool.and_self, if_true]
theorem bls_map (l : List Bool) : blsOf (l.map .bl) = some l := by
  induction l with
  | nil => rfl
  | cons b l ih => simp [blsOf, ih]
theorem e_all {l : List Bool} {w : W} : allD (.lst (l.map .bl)) w = .ok (.bl (l.all id)) w := by
  simp only [allD, lstB, bls_map]
theorem e_any {l : List Bool} {w : W} : anyD (.lst (l.map .bl)) w = .ok (.bl (l.any id)) w := by
  simp only [anyD, lstB, bls_map]
theorem e_allm {α : Type} {g : α → Bool} {l : List α} {w : W} : allD (.lst (l.map fun a => D.bl (g a))) w = .ok (.bl (l.all g)) w := by
  have : (l.map fun a => D.bl (g a)) = (l.map g).map .bl := by simp
  rw [this, e_all]; simp
theorem e_anym {α : Type} {g : α → Bool} {l : List α} {w : W} : anyD (.lst (l.map fun a => D.bl (g a))) w = .ok (.bl (l.any g)) w := by
  have : (l.map fun a => D.bl (g a)) = (l.map g).map .bl := by simp
  rw [this, e_any]; simp
theorem ints_map (l : List Int) : intsOf (l.map .int) = some l := by
  induction l with
  | nil => rfl
  | cons b l ih => simp [intsOf, ih]
theorem ix_t {ds : List D} {i : Int} {d : D} {w : W} (h : 0 ≤ i) (h2 : ds[i.toNat]? = some d) : ixD (.tup ds) (.int i) w = .ok d w := by
  obtain ⟨j, rfl⟩ := Int.eq_ofNat_of_zero_le h
  have := L2.atI_nat (xs := ds) (j := j) h2
  simp only [ixD, this]
theorem ix_l {ds : List D} {i : Int} {d : D} {w : W} (h : 0 ≤ i) (h2 : ds[i.toNat]? = some d) : ixD (.lst ds) (.int i) w = .ok d w := by
  obtain ⟨j, rfl⟩ := Int.eq_ofNat_of_zero_le h
  have := L2.atI_nat (xs := ds) (j := j) h2
  simp only [ixD, this]
@[simp] theorem ix_t0 {d : D} {ds : List D} {w : W} : ixD (.tup (d :: ds)) (.int 0) w = .ok d w := ix_t (by omega) rfl
@[simp] theorem ix_t1 {d e : D} {ds : List D} {w : W} : ixD (.tup (d :: e :: ds)) (.int 1) w = .ok e w := ix_t (by omega) rfl
@[simp] theorem ix_t2 {d e f : D} {ds : List D} {w : W} : ixD (.tup (d :: e :: f :: ds)) (.int 2) w = .ok f w := ix_t (by omega) rfl
theorem ix_ints {l : List Int} {i : Int} {w : W} (h : 0 ≤ i) (h2 : i < l.length) : ixD (.tup (l.map .int)) (.int i) w = .ok (.int (l.getD i.toNat 0)) w := by
  refine ix_t h ?_
  have : i.toNat < l.length := by omega
  simp [List.getElem?_eq_getElem this]
theorem comp3_map {ac ac3 vs : List Nat} {it : EM (List D)} {b : TM} {κ : EM Bool} {e : EM D} {env : Env} {w w1 : W} {ds : List D} (f : D → D) (hac : ac3.all (· < env.length) = true) (hi : it env w = .ok ds w1) (hz : ds.length ≤ sizeLine) (hn : noOw (frzs env ac) vs = true)
    (h : ∀ d ∈ ds, ∃ env', b d (wipeE (frzs env ac) vs) = some env' ∧ κ env' w1 = .ok true w1 ∧ e env' w1 = .ok (f d) w1) : dComp3 ac ac3 vs it b κ e env w = .ok (ds.map f) w1 := by
  simp only [e_dComp3, hac, if_true, hi, bind_ok]
  rw [if_pos ⟨hz, hn⟩, comp_map f ds h]; rfl
theorem comp3_filter {ac ac3 vs : List Nat} {it : EM (List D)} {b : TM} {κ : EM Bool} {e : EM D} {env : Env} {w w1 : W} {ds : List D} (p : D → Bool) (f : D → D) (hac : ac3.all (· < env.length) = true) (hi : it env w = .ok ds w1) (hz : ds.length ≤ sizeLine) (hn : noOw (frzs env ac) vs = true)
    (h : ∀ d ∈ ds, ∃ env', b d (wipeE (frzs env ac) vs) = some env' ∧ κ env' w1 = .ok (p d) w1 ∧ (p d = true → e env' w1 = .ok (f d) w1)) : dComp3 ac ac3 vs it b κ e env w = .ok ((ds.filter p).map f) w1 := by
  simp only [e_dComp3, hac, if_true, hi, bind_ok]
  rw [if_pos ⟨hz, hn⟩, comp_filter p f ds h]; rfl
theorem comp3_inv {ac ac3 vs : List Nat} {it : EM (List D)} {b : TM} {κ : EM Bool} {e : EM D} {env : Env} {w w1 : W} {ds : List D} (I : List D → W → Prop) (hac : ac3.all (· < env.length) = true) (hi : it env w = .ok ds w1) (hz : ds.length ≤ sizeLine) (hn : noOw (frzs env ac) vs = true) (h0 : I [] w1)
    (h : ∀ d ∈ ds, ∀ acc w, I acc w → ∃ env' y w', b d (wipeE (frzs env ac) vs) = some env' ∧ κ env' w = .ok true w ∧ e env' w = .ok y w' ∧ I (acc ++ [y]) w') : ∃ ys w', dComp3 ac ac3 vs it b κ e env w = .ok ys w' ∧ ys.length = ds.length ∧ I ys w' := by
  obtain ⟨ys, w', h1, h2, h3⟩ := comp_inv (b := b) (κ := κ) (e := e) (env := wipeE (frzs env ac) vs) I ds [] w1 h0 h
  refine ⟨ys, w', ?_, h2, by simpa using h3⟩
  simp only [e_dComp3, hac, if_true, hi, bind_ok]
  rw [if_pos ⟨hz, hn⟩, h1]; rfl
/-! ### a box of draws -/
def BI (w : W) (m : Int) : Prop := ∃ a b c, w = [(a, b, c)] ∧ 0 ≤ a ∧ 0 ≤ c ∧ c ≤ m
theorem BI.mono {w : W} {m m' : Int} (h : BI w m) (l : m ≤ m') : BI w m' := by
  obtain ⟨a, b, c, e, h1, h2, h3⟩ := h
  exact ⟨a, b, c, e, h1, h2, by omega⟩
end DL
namespace DL
open PySem
theorem toPs_cons {d : D} {ds : List D} : toPs (d :: ds) = toP d :: toPs ds := rfl
theorem ok_ints : ∀ l : List Int, okPs (l.map .int) = true
  | [] => rfl
  | i :: l => by
    show (okP (.int i) && okPs (l.map .int)) = true
    rw [ok_ints l]; rfl
theorem lay_ints : ∀ l : List Int, PyData.canLayAll0 (toPs (l.map .int)) = true
  | [] => rfl
  | i :: l => by
    show (PyData.canLay0 (.int i) && PyData.canLayAll0 (toPs (l.map .int))) = true
    rw [lay_ints l]; rfl
theorem dep_ints : ∀ l : List Int, PyData.depthAll (toPs (l.map .int)) = 0
  | [] => rfl
  | i :: l => by
    show max (PyData.depth (.int i)) (PyData.depthAll (toPs (l.map .int))) = 0
    rw [dep_ints l]; rfl
theorem sh_lints (l : List Int) : shD (.lst (l.map .int)) = true := by
  show (okPs (l.map .int) && SeqAt.shaped (.list (toPs (l.map .int)))) = true
  have : SeqAt.shaped (.list (toPs (l.map .int))) = true := by
    show (PyData.canLayAll0 (toPs (l.map .int)) && decide (PyData.depthAll (toPs (l.map .int)) + 1 ≤ 64)) = true
    rw [lay_ints, dep_ints]; rfl
  rw [ok_ints, this]; rfl
theorem sh_tints (l : List Int) : shD (.tup (l.map .int)) = true := by
  show (okPs (l.map .int) && SeqAt.shaped (.tuple (toPs (l.map .int)))) = true
  have : SeqAt.shaped (.tuple (toPs (l.map .int))) = true := by
    show (PyData.canLayAll0 (toPs (l.map .int)) && decide (PyData.depthAll (toPs (l.map .int)) + 1 ≤ 64)) = true
    rw [lay_ints, dep_ints]; rfl
  rw [ok_ints, this]; rfl
theorem eqv_ints : ∀ l m : List Int, PyData.eqvAll (toPs (l.map .int)) (toPs (m.map .int)) = decide (l = m)
  | [], [] => rfl
  | [], _ :: _ => rfl
  | _ :: _, [] => rfl
  | i :: l, j :: m => by
    show (PyData.eqv (.int i) (.int j) && PyData.eqvAll (toPs (l.map .int)) (toPs (m.map .int))) = _
    rw [eqv_ints l m, PyData.eqv.eq_def]
    show ((i == j) && decide (l = m)) = decide (i :: l = j :: m)
    by_cases h : i = j <;> simp [h]
theorem e_eqLI {l m : List Int} {w : W} : eqD (.lst (l.map .int)) (.lst (m.map .int)) w = .ok (.bl (decide (l = m))) w := by
  unfold eqD
  rw [sh_lints, sh_lints]
  show Res.ok (D.bl (PyData.eqvAll (toPs (l.map .int)) (toPs (m.map .int)))) w = _
  rw [eqv_ints]
theorem e_eqTI {l m : List Int} {w : W} : eqD (.tup (l.map .int)) (.tup (m.map .int)) w = .ok (.bl (decide (l = m))) w := by
  unfold eqD
  rw [sh_tints, sh_tints]
  show Res.ok (D.bl (PyData.eqvAll (toPs (l.map .int)) (toPs (m.map .int)))) w = _
  rw [eqv_ints]
theorem e_neLI {l m : List Int} {w : W} : neD (.lst (l.map .int)) (.lst (m.map .int)) w = .ok (.bl (decide (l ≠ m))) w := by
  unfold neD
  rw [sh_lints, sh_lints]
  show Res.ok (D.bl (!PyData.eqvAll (toPs (l.map .int)) (toPs (m.map .int)))) w = _
  rw [eqv_ints]; simp
theorem e_neTI {l m : List Int} {w : W} : neD (.tup (l.map .int)) (.tup (m.map .int)) w = .ok (.bl (decide (l ≠ m))) w := by
  unfold neD
  rw [sh_tints, sh_tints]
  show Res.ok (D.bl (!PyData.eqvAll (toPs (l.map .int)) (toPs (m.map .int)))) w = _
  rw [eqv_ints]; simp
theorem e_eqB {a b : Bool} {w : W} : eqD (.bl a) (.bl b) w = .ok (.bl (decide (a = b))) w := by cases a <;> cases b <;> rfl
theorem e_neB {a b : Bool} {w : W} : neD (.bl a) (.bl b) w = .ok (.bl (decide (a ≠ b))) w := by cases a <;> cases b <;> rfl
end DL
namespace DL
open PySem
theorem mem_enumD : ∀ {ds : List D} {k : Nat} {d : D}, d ∈ enumD k ds → ∃ (i : Nat) (x : D), i < ds.length ∧ x ∈ ds ∧ d = .tup [.int ((k + i : Nat)), x]
  | [], _, _, h => by cases h
  | y :: ds, k, d, h => by
    rcases List.mem_cons.mp h with h | h
    · exact ⟨0, y, by simp, by simp, h⟩
    · obtain ⟨i, x, h1, h2, h3⟩ := mem_enumD h
      refine ⟨i + 1, x, by simp; omega, List.mem_cons_of_mem _ h2, ?_⟩
      rw [h3]; congr 4; omega
theorem cut1_nil : cutG ([].map D.int) none (some 1) = [] := rfl
theorem cut1_cons {n : Int} {ns : List Int} : cutG ((n :: ns).map D.int) none (some 1) = [.int n] := by
  unfold cutG HT.sIx
  simp [show min 1 (ns.length + 1) = 1 by omega]
theorem cutR_len {ds : List D} {lo : Option Int} {m : Nat} : (cutG ds lo (some (m : Int))).length ≤ m := by
  unfold cutG HT.sIx
  have h : ¬ ((m : Int) < 0) := by omega
  simp only [h, if_false, Int.toNat_natCast, List.length_take]
  omega
theorem cut_mem {ds : List D} {lo hi : Option Int} {d : D} (h : d ∈ cutG ds lo hi) : d ∈ ds := List.mem_of_mem_drop (List.mem_of_mem_take h)
theorem abs_nn (c : Int) : 0 ≤ (if c < 0 then -c else c) := by split <;> omega
end DL
namespace DL
open PySem
/-! ### fractions -/
def fq (q : Rat) : D := .tup [.int q.num, .int q.den]
theorem fmod_natAbs_lt {a b : Int} (h : b ≠ 0) : (a.fmod b).natAbs < b.natAbs := by
  by_cases hb : 0 < b
  · have := Int.fmod_nonneg_of_pos a hb
    have := Int.fmod_lt_of_pos a hb
    omega
  · have h1 : 0 < -b := by omega
    have e : a.fmod b = -((-a).fmod (-b)) := by
      rw [Int.neg_fmod_neg]; omega
    have := Int.fmod_nonneg_of_pos (-a) h1
    have := Int.fmod_lt_of_pos (-a) h1
    omega
theorem gcd_fmod {a b : Int} : Int.gcd b (a.fmod b) = Int.gcd a b := by
  have e : a.fmod b = a - b * a.fdiv b := Int.fmod_def a b
  rw [e, Int.gcd_comm a b]
  have : a - b * a.fdiv b = a + b * (-(a.fdiv b)) := by rw [Int.mul_neg]; omega
  rw [this]; simp
theorem normal_num {n : Int} {d : Nat} (h : d ≠ 0) : (mkRat n d).num = n / (Nat.gcd n.natAbs d : Nat) ∧ (mkRat n d).den = d / Nat.gcd n.natAbs d := by
  rw [← Rat.normalize_eq_mkRat h, Rat.normalize_eq h]
  exact ⟨rfl, rfl⟩
theorem fq_mk {n : Int} {d : Nat} (h : d ≠ 0) : fq (mkRat n d) = .tup [.int (n / (Int.gcd n d : Int)), .int ((d : Int) / (Int.gcd n d : Int))] := by
  obtain ⟨h1, h2⟩ := normal_num (n := n) h
  unfold fq
  rw [h1, h2, Int.natCast_ediv]
  rfl
theorem den_add (q r : Rat) : (q + r).den ∣ q.den * r.den := by
  rw [Rat.add_def, Rat.normalize_eq]
  exact ⟨_, (Nat.div_mul_cancel (Nat.gcd_dvd_right _ _)).symm⟩
theorem den_mul (q r : Rat) : (q * r).den ∣ q.den * r.den := by
  rw [Rat.mul_def, Rat.normalize_eq]
  exact ⟨_, (Nat.div_mul_cancel (Nat.gcd_dvd_right _ _)).symm⟩
theorem half_lt {a r : Int} (h0 : 0 < r) (h1 : r < a) : 2 * (a % r) < a := by
  have h2 := Int.emod_lt_of_pos a h0
  have h3 := Int.mul_ediv_add_emod a r
  have h4 : 1 ≤ a / r := by
    have := Int.ediv_le_ediv h0 (Int.le_of_lt h1)
    rwa [Int.ediv_self (by omega)] at this
  have h5 : r * 1 ≤ r * (a / r) := Int.mul_le_mul_of_nonneg_left h4 (by omega)
  omega
theorem gcd_emod {a b : Int} : Int.gcd b (a % b) = Int.gcd a b := by
  have e : a % b = a + b * (-(a / b)) := by
    have := Int.mul_ediv_add_emod a b
    rw [Int.mul_neg]; omega
  rw [e, Int.gcd_comm a b]; simp
theorem for_nx {b : TM} {τ : SM} {d : D} {ds : List D} {env env1 env2 : Env} {w w2 : W} (h : b d env = some env1) (h2 : τ env1 w = .nx env2 w2) : forM b τ (d :: ds) env w = forM b τ ds env2 w2 := by
  conv => lhs; unfold forM
  rw [h]; simp only [h2]
theorem for_ct {b : TM} {τ : SM} {d : D} {ds : List D} {env env1 env2 : Env} {w w2 : W} (h : b d env = some env1) (h2 : τ env1 w = .ct env2 w2) : forM b τ (d :: ds) env w = forM b τ ds env2 w2 := by
  conv => lhs; unfold forM
  rw [h]; simp only [h2]
theorem for_bk {b : TM} {τ : SM} {d : D} {ds : List D} {env env1 env2 : Env} {w w2 : W} (h : b d env = some env1) (h2 : τ env1 w = .bk env2 w2) : forM b τ (d :: ds) env w = .nx env2 w2 := by
  conv => lhs; unfold forM
  rw [h]; simp only [h2]
theorem for_nil {b : TM} {τ : SM} {env : Env} {w : W} : forM b τ [] env w = .nx env w := rfl
end DL
namespace DL
/-- a comprehension with what stands behind each turn -/
theorem comp3_inv3 {ac ac3 vs : List Nat} {it : EM (List D)} {b : TM} {κ : EM Bool} {e : EM D} {env : Env} {w w1 : W} {ds : List D} (I : List D → W → Prop) (hac : ac3.all (· < env.length) = true) (hi : it env w = .ok ds w1) (hz : ds.length ≤ PySem.sizeLine) (hn : noOw (frzs env ac) vs = true) (h0 : I [] w1)
    (h : ∀ d ∈ ds, ∀ acc w, acc.length < ds.length → I acc w → ∃ env' y w', b d (wipeE (frzs env ac) vs) = some env' ∧ κ env' w = .ok true w ∧ e env' w = .ok y w' ∧ I (acc ++ [y]) w') : ∃ ys w', dComp3 ac ac3 vs it b κ e env w = .ok ys w' ∧ ys.length = ds.length ∧ I ys w' := by
  have key : ∀ (ds2 acc : List D) (w : W), acc.length + ds2.length ≤ ds.length → I acc w → (∀ d ∈ ds2, d ∈ ds) → ∃ ys w', compM b κ e ds2 (wipeE (frzs env ac) vs) w = .ok ys w' ∧ ys.length = ds2.length ∧ I (acc ++ ys) w' := by
    intro ds2
    induction ds2 with
    | nil => intro acc w _ h0 _; exact ⟨[], w, rfl, rfl, by rw [List.append_nil]; exact h0⟩
    | cons d ds2 ih =>
      intro acc w hm h0 hd
      simp only [List.length_cons] at hm
      obtain ⟨env', y, w1, h1, h2, h3, h4⟩ := h d (hd d List.mem_cons_self) acc w (by omega) h0
      obtain ⟨ys, w2, h5, h6, h7⟩ := ih (acc ++ [y]) w1 (by simp; omega) h4 fun q hq => hd q (List.mem_cons_of_mem _ hq)
      refine ⟨y :: ys, w2, ?_, by simp [h6], by rw [List.append_assoc] at h7; exact h7⟩
      unfold compM
      rw [h1]
      simp only [h2, h3, bind_ok, if_true, h5]
  obtain ⟨ys, w', h1, h2, h3⟩ := key ds [] w1 (by simp) h0 fun d h => h
  refine ⟨ys, w', ?_, h2, by simpa using h3⟩
  simp only [e_dComp3, hac, if_true, hi, bind_ok]
  rw [if_pos ⟨hz, hn⟩, h1]; rfl
theorem for_inv3 {b : TM} {τ : SM} {m : Nat} (I : List D → Env → W → Prop) : ∀ (ds acc : List D) (env : Env) (w : W), acc.length + ds.length ≤ m → I acc env w → (∀ d ∈ ds, ∀ acc env w, acc.length < m → I acc env w → ∃ env1 env' w', b d env = some env1 ∧ τ env1 w = .nx env' w' ∧ I (acc ++ [d]) env' w') →
    ∃ env' w', forM b τ ds env w = .nx env' w' ∧ I (acc ++ ds) env' w'
  | [], acc, env, w, _, h0, _ => ⟨env, w, rfl, by rw [List.append_nil]; exact h0⟩
  | d :: ds, acc, env, w, hm, h0, h => by
    simp only [List.length_cons] at hm
    obtain ⟨env1, env', w', h1, h2, h3⟩ := h d List.mem_cons_self acc env w (by omega) h0
    obtain ⟨env2, w2, h4, h5⟩ := for_inv3 I ds (acc ++ [d]) env' w' (by simp; omega) h3 fun d hd => h d (List.mem_cons_of_mem _ hd)
    exact ⟨env2, w2, by rw [for_nx h1 h2, h4], by rw [List.append_assoc] at h5; exact h5⟩
open PySem
/-! lists of plain things against nothing -/
theorem ok_all : ∀ {l : List D}, (∀ d ∈ l, okP d = true) → okPs l = true
  | [], _ => rfl
  | d :: l, h => by
    show (okP d && okPs l) = true
    rw [h d List.mem_cons_self, ok_all fun q hq => h q (List.mem_cons_of_mem _ hq)]; rfl
theorem lay_all : ∀ {l : List D}, (∀ d ∈ l, PyData.canLay0 (toP d) = true) → PyData.canLayAll0 (toPs l) = true
  | [], _ => rfl
  | d :: l, h => by
    show (PyData.canLay0 (toP d) && PyData.canLayAll0 (toPs l)) = true
    rw [h d List.mem_cons_self, lay_all fun q hq => h q (List.mem_cons_of_mem _ hq)]; rfl
theorem dep_all {m : Nat} : ∀ {l : List D}, (∀ d ∈ l, PyData.depth (toP d) ≤ m) → PyData.depthAll (toPs l) ≤ m
  | [], _ => Nat.zero_le _
  | d :: l, h => by
    show max (PyData.depth (toP d)) (PyData.depthAll (toPs l)) ≤ m
    have h1 := h d List.mem_cons_self
    have h2 := dep_all fun q hq => h q (List.mem_cons_of_mem _ hq)
    omega
def plainD (d : D) : Bool := okP d && (PyData.canLay0 (toP d) && decide (PyData.depth (toP d) ≤ 40))
theorem plain_sh {l : List D} (h : ∀ d ∈ l, plainD d = true) : shD (.lst l) = true := by
  have h1 : ∀ d ∈ l, okP d = true := fun d hd => by
    have := h d hd
    unfold plainD at this
    simp only [Bool.and_eq_true] at this
    exact this.1
  have h2 : ∀ d ∈ l, PyData.canLay0 (toP d) = true := fun d hd => by
    have := h d hd
    unfold plainD at this
    simp only [Bool.and_eq_true] at this
    exact this.2.1
  have h3 : ∀ d ∈ l, PyData.depth (toP d) ≤ 40 := fun d hd => by
    have := h d hd
    unfold plainD at this
    simp only [Bool.and_eq_true, decide_eq_true_eq] at this
    exact this.2.2
  show (okPs l && (PyData.canLayAll0 (toPs l) && decide (PyData.depthAll (toPs l) + 1 ≤ 64))) = true
  rw [ok_all h1, lay_all h2, decide_eq_true (by have := dep_all h3; omega)]; rfl
theorem eq_none {l : List D} (h : ∀ d ∈ l, plainD d = true) {w : W} : eqD (.lst l) (.lst []) w = .ok (.bl l.isEmpty) w := by
  have z : shD (.lst []) = true := rfl
  unfold eqD
  rw [plain_sh h, z]
  cases l <;> rfl
theorem plain_shT {l : List D} (h : ∀ d ∈ l, plainD d = true) : shD (.tup l) = true := by
  have h1 : ∀ d ∈ l, okP d = true := fun d hd => by
    have := h d hd
    unfold plainD at this
    simp only [Bool.and_eq_true] at this
    exact this.1
  have h2 : ∀ d ∈ l, PyData.canLay0 (toP d) = true := fun d hd => by
    have := h d hd
    unfold plainD at this
    simp only [Bool.and_eq_true] at this
    exact this.2.1
  have h3 : ∀ d ∈ l, PyData.depth (toP d) ≤ 40 := fun d hd => by
    have := h d hd
    unfold plainD at this
    simp only [Bool.and_eq_true, decide_eq_true_eq] at this
    exact this.2.2
  show (okPs l && (PyData.canLayAll0 (toPs l) && decide (PyData.depthAll (toPs l) + 1 ≤ 64))) = true
  rw [ok_all h1, lay_all h2, decide_eq_true (by have := dep_all h3; omega)]; rfl
theorem eq_noneT {l : List D} (h : ∀ d ∈ l, plainD d = true) {w : W} : eqD (.tup l) (.tup []) w = .ok (.bl l.isEmpty) w := by
  have z : shD (.tup []) = true := rfl
  unfold eqD
  rw [plain_shT h, z]
  cases l <;> rfl
theorem plain_fq (q : Rat) : plainD (fq q) = true := rfl
end DL
namespace DL
open PySem PySem.Spec PyProof.Rows L2
/-! ### set(xs), xs a list of whole numbers: the set's table can be walked -/
def bareSet (w : World) : Obj := { cls := .type "set", data := .set #[] 0 (.fresh 0 0 (!w.params.followText "set-order")) }
section
variable {P : Program} {w : World} {A : Around} {E : Value → Shared → Prop} {s : Shared}
/-- what stands behind the making -/
def Made (w : World) (s : Shared) (ns : List Int) (s₂ : Shared) : Prop := ∃ h' tk c, s₂ = { s with heap := h', toks := tk } ∧ SetR w h' s.heap.objs.size (fun j => decide (j ∈ ns)) c ∧ c ≤ ns.length ∧ ∀ b o, s.heap.get? b = some o → h'.get? b = some o
theorem ints_val {items : Array Value} {ns : List Int} (hit : IntsAre items.toList ns) (z : items.size = ns.length) (i : Nat) (v : Value) (hv : items[i]? = some v) : ∃ k t, ns[i]? = some k ∧ v = .int k t := by
  have hi : i < ns.length := z ▸ (Array.getElem?_eq_some_iff.mp hv).1
  obtain ⟨t, e⟩ := hit.int_at i v (Array.getElem?_toList ▸ hv)
  exact ⟨ns[i], t, List.getElem?_eq_getElem hi, by rw [e]; simp [hi]⟩
/-- the loop that fills it -/
theorem fill_lst {A : Around} {l : Addr} {items : Array Value} {ns : List Int} (hh : A.in1.handled = none) (hl : s.heap.IsList l items) (hit : IntsAre items.toList ns) (hb : ns.length + 1 < scanBound) (z : items.size = ns.length) (lt : l < s.heap.objs.size) {h1 : Heap} (e1 : h1 = s.heap.push (bareSet w)) {R : Result → Shared → Prop}
    (k : ∀ s', Made w s ns s' → R (.ok (.ret .none)) s') :
    codeAny (model P w) A (.builtin "set.update.loop" ⟨[.ref s.heap.objs.size, .ref h1.objs.size], []⟩) R { s with heap := h1.push { cls := .type "list_iterator", data := .fields #[.ref l, .int 0 0] } } := by
  subst e1
  have sz : (s.heap.push (bareSet w)).objs.size = s.heap.objs.size + 1 := Heap.size_push ..
  have hg : (s.heap.push (bareSet w)).get? s.heap.objs.size = some (bareSet w) := Heap.get?_push_size _ rfl
  have n1 : l ≠ (s.heap.push (bareSet w)).objs.size := Nat.ne_of_lt (sz ▸ Nat.lt_succ_of_lt lt)
  have n2 : s.heap.objs.size ∉ [(s.heap.push (bareSet w)).objs.size, l] := by
    simp only [List.mem_cons, List.not_mem_nil, or_false, not_or]
    exact ⟨Nat.ne_of_lt (sz ▸ Nat.lt_succ_self _), Nat.ne_of_gt lt⟩
  have W := (Walks.list (prog := P) (w := w) hh (s.heap.push (bareSet w)).objs.size l n1 items).toS
  refine set_update_ints W s.heap.objs.size n2 ns z hb (ints_val hit z) items.size 0 _ (Nat.sub_zero _) (Nat.zero_le _) ⟨⟨_, Heap.get?_push_size _ rfl, rfl, rfl⟩, (hl.push _).push _⟩ ⟨0, Nat.le_refl 0, setR_new_at (Heap.get?_push_of_some _ hg)⟩ fun s' c m hc S => k s' ?_
  obtain ⟨h', g2, d2, t2, o2⟩ := s'
  obtain rfl : g2 = s.gens := m.gens
  obtain rfl : d2 = s.drawn := m.drawn
  obtain rfl : o2 = s.os := m.os
  refine ⟨h', t2, c, rfl, S, z ▸ hc, fun b o e => m.heap b o ?_ (Heap.get?_push_of_some _ (Heap.get?_push_of_some _ e))⟩
  have := Heap.lt_size e
  simp only [List.mem_cons, List.not_mem_nil, or_false, not_or]
  exact ⟨Nat.ne_of_lt this, Nat.ne_of_lt (sz ▸ Nat.lt_succ_of_lt this)⟩
/-- set.__init__ -/
theorem init_lst {l : Addr} {items : Array Value} {ns : List Int} (hh : A.handled = none) (hl : s.heap.IsList l items) (hit : IntsAre items.toList ns) (hb : ns.length + 1 < scanBound) (z : items.size = ns.length) :
    codeAny (model P w) A (.call (.builtin "set.__init__") ⟨[.ref s.heap.objs.size, .ref l], []⟩) (wants (fun r s₂ => r = .none ∧ Made w s ns s₂) E) { s with heap := s.heap.push (bareSet w) } := by
  have hg : (s.heap.push (bareSet w)).get? s.heap.objs.size = some (bareSet w) := Heap.get?_push_size _ rfl
  have hT : Shared.TypeIs { s with heap := s.heap.push (bareSet w) } (.ref s.heap.objs.size) "set" := ⟨_, hg, rfl⟩
  have lt : l < s.heap.objs.size := by
    obtain ⟨o, e, _⟩ := hl
    exact Heap.lt_size e
  have hl1 : (s.heap.push (bareSet w)).IsList l items := hl.push _
  refine codeAny_call_builtin F.called_set.init.plain F.entry_set_init (check_set_init_1 hT ?_)
  obtain ⟨o, ho, hc, nl, hd⟩ := hl1
  obtain ⟨oc, od, ot, os⟩ := o
  dsimp only at hc hd
  subst hc hd
  have k1 := F.sub_list_set
  have k2 := F.sub_list_frozenset
  have k3 : (Value.type "list" == Value.type "dict") = false := by decide
  generalize hH : s.heap.push (bareSet w) = H1 at *
  unfold bareSet at hg
  unfold Builtin.«set.__init__» noKeywords Builtin.Frozenset.updateFrom
  generalize hPI : pyIter = PI
  wp_walk
  subst hPI
  refine wpAny_pyIter_list ⟨_, ho, rfl, nl, rfl⟩ (wpAny_bind (wpAny_runValue ?_))
  refine fill_lst (A := A.in1) (by simp [hh]) hl hit hb z lt hH.symm fun s' m => ?_
  show wpAny _ _ _ _ _ _
  refine wpAny_pure ?_
  show wpAny _ _ (ret Value.none) _ _ _
  exact wpAny_pure ⟨rfl, m⟩
/-- set(xs) -/
theorem set_lst {l : Addr} {items : Array Value} {ns : List Int} {Q : Value → Shared → Prop} (hh : A.handled = none) (hl : s.heap.IsList l items) (hit : IntsAre items.toList ns) (hb : ns.length + 1 < scanBound) (h : ∀ s₂, Made w s ns s₂ → Q (.ref s.heap.objs.size) s₂) :
    wpAny (model P w) A (call (.type "set") [.ref l]) Q E s := by
  have z : items.size = ns.length := by
    have := hit.length
    rwa [Array.length_toList] at this
  have k0 := F.called_set.made
  have k1 := F.called_set.sub
  have k2 := F.called_set.notType
  have k3 := F.called_set.canCreate
  have k4 := F.typeCall_set_1 (.ref l)
  have k5 := F.called_set.init.lookup
  obtain ⟨c1, c2, k6⟩ := F.called_set.mro
  refine wpAny_call (codeAny_of_tree (show wpAny _ _ (callAny (.type "set") _) _ _ _ from wpAny_pure ⟨Code.quiet_builtin _ (by decide +kernel), codeAny_builtin F.entry_type_call ?_⟩))
  rw [Around.under_plain (weight_type_call_type "set" [.ref l] []) rfl]
  repeat (any_goals (first | assumption | wp_step))
  refine codeAny_mono (code_set_led1 (.ref l) (E := E) (Q₁ := fun v s₁ => v = .ref s.heap.objs.size ∧ s₁ = { s with heap := s.heap.push (bareSet w) }) ⟨rfl, rfl⟩) fun r s₁ hr => ?_
  match r, hr with
  | .error e, hr => exact hr
  | .ok (.ret v), hr =>
    obtain ⟨rfl, rfl⟩ := hr
    have hg : (s.heap.push (bareSet w)).get? s.heap.objs.size = some (bareSet w) := Heap.get?_push_size _ rfl
    have hT : Shared.TypeIs { s with heap := s.heap.push (bareSet w) } (.ref s.heap.objs.size) "set" := ⟨_, hg, rfl⟩
    have k7 := F.called_set.init.bind (.ref s.heap.objs.size)
    repeat (any_goals (first | assumption | wp_step))
    refine codeAny_mono (init_lst (A := A.in1) (E := E) (by simp [hh]) hl hit hb z) fun r₂ s₂ hr₂ => ?_
    match r₂, hr₂ with
    | .error e, hr₂ => exact hr₂
    | .ok (.ret v), hr₂ =>
      obtain ⟨rfl, m⟩ := hr₂
      repeat (any_goals (first | assumption | wp_step))
      exact h _ m
end
end DL
namespace DL
open PySem PySem.Spec PyProof.Rows L2
/-! ### sorted(set(xs)) -/
/-- a number put among ascending ones -/
def insU (x : Int) : List Int → List Int
  | [] => [x]
  | y :: ys => if x < y then x :: y :: ys else if x = y then y :: ys else y :: insU x ys
/-- the whole numbers, ascending, each once -/
def sset (ns : List Int) : List Int := ns.foldr insU []
theorem insU_mem {x k : Int} : ∀ {l : List Int}, k ∈ insU x l ↔ k = x ∨ k ∈ l
  | [] => by simp [insU]
  | y :: ys => by
    unfold insU
    split
    · simp
    · split
      · rename_i h; subst h; simp
      · simp [insU_mem (l := ys)]
        constructor
        · rintro (h | h | h)
          · exact .inr (.inl h)
          · exact .inl h
          · exact .inr (.inr h)
        · rintro (h | h | h)
          · exact .inr (.inl h)
          · exact .inl h
          · exact .inr (.inr h)
theorem insU_asc {x : Int} : ∀ {l : List Int}, l.Pairwise (· < ·) → (insU x l).Pairwise (· < ·)
  | [], _ => by simp [insU]
  | y :: ys, h => by
    obtain ⟨h1, h2⟩ := List.pairwise_cons.mp h
    unfold insU
    split
    · rename_i lt
      exact List.pairwise_cons.mpr ⟨fun z hz => by
        rcases List.mem_cons.mp hz with e | e
        · omega
        · have := h1 z e; omega, h⟩
    · split
      · exact h
      · refine List.pairwise_cons.mpr ⟨fun z hz => ?_, insU_asc h2⟩
        rcases insU_mem.mp hz with e | e
        · omega
        · exact h1 z e
theorem sset_asc : ∀ ns : List Int, (sset ns).Pairwise (· < ·)
  | [] => List.Pairwise.nil
  | n :: ns => insU_asc (sset_asc ns)
theorem sset_mem {k : Int} : ∀ {ns : List Int}, k ∈ sset ns ↔ k ∈ ns
  | [] => Iff.rfl
  | n :: ns => by
    show k ∈ insU n (sset ns) ↔ _
    rw [insU_mem, sset_mem (ns := ns), List.mem_cons]
theorem asc_eq : ∀ {l m : List Int}, l.Pairwise (· < ·) → m.Pairwise (· < ·) → (∀ k, k ∈ l ↔ k ∈ m) → l = m
  | [], [], _, _, _ => rfl
  | [], y :: m, _, _, h => absurd ((h y).mpr List.mem_cons_self) (by simp)
  | x :: l, [], _, _, h => absurd ((h x).mp List.mem_cons_self) (by simp)
  | x :: l, y :: m, h1, h2, h => by
    obtain ⟨a1, a2⟩ := List.pairwise_cons.mp h1
    obtain ⟨b1, b2⟩ := List.pairwise_cons.mp h2
    have e : x = y := by
      rcases List.mem_cons.mp ((h x).mp List.mem_cons_self) with e | e
      · exact e
      · rcases List.mem_cons.mp ((h y).mpr List.mem_cons_self) with e2 | e2
        · exact e2.symm
        · have := b1 x e; have := a1 y e2; omega
    subst e
    rw [asc_eq a2 b2 fun k => by
      have hk := h k
      rw [List.mem_cons, List.mem_cons] at hk
      constructor
      · intro q
        rcases hk.mp (.inr q) with e | e
        · subst e; exact absurd (a1 k q) (by omega)
        · exact e
      · intro q
        rcases hk.mpr (.inr q) with e | e
        · subst e; exact absurd (b1 k q) (by omega)
        · exact e]
theorem insU_len {x : Int} : ∀ {l : List Int}, (insU x l).length ≤ l.length + 1
  | [] => by simp [insU]
  | y :: ys => by
    unfold insU
    split
    · simp
    · split
      · simp
      · have := insU_len (x := x) (l := ys); simp; omega
theorem sset_len : ∀ {ns : List Int}, (sset ns).length ≤ ns.length
  | [] => Nat.le_refl _
  | n :: ns => by
    have := insU_len (x := n) (l := sset ns)
    have := sset_len (ns := ns)
    show (insU n (sset ns)).length ≤ _
    simp; omega
section
variable {X : Cx} {E : XK} {al ar ac ar1 ac1 ar2 ac2 : List Nat} {a b : Expr} {pos p p2 pos2 : Pos} {ea eb : EM D}
theorem sset_nodup (ns : List Int) : (sset ns).Nodup := (sset_asc ns).imp fun h => by omega
/-- so many as the set bears -/
theorem setR_size {w : World} {h : Heap} {a : Addr} {ns : List Int} {c : Nat} (R : SetR w h a (fun j => decide (j ∈ ns)) c) : c = (sset ns).length := by
  obtain ⟨o, es, ep, t, ho, hx, hd, g, nd, hm, hb, hf, hn, _⟩ := R
  have hp : (es.toList.map keyOf).Perm (sset ns) := (List.perm_ext_iff_of_nodup nd (sset_nodup ns)).mpr fun k => by
    rw [← hm k, decide_eq_true_eq, sset_mem]
  have := hp.length_eq
  rw [List.length_map, Array.length_toList] at this
  omega
/-- set of a list of whole numbers -/
def rSetL (K : PySem.W.Frag) (w : World) : List V → Hp → VK → Prop := fun xs H Q => ∃ (q : Addr) (ns : List Int), xs = [.ref q] ∧ SqL K H q (ns.map V.int) ∧ ns.length ≤ 4000 ∧ ∀ (l : Addr), H l = none → Q (.ref l) (upd H l (SetO w l (fun j => decide (j ∈ ns)) (sset ns).length))
theorem cr_setL (hc : X.calm = true) : CallR X (.type "set") (rSetL X.K X.w) := by
  intro pins s σ H xs us Q I r h
  obtain ⟨q, ns, rfl, hq, hl, h⟩ := h
  rw [Vals.ref1 r]
  obtain ⟨its, rv, pl, hz⟩ := I.list hq
  have hi : IntsAre its.toArray.toList ns := by simpa using ints_of_vals rv
  refine set_lst (I.ok.hd hc) pl.isList hi (by unfold scanBound; omega) fun s₂ m => ?_
  obtain ⟨h', tk, c, rfl, R, hcn, k⟩ := m
  obtain rfl := setR_size R
  have hn : H s.heap.objs.size = none := I.hok.fresh (Nat.le_refl _)
  exact ⟨.ref _, upd H s.heap.objs.size (SetO X.w s.heap.objs.size (fun j => decide (j ∈ ns)) (sset ns).length), I.laid (t' := tk) (fun b u e => k b u e) (Nat.le_refl _) (setO_new R), rfl, h _ hn⟩
def ssetF : D → M (List D)
  | .lst ds => fun w => match intsOf ds with
    | some ns => if ns.length ≤ 4000 ∧ (sset ns).length ≤ 63 then .ok ((sset ns).map .int) w else .st
    | none => .st
  | _ => fun _ => .st
theorem bb_set : bootBuiltins "set" = some (.type "set") := by decide +kernel
theorem gf_sset (hc : X.calm = true) (n : Nb X.mg) (ha : GE X E ar1 ac1 a ea) (hg : Gl X "sorted" := by rfl) (hg2 : Gl X "set" := by rfl)
    (na : starEach [.Call (.Name "set" p2) [a] [] pos2] X.env = (false, eval (.Call (.Name "set" p2) [a] [] pos2) X.env) :: starEach [] X.env := by rfl) (hp : (backTo pos (starEach [] X.env)).any (·.1) = false := by rfl)
    (na2 : starEach [a] X.env = (false, eval a X.env) :: starEach [] X.env := by rfl) (hp2 : (backTo pos2 (starEach [] X.env)).any (·.1) = false := by rfl) :
    GF X E [] (.Call (.Name "sorted" p) [.Call (.Name "set" p2) [a] [] pos2] [] pos) (dUn ssetF ea) :=
  pe_mono (pe_callB (cr_sortedSet hc) hg n.sorted bb_sorted (pa_cons (pe_callTy (cr_setL hc) hg2 n.set bb_set (pa_cons ha pa_nil na2) (by decide) (by decide) na2 hp2) pa_nil na) (by decide) (by decide) na hp) fun σ H Q ⟨env, w, T, A, rel, t, pp⟩ => goF rel t pp fun d w1 v H1 T1 x t1 rel1 r p1 => by
    unfold ssetF at p1
    split at p1
    · rename_i ds
      obtain ⟨q, vs, rfl, l, rs⟩ := r
      cases hns : intsOf ds with
      | none => rw [hns] at p1; exact p1.elim
      | some ns =>
        simp only [hns] at p1
        split at p1
        · rename_i h63
          have e := ints_rep rs hns
          subst e
          refine ⟨q, ns, rfl, l.sq, h63.1, fun b hb => ?_⟩
          refine ⟨b, _, _, rfl, upd_same, Nat.lt_succ_of_le h63.2, fun ms z asc mem len hz => ?_⟩
          have em : ms = sset ns := asc_eq asc (sset_asc ns) fun k => by rw [mem k, sset_mem, decide_eq_true_eq]
          subst em
          have p2 := p1.ext (.new (o := SetO X.w b (fun j => decide (j ∈ ns)) (sset ns).length) hb)
          exact p2.lst ((rel1.fr t1).ext (.new hb) (t1.new hb)) (reps_ints _) (by rw [List.length_map]; exact Nat.le_trans h63.2 (by rw [sizeLine_eq]; omega)) hz
        · exact p1.elim
    · exact p1.elim
end
end DL
namespace DL
open PySem
/-! rows of whole numbers -/
theorem memF_cons {n i : Int} {l : List D} : memF (.int n) (.int i :: l) = ((i == n) || memF (.int n) l) := rfl
theorem memF_ints {n : Int} : ∀ l : List Int, memF (.int n) (l.map .int) = decide (n ∈ l)
  | [] => rfl
  | i :: l => by
    rw [List.map_cons, memF_cons, memF_ints l]
    by_cases h : i = n
    · subst h; simp
    · have h2 : ¬ n = i := fun e => h e.symm
      simp [h, h2]
theorem fl_ints : ∀ l : List Int, (l.map D.int).all flD = true
  | [] => rfl
  | i :: l => by rw [List.map_cons, List.all_cons, fl_ints l]; rfl
theorem in_tup {neg : Bool} {n : Int} {l : List Int} {w : W} : inD neg (.int n) (.tup (l.map .int)) w = .ok (.bl (if neg then !decide (n ∈ l) else decide (n ∈ l))) w := by
  show (if flD (.int n) && (l.map D.int).all flD then Res.ok (D.bl (if neg then !memF (.int n) (l.map .int) else memF (.int n) (l.map .int))) w else .st) = _
  rw [fl_ints, memF_ints]; rfl
theorem in_lst {neg : Bool} {n : Int} {l : List Int} {w : W} : inD neg (.int n) (.lst (l.map .int)) w = .ok (.bl (if neg then !decide (n ∈ l) else decide (n ∈ l))) w := by
  show (if flD (.int n) && (l.map D.int).all flD then Res.ok (D.bl (if neg then !memF (.int n) (l.map .int) else memF (.int n) (l.map .int))) w else .st) = _
  rw [fl_ints, memF_ints]; rfl
theorem e_sset2 {l : List Int} (h : l.length ≤ 4000) (h2 : (sset l).length ≤ 63) {w : W} : ssetF (.lst (l.map .int)) w = .ok ((sset l).map .int) w := by
  show (match intsOf (l.map D.int) with | some ns => if ns.length ≤ 4000 ∧ (sset ns).length ≤ 63 then Res.ok ((sset ns).map D.int) w else .st | none => .st) = _
  rw [ints_map]
  simp only [h, h2, and_self, if_true]
theorem e_sset {l : List Int} (h : l.length ≤ 63) {w : W} : ssetF (.lst (l.map .int)) w = .ok ((sset l).map .int) w := e_sset2 (by omega) (Nat.le_trans sset_len h)
theorem sset_id {l : List Int} (h : l.Pairwise (· < ·)) : sset l = l := asc_eq (sset_asc l) h fun _ => sset_mem
theorem comp_ints {ac ac3 vs : List Nat} {it : EM (List D)} {b : TM} {e : EM D} {env : Env} {w w1 : W} {l : List Int} (f : Int → Int) (hac : ac3.all (· < env.length) = true) (hi : it env w = .ok (l.map .int) w1) (hz : l.length ≤ 1000) (hn : noOw (frzs env ac) vs = true)
    (h : ∀ i ∈ l, ∃ env', b (.int i) (wipeE (frzs env ac) vs) = some env' ∧ e env' w1 = .ok (.int (f i)) w1) : dComp3 ac ac3 vs it b tYesM e env w = .ok ((l.map f).map .int) w1 := by
  have c := comp3_map (κ := tYesM) (ds := l.map D.int) (fun d => match d with | .int i => .int (f i) | _ => .non) hac hi (by rw [List.length_map]; exact sl_of (by omega)) hn fun d hd => by
    obtain ⟨i, hi, rfl⟩ := List.mem_map.mp hd
    obtain ⟨env', h1, h2⟩ := h i hi
    exact ⟨env', h1, rfl, h2⟩
  rw [c, List.map_map, List.map_map]
  congr 1
theorem comp_fints {ac ac3 vs : List Nat} {it : EM (List D)} {b : TM} {κ : EM Bool} {e : EM D} {env : Env} {w w1 : W} {l : List Int} (p : Int → Bool) (hac : ac3.all (· < env.length) = true) (hi : it env w = .ok (l.map .int) w1) (hz : l.length ≤ 1000) (hn : noOw (frzs env ac) vs = true)
    (h : ∀ i ∈ l, ∃ env', b (.int i) (wipeE (frzs env ac) vs) = some env' ∧ κ env' w1 = .ok (p i) w1 ∧ e env' w1 = .ok (.int i) w1) : dComp3 ac ac3 vs it b κ e env w = .ok ((l.filter p).map .int) w1 := by
  have c := comp3_filter (ds := l.map D.int) (fun d => match d with | .int i => p i | _ => false) id hac hi (by rw [List.length_map]; exact sl_of (by omega)) hn fun d hd => by
    obtain ⟨i, hi, rfl⟩ := List.mem_map.mp hd
    obtain ⟨env', h1, h2, h3⟩ := h i hi
    exact ⟨env', h1, h2, fun _ => h3⟩
  rw [c, List.map_id, List.filter_map]
  congr 1
/-! subsets of a row -/
def subs : List Int → List (List Int)
  | [] => [[]]
  | x :: xs => subs xs ++ (subs xs).map (x :: ·)
theorem mem_subs : ∀ {L l : List Int}, L.Pairwise (· < ·) → l.Pairwise (· < ·) → (∀ x ∈ l, x ∈ L) → l ∈ subs L
  | [], [], _, _, _ => by simp [subs]
  | [], y :: l, _, _, h => absurd (h y List.mem_cons_self) (by simp)
  | x :: L, [], hL, _, _ => by
    rw [subs, List.mem_append]
    exact .inl (mem_subs (List.pairwise_cons.mp hL).2 List.Pairwise.nil (by simp))
  | x :: L, y :: l, hL, hl, h => by
    obtain ⟨a1, a2⟩ := List.pairwise_cons.mp hL
    obtain ⟨b1, b2⟩ := List.pairwise_cons.mp hl
    rw [subs, List.mem_append]
    by_cases e : y = x
    · subst e
      refine .inr (List.mem_map.mpr ⟨l, mem_subs a2 b2 fun z hz => ?_, rfl⟩)
      rcases List.mem_cons.mp (h z (List.mem_cons_of_mem _ hz)) with q | q
      · have := b1 z hz; omega
      · exact q
    · refine .inl (mem_subs a2 hl fun z hz => ?_)
      rcases List.mem_cons.mp (h z hz) with q | q
      · rcases List.mem_cons.mp hz with q2 | q2
        · exact absurd (q2.symm.trans q) e
        · have h1 := b1 z q2
          rcases List.mem_cons.mp (h y List.mem_cons_self) with q3 | q3
          · exact absurd q3 e
          · have := a1 y q3; omega
      · exact q
def upto (n : Nat) : List Int := (List.range n).map fun (k : Nat) => (k : Int)
theorem upto_mem {n : Nat} {x : Int} : x ∈ upto n ↔ 0 ≤ x ∧ x < n := by
  unfold upto
  rw [List.mem_map]
  constructor
  · rintro ⟨k, hk, rfl⟩
    have := List.mem_range.mp hk
    omega
  · intro h
    exact ⟨x.toNat, List.mem_range.mpr (by omega), by omega⟩
theorem upto_asc (n : Nat) : (upto n).Pairwise (· < ·) := by
  unfold upto
  rw [List.pairwise_map]
  exact List.pairwise_lt_range.imp fun h => by omega
end DL
namespace DL
/-! rests by a number, and by the least that will do -/
def shiftL (b : Int) (rs : List Int) (k : Int) : List Int := sset (rs.map fun r => (r + k) % b)
def Rests (b : Int) (rs : List Int) : Prop := rs.Pairwise (· < ·) ∧ ∀ r ∈ rs, 0 ≤ r ∧ r < b
theorem shift_mem {b k x : Int} {rs : List Int} : x ∈ shiftL b rs k ↔ ∃ r ∈ rs, (r + k) % b = x := by
  unfold shiftL
  rw [sset_mem, List.mem_map]
theorem add_mod_inj {b k r x : Int} (hb : 0 < b) (h1 : 0 ≤ r ∧ r < b) (h2 : 0 ≤ x ∧ x < b) (h : (r + k) % b = (x + k) % b) : r = x := by
  have h3 := Int.emod_eq_emod_iff_emod_sub_eq_zero.mp h
  have h4 : (r - x) % b = 0 := by
    rw [show r + k - (x + k) = r - x by omega] at h3
    exact h3
  obtain ⟨c, hc⟩ := Int.dvd_of_emod_eq_zero h4
  have hc1 : -b < b * c ∧ b * c < b := by omega
  have c0 : c = 0 := by
    by_cases p : 1 ≤ c
    · have := Int.mul_le_mul_of_nonneg_left p (show 0 ≤ b by omega)
      omega
    · by_cases q : c ≤ -1
      · have := Int.mul_le_mul_of_nonneg_left q (show 0 ≤ b by omega)
        omega
      · omega
  subst c0
  omega
/-- what a shift keeps, it keeps both ways -/
theorem shift_iff {b k : Int} {rs : List Int} (hb : 0 < b) (R : Rests b rs) (h : shiftL b rs k = rs) (x : Int) : x % b ∈ rs ↔ (x + k) % b ∈ rs := by
  constructor
  · intro hx
    rw [← h, shift_mem]
    exact ⟨x % b, hx, by rw [Int.emod_add_emod]⟩
  · intro hx
    rw [← h, shift_mem] at hx
    obtain ⟨r, hr, e⟩ := hx
    have e2 : (r + k) % b = (x % b + k) % b := by rw [e, Int.emod_add_emod]
    have := add_mod_inj hb (R.2 r hr) ⟨Int.emod_nonneg x (by omega), Int.emod_lt_of_pos x hb⟩ e2
    rw [← this]; exact hr
theorem shift_many {b k : Int} {rs : List Int} (hb : 0 < b) (R : Rests b rs) (h : shiftL b rs k = rs) (x : Int) : ∀ t : Nat, x % b ∈ rs ↔ (x + k * t) % b ∈ rs
  | 0 => by rw [show ((0 : Nat) : Int) = 0 from rfl, Int.mul_zero, Int.add_zero]
  | t + 1 => by
    rw [shift_many hb R h x t, shift_iff hb R h (x + k * t), show x + k * (t : Int) + k = x + k * ((t + 1 : Nat) : Int) by rw [Int.natCast_add, Int.mul_add]; omega]
theorem shift_of {b k : Int} {rs : List Int} (hb : 0 < b) (R : Rests b rs) (h : ∀ x, x % b ∈ rs ↔ (x + k) % b ∈ rs) : shiftL b rs k = rs := by
  refine asc_eq (sset_asc _) R.1 fun y => ?_
  have e : y ∈ sset (rs.map fun r => (r + k) % b) ↔ ∃ r ∈ rs, (r + k) % b = y := shift_mem
  show y ∈ sset (rs.map fun r => (r + k) % b) ↔ _
  rw [e]
  constructor
  · rintro ⟨r, hr, rfl⟩
    have hr2 := R.2 r hr
    exact (h r).mp (by rw [Int.emod_eq_of_lt hr2.1 hr2.2]; exact hr)
  · intro hy
    have hy2 := R.2 y hy
    refine ⟨(y - k) % b, ?_, ?_⟩
    · refine (h (y - k)).mpr ?_
      rw [show y - k + k = y by omega, Int.emod_eq_of_lt hy2.1 hy2.2]; exact hy
    · rw [Int.emod_add_emod, show y - k + k = y by omega, Int.emod_eq_of_lt hy2.1 hy2.2]
theorem shift_all {b : Int} {rs : List Int} (hb : 0 < b) (R : Rests b rs) : shiftL b rs b = rs := shift_of hb R fun x => by rw [Int.add_emod_right]
/-- rests by a lesser number, when a shift by it keeps them -/
theorem low_iff {b l : Int} {rs : List Int} (hb : 0 < b) (hl : 0 < l) (hd : l ∣ b) (R : Rests b rs) (h : shiftL b rs l = rs) (n : Int) : n % b ∈ rs ↔ n % l ∈ sset (rs.map (· % l)) := by
  rw [sset_mem, List.mem_map]
  constructor
  · intro hn
    exact ⟨n % b, hn, Int.emod_emod_of_dvd n hd⟩
  · rintro ⟨r, hr, e⟩
    have hr2 := R.2 r hr
    have h1 := Int.emod_eq_emod_iff_emod_sub_eq_zero.mp e
    obtain ⟨c, hc⟩ := Int.dvd_of_emod_eq_zero h1
    -- r - n = l * c; move by a multiple of b to have a number of steps
    have h2 : (r + l * ((-c) % b).toNat) % b = n % b := by
      have e0 : (((-c) % b).toNat : Int) = (-c) % b := Int.toNat_of_nonneg (Int.emod_nonneg _ (by omega))
      rw [e0]
      have e1 := Int.mul_ediv_add_emod (-c) b
      have e2 : r + l * ((-c) % b) = n + b * (l * (-((-c) / b))) := by
        have : l * ((-c) % b) = l * (-c) - l * (b * ((-c) / b)) := by rw [← Int.mul_sub]; congr 1; omega
        rw [this, Int.mul_neg, Int.mul_neg, Int.mul_neg, ← Int.mul_assoc, ← Int.mul_assoc, Int.mul_comm l b]
        omega
      rw [e2, Int.add_mul_emod_self_left]
    rw [← h2]
    exact (shift_many hb R h r _).mp (by rw [Int.emod_eq_of_lt hr2.1 hr2.2]; exact hr)
/-- the first number that will do -/
structure Least (b : Int) (rs : List Int) (l : Int) : Prop where
  pos : 1 ≤ l
  le : l ≤ b
  dvd : b % l = 0
  keeps : shiftL b rs l = rs
  first : ∀ k, 1 ≤ k → k < l → b % k = 0 → shiftL b rs k ≠ rs
theorem low_rests {b l : Int} {rs : List Int} (hl : 0 < l) : Rests l (sset (rs.map (· % l))) := ⟨sset_asc _, fun r hr => by
  rw [sset_mem, List.mem_map] at hr
  obtain ⟨q, _, rfl⟩ := hr
  exact ⟨Int.emod_nonneg _ (by omega), Int.emod_lt_of_pos _ hl⟩⟩
theorem least_min {b l : Int} {rs : List Int} (hb : 0 < b) (R : Rests b rs) (L : Least b rs l) : ∀ k, 1 ≤ k → k < l → l % k = 0 → shiftL l (sset (rs.map (· % l))) k ≠ sset (rs.map (· % l)) := by
  intro k k1 k2 k3 h
  have l0 : 0 < l := by have := L.pos; omega
  have hd := Int.dvd_of_emod_eq_zero L.dvd
  have kb : b % k = 0 := Int.emod_eq_zero_of_dvd (Int.dvd_trans (Int.dvd_of_emod_eq_zero k3) hd)
  refine L.first k k1 k2 kb (shift_of hb R fun x => ?_)
  rw [low_iff hb l0 hd R L.keeps, low_iff hb l0 hd R L.keeps]
  exact shift_iff l0 (low_rests (b := b) l0) h x
theorem nil_one {b l : Int} (L : Least b [] l) : l = 1 := by
  have h1 := L.pos
  by_cases h : l = 1
  · exact h
  · exact absurd (show shiftL b [] 1 = [] from rfl) (L.first 1 (by omega) (by omega) (Int.emod_one b))
def ups (n : Nat) : List Int := (List.range n).map fun (k : Nat) => 1 + (k : Int)
theorem ups_mem {n : Nat} {x : Int} : x ∈ ups n ↔ 1 ≤ x ∧ x ≤ n := by
  unfold ups
  rw [List.mem_map]
  constructor
  · rintro ⟨k, hk, rfl⟩
    have := List.mem_range.mp hk
    omega
  · intro h
    exact ⟨(x - 1).toNat, List.mem_range.mpr (by omega), by omega⟩
theorem ups_asc (n : Nat) : (ups n).Pairwise (· < ·) := by
  unfold ups
  rw [List.pairwise_map]
  exact List.pairwise_lt_range.imp fun h => by omega
theorem div_self_iff {b k : Int} : b / k * k = b ↔ b % k = 0 := by
  have := Int.mul_ediv_add_emod b k
  rw [Int.mul_comm] at this
  omega
/-- the head of those that will do is the least -/
theorem goods_least {b : Int} {rs : List Int} (hb : 0 < b) (R : Rests b rs) : ∃ l g, ((ups b.toNat).filter fun k => decide (b / k * k = b) && decide (shiftL b rs k = rs)) = l :: g ∧ Least b rs l := by
  have hin : b ∈ (ups b.toNat).filter fun k => decide (b / k * k = b) && decide (shiftL b rs k = rs) := by
    rw [List.mem_filter]
    refine ⟨ups_mem.mpr ⟨by omega, by omega⟩, ?_⟩
    rw [decide_eq_true (div_self_iff.mpr (Int.emod_self)), decide_eq_true (shift_all hb R)]; rfl
  cases hg : (ups b.toNat).filter fun k => decide (b / k * k = b) && decide (shiftL b rs k = rs) with
  | nil => rw [hg] at hin; cases hin
  | cons l g =>
    have hl : l ∈ (ups b.toNat).filter fun k => decide (b / k * k = b) && decide (shiftL b rs k = rs) := by rw [hg]; exact List.mem_cons_self
    obtain ⟨m1, m2⟩ := List.mem_filter.mp hl
    obtain ⟨p1, p2⟩ := ups_mem.mp m1
    rw [Bool.and_eq_true, decide_eq_true_eq, decide_eq_true_eq] at m2
    refine ⟨l, g, rfl, p1, by omega, div_self_iff.mp m2.1, m2.2, fun k k1 k2 k3 e => ?_⟩
    have hk : k ∈ (ups b.toNat).filter fun k => decide (b / k * k = b) && decide (shiftL b rs k = rs) := by
      rw [List.mem_filter]
      refine ⟨ups_mem.mpr ⟨k1, by omega⟩, ?_⟩
      rw [decide_eq_true (div_self_iff.mpr k3), decide_eq_true e]; rfl
    have asc : (l :: g).Pairwise (· < ·) := by rw [← hg]; exact (ups_asc _).filter _
    rw [hg] at hk
    rcases List.mem_cons.mp hk with e2 | e2
    · omega
    · have := (List.pairwise_cons.mp asc).1 k e2
      omega
/-- a for with a test and a break -/
theorem for_find {b : TM} {τ : SM} {w : W} (t : D → Bool) (I : Env → Prop) (V : D → Env → Prop) : ∀ (ds : List D) (env : Env), I env → (∀ d ∈ ds, ∀ env, I env → ∃ env1, b d env = some env1 ∧ (t d = false → ∃ env', τ env1 w = .nx env' w ∧ I env') ∧ (t d = true → ∃ env', τ env1 w = .bk env' w ∧ V d env')) →
    ((∀ d ∈ ds, t d = false) ∧ ∃ env', forM b τ ds env w = .nx env' w ∧ I env') ∨ ∃ pre d post, ds = pre ++ d :: post ∧ (∀ e ∈ pre, t e = false) ∧ t d = true ∧ ∃ env', forM b τ ds env w = .nx env' w ∧ V d env'
  | [], env, h0, _ => .inl ⟨by simp, env, rfl, h0⟩
  | d :: ds, env, h0, h => by
    obtain ⟨env1, h1, h2, h3⟩ := h d List.mem_cons_self env h0
    cases q : t d with
    | true =>
      obtain ⟨env', e, v⟩ := h3 q
      exact .inr ⟨[], d, ds, rfl, by simp, q, env', for_bk h1 e, v⟩
    | false =>
      obtain ⟨env', e, i⟩ := h2 q
      rcases for_find t I V ds env' i fun d hd => h d (List.mem_cons_of_mem _ hd) with ⟨a1, env2, a2, a3⟩ | ⟨pre, d2, post, a1, a2, a3, env2, a4, a5⟩
      · refine .inl ⟨fun z hz => ?_, env2, by rw [for_nx h1 e, a2], a3⟩
        rcases List.mem_cons.mp hz with rfl | hz
        · exact q
        · exact a1 z hz
      · refine .inr ⟨d :: pre, d2, post, by rw [a1]; rfl, fun z hz => ?_, a3, env2, by rw [for_nx h1 e, a4], a5⟩
        rcases List.mem_cons.mp hz with rfl | hz
        · exact q
        · exact a2 z hz
end DL
namespace DL
theorem comp_gen {ac ac3 vs : List Nat} {it : EM (List D)} {b : TM} {κ : EM Bool} {e : EM D} {env : Env} {w w1 : W} {l : List Int} (p : Int → Bool) (g : Int → D) (hac : ac3.all (· < env.length) = true) (hi : it env w = .ok (l.map .int) w1) (hz : l.length ≤ 100000) (hn : noOw (frzs env ac) vs = true)
    (h : ∀ i ∈ l, ∃ env', b (.int i) (wipeE (frzs env ac) vs) = some env' ∧ κ env' w1 = .ok (p i) w1 ∧ (p i = true → e env' w1 = .ok (g i) w1)) : dComp3 ac ac3 vs it b κ e env w = .ok ((l.filter p).map g) w1 := by
  have c := comp3_filter (ds := l.map D.int) (fun d => match d with | .int i => p i | _ => false) (fun d => match d with | .int i => g i | _ => .non) hac hi (by rw [List.length_map]; exact sl_of (by omega)) hn fun d hd => by
    obtain ⟨i, hi, rfl⟩ := List.mem_map.mp hd
    exact h i hi
  rw [c, List.filter_map, List.map_map]
  congr 1
theorem comp_all {ac ac3 vs : List Nat} {it : EM (List D)} {b : TM} {e : EM D} {env : Env} {w w1 : W} {l : List Int} (g : Int → D) (hac : ac3.all (· < env.length) = true) (hi : it env w = .ok (l.map .int) w1) (hz : l.length ≤ 100000) (hn : noOw (frzs env ac) vs = true)
    (h : ∀ i ∈ l, ∃ env', b (.int i) (wipeE (frzs env ac) vs) = some env' ∧ e env' w1 = .ok (g i) w1) : dComp3 ac ac3 vs it b tYesM e env w = .ok (l.map g) w1 := by
  have c := comp_gen (κ := tYesM) (fun _ => true) g hac hi hz hn fun i hi => by
    obtain ⟨env', h1, h2⟩ := h i hi
    exact ⟨env', h1, rfl, fun _ => h2⟩
  rw [c, List.filter_eq_self.mpr (fun _ _ => rfl)]
end DL
namespace DL
open PySem PySem.Spec PyProof.Rows L2
section
variable {X : Cx} {E : XK} {al ar ac : List Nat} {a b : Expr} {pos p p2 : Pos}
/-! what is never met: nothing is told of it -/
def sSt : SM := fun _ _ => .st
theorem gs_st {st : Stmt} : GS X E st sSt := ⟨fun pins s σ H D I ⟨_, _, _, _, _, _, q⟩ => q.elim⟩
theorem gss_st {st : List Stmt} : GSs X E st sSt := ⟨fun pins s σ H D I ⟨_, _, _, _, _, _, q⟩ => q.elim⟩
/-! sorted of an own dict without keys -/
def sortD0 (i : Nat) : EM (List D) := fun env w => match env[i]? with
  | some (.ow (.dic [])) => .ok [] w
  | _ => .st
theorem gf_sortD0 {i : Nat} {x : Str} (hc : X.calm = true) (n : Nb X.mg) (hx : PE X (.Name x p2) (tVar i)) (hg : Gl X "sorted" := by rfl)
    (na : starEach [.Name x p2] X.env = (false, eval (.Name x p2) X.env) :: starEach [] X.env := by rfl) (hp : (backTo pos (starEach [] X.env)).any (·.1) = false := by rfl) :
    GF X E [] (.Call (.Name "sorted" p) [.Name x p2] [] pos) (sortD0 i) :=
  pe_mono (pe_callB (call_sortedDI hc) hg n.sorted bb_sorted (pa_cons hx pa_nil na) (by decide) (by decide) na hp) fun σ H Q ⟨env, w, T, A, rel, t, pp⟩ => by
    unfold sortD0 at pp
    split at pp
    · rename_i he
      obtain ⟨o, hA, hs, ow⟩ := rel.slot i _ he
      generalize hd : (D.dic []) = d at ow
      cases ow with
      | lst h1 h2 h3 => cases hd
      | @dic kvs kws h1 h2 h3 =>
        have hk : kvs = [] := by
          cases kvs with
          | nil => rfl
          | cons q r => cases hd
        subst hk
        have hw : kws = [] := by
          cases kws with
          | nil => rfl
          | cons q r => cases h2
        subst hw
        refine ⟨.ref o, hs, o, [], [], rfl, .inl h1, rfl, by decide, fun ys q perm asc hq => ?_⟩
        have : ys = [] := List.Perm.eq_nil perm
        subst this
        exact pp.lst (rel.fr t) .nil (Nat.zero_le _) hq
    · exact pp.elim
end
end DL
namespace DL
open PySem PySem.Spec PyProof.Rows L2
section
variable {X : Cx} {E : XK} {al ar ac ar1 ac1 : List Nat} {a b : Expr} {pos p p2 : Pos} {ea eb : EM D}
/-! sorted(t), t a tuple of whole numbers -/
def rSrtT (K : PySem.W.Frag) : List V → Hp → VK → Prop := fun vs H Q => ∃ (a : Addr) (ns : List Int), vs = [V.ref a] ∧ SqT K H a (ns.map V.int) ∧ ns.length < 64 ∧ ∀ (ys : List Int) (q : Addr), ys.Perm ns → ys.Pairwise (· ≤ ·) → H q = none → Q (.ref q) (upd H q (.lst (ys.map V.int)))
theorem cr_srtT : CallR X (.builtin "sorted") (rSrtT X.K) := by
  intro pins s σ H vs us Q I r h
  obtain ⟨a, ns, rfl, hs, h64, q⟩ := h
  obtain ⟨its, rv, pt, hz⟩ := I.tuple hs
  rw [Vals.ref1 r]
  have hi : IntsAre its ns := ints_of_vals rv
  have hl : its.length = ns.length := by rw [← rv.length, List.length_map]
  obtain ⟨o, ho, hc, n, hd⟩ := show s.heap.IsTuple a its.toArray from pt
  refine Calls.call_function_entry kind_sorted plain_sorted entry_sorted (args_sorted1 _) ?_
  unfold Builtin.«sorted»
  refine wpAny_bind (m := checkCount "sorted" 1 1 _) (wpAny_pure (wpAny_bind (wpAny_collect_seq a (.inr rfl) ho hc hd (fun h' hk => ?_) (by rw [List.size_toArray, hl, sizeLine_eq]; omega))))
  have I1 : Inv X pins σ H { s with heap := h' } := I.kept hk
  rw [List.toList_toArray]
  refine wpAny_bind (wpAny_newList ?_ (by rw [hl, sizeLine_eq]; omega))
  have hn : (h'.push (seqObj "list" its.toArray 0)).get? h'.objs.size = some (seqObj "list" its.toArray 0) := Heap.get?_push_size _ rfl
  show wpAny _ _ _ _ _ { s with heap := h'.push (seqObj "list" its.toArray 0) }
  refine wpAny_bind (wpAny_holding (wpAny_call_entry slot_list_sort ⟨_, hn, rfl⟩ entry_list_sort (list_sort_tree (s := { s with heap := h'.push (seqObj "list" its.toArray 0) }) hn hi (by omega) fun out ys g1 g2 g3 => ⟨_, rfl, ?_⟩) (args_list_sort _)))
  obtain ⟨e', he'⟩ := sortedHeap_at (vs := its) (out := out) hn
  have hy : (ys.map V.int).length ≤ sizeLine := by rw [List.length_map, g2.length_eq, sizeLine_eq]; omega
  have ob : ObjOk X.prog X.w (upd H h'.objs.size (.lst (ys.map V.int))) _ h'.objs.size (.lst (ys.map V.int)) := ⟨hy, out.toList, e', vals_of_ints g1, by rw [Array.toArray_toList]; exact he'⟩
  refine wpAny_pure ⟨_, rfl, .ref h'.objs.size, upd H h'.objs.size (.lst (ys.map V.int)), I1.laid (t' := s.toks) (fun b u e => ?_) (Nat.le_refl _) ob, rfl, q ys _ g2 g3 (I1.hok.fresh (Nat.le_refl _))⟩
  have hb : b < h'.objs.size := Heap.lt_size e
  rw [sortedHeap_old (Nat.ne_of_lt hb) (by rw [size_push']; exact Nat.lt_succ_of_lt hb)]
  exact Heap.get?_push_of_some _ e
/-- put among ascending ones -/
def insS (x : Int) : List Int → List Int
  | [] => [x]
  | y :: ys => if x ≤ y then x :: y :: ys else y :: insS x ys
def srt (ns : List Int) : List Int := ns.foldr insS []
theorem insS_perm {x : Int} : ∀ {l : List Int}, (insS x l).Perm (x :: l)
  | [] => .refl _
  | y :: ys => by
    unfold insS
    split
    · exact .refl _
    · exact (List.Perm.cons y insS_perm).trans (.swap x y ys)
theorem srt_perm : ∀ ns : List Int, (srt ns).Perm ns
  | [] => .refl _
  | n :: ns => insS_perm.trans (.cons n (srt_perm ns))
theorem insS_asc {x : Int} : ∀ {l : List Int}, l.Pairwise (· ≤ ·) → (insS x l).Pairwise (· ≤ ·)
  | [], _ => by simp [insS]
  | y :: ys, h => by
    obtain ⟨h1, h2⟩ := List.pairwise_cons.mp h
    unfold insS
    split
    · rename_i le
      exact List.pairwise_cons.mpr ⟨fun z hz => by
        rcases List.mem_cons.mp hz with e | e
        · omega
        · have := h1 z e; omega, h⟩
    · refine List.pairwise_cons.mpr ⟨fun z hz => ?_, insS_asc h2⟩
      rcases List.mem_cons.mp (insS_perm.mem_iff.mp hz) with e | e
      · omega
      · exact h1 z e
theorem srt_asc : ∀ ns : List Int, (srt ns).Pairwise (· ≤ ·)
  | [] => List.Pairwise.nil
  | n :: ns => insS_asc (srt_asc ns)
def srtF : D → M (List D)
  | .tup ds => fun w => match intsOf ds with
    | some ns => if ns.length ≤ 63 then .ok ((srt ns).map .int) w else .st
    | none => .st
  | _ => fun _ => .st
theorem gf_srtT (n : Nb X.mg) (ha : GE X E ar1 ac1 a ea) (hg : Gl X "sorted" := by rfl) (na : starEach [a] X.env = (false, eval a X.env) :: starEach [] X.env := by rfl) (hp : (backTo pos (starEach [] X.env)).any (·.1) = false := by rfl) :
    GF X E [] (.Call (.Name "sorted" p) [a] [] pos) (dUn srtF ea) :=
  pe_mono (pe_callB cr_srtT hg n.sorted bb_sorted (pa_cons ha pa_nil na) (by decide) (by decide) na hp) fun σ H Q ⟨env, w, T, A, rel, t, pp⟩ => goF rel t pp fun d w1 v H1 T1 x t1 rel1 r p1 => by
    unfold srtF at p1
    split at p1
    · rename_i ds
      obtain ⟨o, vs, rfl, l, rs⟩ := tp_of r
      cases hns : intsOf ds with
      | none => rw [hns] at p1; exact p1.elim
      | some ns =>
        simp only [hns] at p1
        split at p1
        · rename_i h63
          have e := ints_rep rs hns
          subst e
          refine ⟨o, ns, rfl, l.sq, by omega, fun ys z perm asc hz => ?_⟩
          have em : ys = srt ns := List.Perm.eq_of_pairwise (fun a b _ _ h1 h2 => Int.le_antisymm h1 h2) asc (srt_asc ns) (perm.trans (srt_perm ns).symm)
          subst em
          exact p1.lst (rel1.fr t1) (reps_ints _) (by rw [List.length_map, (srt_perm ns).length_eq, sizeLine_eq]; omega) hz
        · exact p1.elim
    · exact p1.elim
end
end DL
namespace DL
open PySem PySem.Spec PyProof.Rows L2
/-! ### try: .. except X: a suite, which knows nothing of the slots -/
def noEx : Out → Out
  | .ex _ _ => .st
  | o => o
def sTryU (U : List String) (n : Nat) (l : List (String × SM)) (τ : SM) : SM := fun env w => match τ env w with
  | .ex e w => if e.cls ∈ U ∧ e.arg = none then (match l.find? (fun p => p.1 = e.cls) with
    | some p => noEx (p.2 (List.replicate n .un) w)
    | none => .ex e w) else .st
  | o => o
def tsU (K : PySem.W.Frag) (mg : Mg) (μ : SM) : TSu := fun _ _ _ => liftS K mg (fun _ _ _ => False) μ
section
variable {X : Cx} {E : XK}
inductive UHds (X : Cx) : List ExceptHandler → List (String × SM) → Prop
  | nil : UHds X [] []
  | cons {c : String} {x : Str} {μ : SM} {b₀ : Stmt} {suite : List Stmt} {np pos' : Pos} {hds l} (hx : x = Str.ofString c) (g0 : Gl X x) (h3 : (x == ("__debug__" : Str)) = false)
      (hs : ∀ (a : Addr) (oe : Obj) (pn : List (Addr × Obj)), GSs (X.suite a ((a, oe) :: pn)) (fun _ _ _ => False) (b₀ :: suite) μ) (r : UHds X hds l) : UHds X (.ExceptHandler (some (.Name x np)) none (b₀ :: suite) pos' :: hds) ((c, μ) :: l)
theorem UHds.to {hds l} (h : UHds X hds l) (f : ∀ p ∈ l, ∃ C, X.mg (Str.ofString p.1) = some (.ref C)) : ∃ l' : List (Value × TSu), HdsOk X hds l' ∧ l'.map (fun q => (some q.1, q.2)) = l.map (fun p => (X.mg (Str.ofString p.1), tsU X.K X.mg p.2)) := by
  induction h with
  | nil => exact ⟨[], .nil, rfl⟩
  | @cons c x μ b₀ suite np pos' hds l hx g0 h3 hs r ih =>
    obtain ⟨l', a1, a2⟩ := ih fun p hp => f p (List.mem_cons_of_mem _ hp)
    obtain ⟨C, hC⟩ := f _ List.mem_cons_self
    subst hx
    refine ⟨(.ref C, tsU X.K X.mg μ) :: l', .cons ⟨g0, h3, .inl hC⟩ (fun a oe cls d pn hz hf => hs a oe pn) a1, ?_⟩
    rw [List.map_cons, List.map_cons, a2, hC]
theorem relU {K : PySem.W.Frag} {mg : Mg} {T : Tt} {σ : L2.St} {H : Hp} {n : Nat} (h : σ.length = n) : RelS K mg T (fun _ => none) σ H (List.replicate n .un) where
  len := by rw [h, List.length_replicate]
  slot := fun i s e => by
    have := List.getElem?_eq_some_iff.mp e
    obtain ⟨hi, e⟩ := this
    rw [List.getElem_replicate] at e
    subst e
    trivial
  inj := fun _ _ _ h => nomatch h
  nT := fun _ _ h => nomatch h
  own := fun _ _ h => nomatch h
  ownT := fun _ _ h => nomatch h
  bnd := ⟨0, fun _ _ => rfl⟩
theorem step_none {T : Tt} {A : Ow} {H : Hp} : Step T A H T (fun _ => none) H := ⟨⟨[], by simp [app_nil]⟩, fun _ _ _ _ h => h, fun _ h => h, fun _ _ h => nomatch h⟩
theorem PostS.weak {K : PySem.W.Frag} {mg : Mg} {E : XK} {T : Tt} {A : Ow} {H : Hp} {Dn : Ends} {r : Out} (h : PostS K mg (fun _ _ _ => False) T A H Dn r) : PostS K mg E T A H Dn r := by
  cases r with
  | ex e w => exact fun cls oa H' T' A' st t x => (h cls oa H' T' A' st t x).elim
  | nx | rt | bk | ct | st => exact h
theorem PostS.noEx {K : PySem.W.Frag} {mg : Mg} {E : XK} {T : Tt} {A : Ow} {H : Hp} {Dn : Ends} {r : Out} (h : PostS K mg E T A H Dn (noEx r)) : PostS K mg (fun _ _ _ => False) T A H Dn r := by
  cases r with
  | ex e w => exact h.elim
  | nx | rt | bk | ct | st => exact h
theorem u_chain {Dn : Ends} {T A H w1} {e : Ex} {C : Addr} {H' : Hp} {T' : Tt} {A' : Ow} {σ' : L2.St} {n : Nat} (st : Step T A H T' A' H') (t1 : Tins H' T' w1) (hl : σ'.length = n) (hC : X.mg (Str.ofString e.cls) = some (.ref C)) (xr : XR X.mg e (.ref C) none H') :
    ∀ (l : List (String × SM)) (l' : List (Value × TSu)), l'.map (fun q => (some q.1, q.2)) = l.map (fun p => (X.mg (Str.ofString p.1), tsU X.K X.mg p.2)) → (∀ p ∈ l, ExcE X.K X.mg e.cls p.1) →
      PostS X.K X.mg E T A H Dn (match l.find? (fun p => p.1 = e.cls) with
        | some p => DL.noEx (p.2 (List.replicate n .un) w1)
        | none => .ex e w1) → wMany X.K (fun cls d _ H => E cls d H) Dn l' (.ref C) none σ' H' := by
  intro l
  induction l with
  | nil =>
    intro l' a2 fe p
    cases l' with
    | nil => exact p _ _ H' T' A' st t1 xr
    | cons q r => cases a2
  | cons hd l ih =>
    intro l' a2 fe p
    cases l' with
    | nil => cases a2
    | cons hd' l' =>
      obtain ⟨c', μ⟩ := hd
      obtain ⟨v', ts'⟩ := hd'
      rw [List.map_cons, List.map_cons] at a2
      obtain ⟨b1, b2⟩ := List.cons.inj a2
      obtain ⟨C1, C3, d1, d2, d3⟩ := fe _ List.mem_cons_self
      rw [hC] at d1; cases d1
      have b1 : (some v', ts') = (X.mg (Str.ofString c'), tsU X.K X.mg μ) := b1
      have d2 : X.mg (Str.ofString c') = some (.ref C3) := d2
      rw [d2] at b1
      cases b1
      have d3 : PySem.W.exmOne X.K (.ref C) (.ref C3) = some (decide (c' = e.cls)) := d3
      refine ⟨_, d3, fun hyes a na => ?_, fun hno => ?_⟩
      · have hyes : c' = e.cls := of_decide_eq_true hyes
        rw [List.find?_cons_of_pos (by simpa using hyes)] at p
        exact ⟨_, w1, T', fun _ => none, relU hl, t1, (p.step (st.trans step_none)).noEx⟩
      · have hno : c' ≠ e.cls := of_decide_eq_false hno
        rw [List.find?_cons_of_neg (by simpa using hno)] at p
        exact ih l' b2 (fun p hp => fe p (List.mem_cons_of_mem _ hp)) p
theorem gs_tryU {body : List Stmt} {h0 : ExceptHandler} {hds : List ExceptHandler} {l : List (String × SM)} {pos : Pos} {τ : SM} {U : List String} {n : Nat} (hn : X.N.length = n) (hstk : X.stack = X.env :: X.outer) (hfr : X.env.frame = some X.env.locals) (tk : TakesE X E)
    (hb : ∀ (pn : List (Addr × Obj)) (xe : Value → Shared → Prop) (E' : XK), TakesE (X.tr pn xe) E' → PassesOwn (model X.prog X.w) X.A X.env xe → GSs (X.tr pn xe) E' body τ)
    (hh : UHds X (h0 :: hds) l) (ft : ∀ c ∈ U, ExcT X.K X.mg c) (fe : ∀ c ∈ U, ∀ p ∈ l, ExcE X.K X.mg c p.1) (fl : ∀ p ∈ l, p.1 ∈ U) : GS X E (.Try body (h0 :: hds) [] [] pos) (sTryU U n l τ) := by
  subst hn
  obtain ⟨l', a1, a2⟩ := hh.to fun p hp => let ⟨C, h, _⟩ := ft _ (fl p hp); ⟨C, h⟩
  refine ps_mono (ps_try_many (tb := fun W => liftS X.K X.mg (fun cls d H' => ∀ σ' : L2.St, σ'.length = X.N.length → W cls d σ' H') τ) hstk hfr tk (fun W pn xe tkW ps => ?_) a1) fun Dn σ H ⟨env, w, T, A, rel, t, p⟩ => ⟨env, w, T, A, rel, t, ?_⟩
  · refine hb pn xe _ (fun u s' ⟨a, B, sI, pins, σ', H', cls, d, e, I, nb, up, sky, na, os, ag, w⟩ => tkW u s' ⟨a, B, sI, pins, σ', H', cls, d, e, I, nb, up, sky, na, os, ag, w σ' I.len⟩) ps
  · unfold sTryU at p
    cases q : τ env w with
    | nx e1 w1 => rw [q] at p; exact p
    | rt d w1 => rw [q] at p; exact p
    | bk e1 w1 => rw [q] at p; exact p
    | ct e1 w1 => rw [q] at p; exact p
    | st => rw [q] at p; exact p
    | ex e w1 =>
      rw [q] at p
      have p : PostS X.K X.mg E T A H Dn (if e.cls ∈ U ∧ e.arg = none then (match l.find? (fun p => p.1 = e.cls) with
        | some p => DL.noEx (p.2 (List.replicate X.N.length .un) w1)
        | none => .ex e w1) else .st) := p
      split at p
      · rename_i hU
        intro cls oa H' T' A' st t1 xr σ' hl
        obtain ⟨C, hC, rfl, hoa⟩ := id xr
        rw [hU.2] at hoa
        have hoa : oa = none := hoa
        subst hoa
        exact u_chain st t1 hl hC xr l l' a2 (fe _ hU.1) p
      · exact p.elim
theorem takesE_not {X : Cx} : TakesE X (fun _ _ _ => False) := fun _ _ ⟨_, _, _, _, _, _, _, _, _, _, _, _, _, _, _, _, w⟩ => w.elim
end
end DL
namespace K18
open PySem PySem.Spec PyProof.Rows L2 DL

def topS (i : Nat) : Stmt := PySem.Challenge.pw_neverfraction_k18_main_sets_led_into_set.main.body.getD i (.Pass ⟨0, 0, 0, 0⟩)

def Us : List String := ["CanNot", "TooMany", "Unfit"]

def k_MOST_BY : D := (.int 720)

def k_MOST_MADE : D := (.int 100000)

def k_MOST_MORE : D := (.int 30)

def k_MOST_MEMBER : D := (.int 1000000)

def k_MOST_DEGREE : D := (.int 40)

def k_MOST_ENTRY : D := (.int 1000000000000000000000000000000)

def k_NOUGHT : D := (.tup [(.int 0), (.int 1)])

def k_MOST_BASE : D := (.int 24)

def k_MOST_STEPS : D := (.int 20000)

def s_is_number : SM := (sRet (dAnd (dUn (isiD ["int"]) (dVar 0)) (dNot (dUn (isiD ["bool"]) (dVar 0)))))
def m_is_number : List D → M D := bodyD 1 s_is_number

theorem sc_is_number : FnScope ["thing"] ["thing"] (defScope (topS 5)) := ⟨rfl, rfl, rfl, by decide +kernel, rfl, by decide +kernel, by decide +kernel⟩

theorem bi_is_number {K : PySem.W.Frag} {qual : Str} {f : Addr} {fd : FuncData} (F : Fun K "is_number" qual (topS 5) f fd) : Binds K fd ["thing"] [] := (F.binds (ps := ["thing"]) fun _ _ _ _ _ _ us hl => match us, hl with | [_], _ => rfl)

theorem ok_is_number {P : Program} {w : World} {K : PySem.W.Frag} {mg : Mg} {base : Heap} {f : Addr} {fd : FuncData} (F : DefAt K mg "is_number" (topS 5) f fd) (nb : Nb mg)  : FnK P w K mg base "is_number" 1 1 m_is_number [] ["thing"] :=
  fnk_mk F.fn F.mgf sc_is_number (bi_is_number F.fn) (fun j (hj : j ∈ ([] : List Nat)) => nomatch hj) (fun cdv A outer s H E hr tk hp => by
    have nd := sc_is_number.nd
    exact (gss_one (gs_ret (ge_and (ar := []) (ac := []) (ge_isi nb.isinstance bb_isi (ge_var (pv 0)) (cls_n nb.int bb_int)) (ge_one (ge_not (ge_isi nb.isinstance bb_isi (ge_var (pv 0)) (cls_n nb.bool bb_bool)))))))) rfl rfl

def s_is_long : SM := (sRet (dAnd (dUn (isiD ["tuple"]) (dVar 0)) (dBin eqD (dUn lenD (dVar 0)) (dVar 1))))
def m_is_long : List D → M D := bodyD 2 s_is_long

theorem sc_is_long : FnScope ["thing", "length"] ["thing", "length"] (defScope (topS 6)) := ⟨rfl, rfl, rfl, by decide +kernel, rfl, by decide +kernel, by decide +kernel⟩

theorem bi_is_long {K : PySem.W.Frag} {qual : Str} {f : Addr} {fd : FuncData} (F : Fun K "is_long" qual (topS 6) f fd) : Binds K fd ["thing", "length"] [] := (F.binds (ps := ["thing", "length"]) fun _ _ _ _ _ _ us hl => match us, hl with | [_, _], _ => rfl)

theorem ok_is_long {P : Program} {w : World} {K : PySem.W.Frag} {mg : Mg} {base : Heap} {f : Addr} {fd : FuncData} (F : DefAt K mg "is_long" (topS 6) f fd) (nb : Nb mg)  : FnK P w K mg base "is_long" 2 1 m_is_long [] ["thing", "length"] :=
  fnk_mk F.fn F.mgf sc_is_long (bi_is_long F.fn) (fun j (hj : j ∈ ([] : List Nat)) => nomatch hj) (fun cdv A outer s H E hr tk hp => by
    have nd := sc_is_long.nd
    exact (gss_one (gs_ret (ge_and (ar := []) (ac := []) (ge_isi nb.isinstance bb_isi (ge_var (pv 0)) (cls_n nb.tuple bb_tuple)) (ge_one (ge_cmp (op_eqD hr.units) og_eq (nomark _) (ac := []) (geLen nb (ge_var (pv 0))) (ge_var (pv 1)))))))) rfl rfl

def s_are_numbers : SM := (sRet (dAnd (dUn (isiD ["tuple"]) (dVar 0)) (dUn allD (dL (dComp3 [] [1] [1] (dUn seqM (dVar 0)) (bName 1) tYesM (dCall 1 m_is_number (aCons (dVar 1) aNil)))))))
def m_are_numbers : List D → M D := bodyD 2 s_are_numbers

theorem sc_are_numbers : FnScope ["thing", "own"] ["thing"] (defScope (topS 7)) := ⟨rfl, rfl, rfl, by decide +kernel, rfl, by decide +kernel, by decide +kernel⟩

theorem bi_are_numbers {K : PySem.W.Frag} {qual : Str} {f : Addr} {fd : FuncData} (F : Fun K "are_numbers" qual (topS 7) f fd) : Binds K fd ["thing"] [] := (F.binds (ps := ["thing"]) fun _ _ _ _ _ _ us hl => match us, hl with | [_], _ => rfl)

theorem ok_are_numbers {P : Program} {w : World} {K : PySem.W.Frag} {mg : Mg} {base : Heap} {f : Addr} {fd : FuncData} (F : DefAt K mg "are_numbers" (topS 7) f fd) (nb : Nb mg) (f_is_number : FnK P w K mg base "is_number" 1 1 m_is_number [] ["thing"]) : FnK P w K mg base "are_numbers" 1 2 m_are_numbers [] ["thing"] :=
  fnk_mk F.fn F.mgf sc_are_numbers (bi_are_numbers F.fn) (fun j (hj : j ∈ ([] : List Nat)) => nomatch hj) (fun cdv A outer s H E hr tk hp => by
    have nd := sc_are_numbers.nd
    exact (gss_one (gs_ret (ge_and (ar := []) (ac := []) (ge_isi nb.isinstance bb_isi (ge_var (pv 0)) (cls_n nb.tuple bb_tuple)) (ge_one (geAll rfl nb (GF.ge (gf_comp (own := [("own", 1)]) (ac3 := [1]) rfl nd (gi_seq (al := [0]) (ge_var (pv 0))) (blkOk_by (N := ["thing", "own"]) (sc := defScope (topS 7)) (by decide +kernel)) (fun _ _ _ _ _ => (gg_name (i := 1) nd rfl (by first | exact .inl rfl | exact .inr rfl))) (fun _ _ _ _ _ => gts_nil) (fun _ _ _ _ _ => (ge_call (f_is_number.mono (by decide)).d rfl hr takesN (ga_cons (al := [1]) (ge_var (pv 1)) ga_nil))))))))))) rfl rfl

def s_ascends : SM := (sRet (dUn allD (dL (dComp3 [] [] [1, 2] (dBinF zipM (dVar 0) (dSl slD (dVar 0) (oSo (dC (.int 1))) oNo)) (bTup 2 (bCons (bName 1) (bCons (bName 2) bNil))) tYesM (dBin ltD (dVar 1) (dVar 2))))))
def m_ascends : List D → M D := bodyD 3 s_ascends

theorem sc_ascends : FnScope ["row", "one", "other"] ["row"] (defScope (topS 8)) := ⟨rfl, rfl, rfl, by decide +kernel, rfl, by decide +kernel, by decide +kernel⟩

theorem bi_ascends {K : PySem.W.Frag} {qual : Str} {f : Addr} {fd : FuncData} (F : Fun K "ascends" qual (topS 8) f fd) : Binds K fd ["row"] [] := (F.binds (ps := ["row"]) fun _ _ _ _ _ _ us hl => match us, hl with | [_], _ => rfl)

theorem ok_ascends {P : Program} {w : World} {K : PySem.W.Frag} {mg : Mg} {base : Heap} {f : Addr} {fd : FuncData} (F : DefAt K mg "ascends" (topS 8) f fd) (nb : Nb mg)  : FnK P w K mg base "ascends" 1 1 m_ascends [] ["row"] :=
  fnk_mk F.fn F.mgf sc_ascends (bi_ascends F.fn) (fun j (hj : j ∈ ([] : List Nat)) => nomatch hj) (fun cdv A outer s H E hr tk hp => by
    have nd := sc_ascends.nd
    exact (gss_one (gs_ret (geAll rfl nb (GF.ge (gf_comp (own := [("one", 1), ("other", 2)]) (ac3 := []) rfl nd (gi_zip (al := [0]) (ac := []) nb.zip (ge_var (pv 0)) (ge_slice (ge_var (pv 0)) (go_some ge_int) go_none)) (blkOk_by (N := ["row", "one", "other"]) (sc := defScope (topS 8)) (by decide +kernel)) (fun _ _ _ _ _ => (gg_tup rfl (ggs_cons (gg_name (i := 1) nd rfl (by first | exact .inl rfl | exact .inr rfl)) (ggs_cons (gg_name (i := 2) nd rfl (by first | exact .inl rfl | exact .inr rfl)) ggs_nil)))) (fun _ _ _ _ _ => gts_nil) (fun _ _ _ _ _ => (ge_cmp op_lt' og_lt (nomark _) (ac := []) (ge_var (pv 1)) (ge_var (pv 2)))))))))) rfl rfl

def s_tupled (self_m : List D → M D) : SM := (sRet (dIf (dTru (dUn (isiD ["list", "tuple"]) (dVar 0))) (dUn tupleD (dL (dComp3 [] [1] [1] (dUn seqM (dVar 0)) (bName 1) tYesM (dCall 1 self_m (aCons (dVar 1) aNil))))) (dVar 0)))
def m_tupled : Nat → List D → M D
  | 0 => noFn
  | k + 1 => bodyD 2 (s_tupled (m_tupled k))

theorem sc_tupled : FnScope ["value", "own"] ["value"] (defScope (topS 9)) := ⟨rfl, rfl, rfl, by decide +kernel, rfl, by decide +kernel, by decide +kernel⟩

theorem bi_tupled {K : PySem.W.Frag} {qual : Str} {f : Addr} {fd : FuncData} (F : Fun K "tupled" qual (topS 9) f fd) : Binds K fd ["value"] [] := (F.binds (ps := ["value"]) fun _ _ _ _ _ _ us hl => match us, hl with | [_], _ => rfl)

theorem ok_tupled {P : Program} {w : World} {K : PySem.W.Frag} {mg : Mg} {base : Heap} {f : Addr} {fd : FuncData} (F : DefAt K mg "tupled" (topS 9) f fd) (nb : Nb mg)  : ∀ k, FnK P w K mg base "tupled" 1 (1 + k) (m_tupled k) [] ["value"]
  | 0 => fnk_0 (N := ["value", "own"]) F.fn F.mgf sc_tupled (bi_tupled F.fn) (fun j (hj : j ∈ ([] : List Nat)) => nomatch hj) rfl
  | k + 1 => by
    have Fself := ok_tupled (P := P) (w := w) (base := base) F nb  k
    show FnK P w K mg base "tupled" 1 ((1 + k) + 1) (bodyD 2 (s_tupled (m_tupled k))) [] ["value"]
    refine fnk_mk F.fn F.mgf sc_tupled (bi_tupled F.fn) (fun j (hj : j ∈ ([] : List Nat)) => nomatch hj) (fun cdv A outer s H E hr tk hp => ?_) rfl rfl
    have nd := sc_tupled.nd
    exact (gss_one (gs_ret (ge_if (ar := [0]) (ac := [1]) (gt_val (ge_isi2 nb.isinstance bb_isi (ge_var (pv 0)) (cls_n nb.list bb_list) (cls_n nb.tuple bb_tuple))) (geTuple nb (GF.ge (gf_comp (own := [("own", 1)]) (ac3 := [1]) rfl nd (gi_seq (al := [0]) (ge_var (pv 0))) (blkOk_by (N := ["value", "own"]) (sc := defScope (topS 9)) (by decide +kernel)) (fun _ _ _ _ _ => (gg_name (i := 1) nd rfl (by first | exact .inl rfl | exact .inr rfl))) (fun _ _ _ _ _ => gts_nil) (fun _ _ _ _ _ => (ge_call Fself.d rfl hr takesN (ga_cons (al := [1]) (ge_var (pv 1)) ga_nil)))))) (ge_var (pv 0)))))

def s_common_of : SM := (sSeq (sWhile 18446744073709551616 (dB (dBin neD (dVar 1) (dC (.int 0)))) (sPar [0, 1] [1] (kVal (dVar 1) (kVal (dBin modD (dVar 0) (dVar 1)) kNil)))) (sRet (dUn absD (dVar 0))))
def m_common_of : List D → M D := bodyD 2 s_common_of

theorem sc_common_of : FnScope ["one", "other"] ["one", "other"] (defScope (topS 10)) := ⟨rfl, rfl, rfl, by decide +kernel, rfl, by decide +kernel, by decide +kernel⟩

theorem bi_common_of {K : PySem.W.Frag} {qual : Str} {f : Addr} {fd : FuncData} (F : Fun K "common_of" qual (topS 10) f fd) : Binds K fd ["one", "other"] [] := (F.binds (ps := ["one", "other"]) fun _ _ _ _ _ _ us hl => match us, hl with | [_, _], _ => rfl)

theorem ok_common_of {P : Program} {w : World} {K : PySem.W.Frag} {mg : Mg} {base : Heap} {f : Addr} {fd : FuncData} (F : DefAt K mg "common_of" (topS 10) f fd) (nb : Nb mg)  : FnK P w K mg base "common_of" 2 1 m_common_of [] ["one", "other"] :=
  fnk_mk F.fn F.mgf sc_common_of (bi_common_of F.fn) (fun j (hj : j ∈ ([] : List Nat)) => nomatch hj) (fun cdv A outer s H E hr tk hp => by
    have nd := sc_common_of.nd
    exact (gss_cons (gs_while 18446744073709551616 hp (gt_cmp (op_neD hr.units) (fun _ => og_ne) (nomark _) (ac := []) (ge_var (pv 1)) ge_int) (gss_one (gs_par2 (i := 0) (j := 1) (al := [1]) rfl nd rfl rfl rfl rfl (gk_val (ge_var (pv 1)) (gk_val (ge_bin op_modN og_mod (ar3 := []) (ac3 := []) (ac := []) (ge_var (pv 0)) (ge_var (pv 1))) gk_nil))))) (gss_one (gs_ret (geAbs nb (ge_var (pv 0))))))) rfl rfl

def s_least_of : SM := (sRet (dBin mulD (dBin divD (dVar 0) (dCall 2 m_common_of (aCons (dVar 0) (aCons (dVar 1) aNil)))) (dVar 1)))
def m_least_of : List D → M D := bodyD 2 s_least_of

theorem sc_least_of : FnScope ["one", "other"] ["one", "other"] (defScope (topS 11)) := ⟨rfl, rfl, rfl, by decide +kernel, rfl, by decide +kernel, by decide +kernel⟩

theorem bi_least_of {K : PySem.W.Frag} {qual : Str} {f : Addr} {fd : FuncData} (F : Fun K "least_of" qual (topS 11) f fd) : Binds K fd ["one", "other"] [] := (F.binds (ps := ["one", "other"]) fun _ _ _ _ _ _ us hl => match us, hl with | [_, _], _ => rfl)

theorem ok_least_of {P : Program} {w : World} {K : PySem.W.Frag} {mg : Mg} {base : Heap} {f : Addr} {fd : FuncData} (F : DefAt K mg "least_of" (topS 11) f fd) (nb : Nb mg) (f_common_of : FnK P w K mg base "common_of" 2 1 m_common_of [] ["one", "other"]) : FnK P w K mg base "least_of" 2 2 m_least_of [] ["one", "other"] :=
  fnk_mk F.fn F.mgf sc_least_of (bi_least_of F.fn) (fun j (hj : j ∈ ([] : List Nat)) => nomatch hj) (fun cdv A outer s H E hr tk hp => by
    have nd := sc_least_of.nd
    exact (gss_one (gs_ret (ge_bin op_mulDi og_mul (ar3 := []) (ac3 := []) (ac := []) (ge_bin op_divD og_div (ar3 := []) (ac3 := []) (ac := [0, 1]) (ge_var (pv 0)) (ge_call (f_common_of.mono (by decide)).d rfl hr tk (ga_cons (al := [0, 1]) (ge_var (pv 0)) (ga_cons (al := [1]) (ge_var (pv 1)) ga_nil)))) (ge_var (pv 1)))))) rfl rfl

def s_slim : SM := (sSeq (sAsg (bName 2) [0, 1] (dIf (dB (dBin gtD (dVar 1) (dC (.int 0)))) (dCall 2 m_common_of (aCons (dVar 0) (aCons (dVar 1) aNil))) (dNeg (dCall 2 m_common_of (aCons (dVar 0) (aCons (dVar 1) aNil)))))) (sRet (dTup (aCons (dBin divD (dVar 0) (dVar 2)) (aCons (dBin divD (dVar 1) (dVar 2)) aNil)))))
def m_slim : List D → M D := bodyD 3 s_slim

theorem sc_slim : FnScope ["over", "under", "common"] ["over", "under"] (defScope (topS 12)) := ⟨rfl, rfl, rfl, by decide +kernel, rfl, by decide +kernel, by decide +kernel⟩

theorem bi_slim {K : PySem.W.Frag} {qual : Str} {f : Addr} {fd : FuncData} (F : Fun K "slim" qual (topS 12) f fd) : Binds K fd ["over", "under"] [] := (F.binds (ps := ["over", "under"]) fun _ _ _ _ _ _ us hl => match us, hl with | [_, _], _ => rfl)

theorem ok_slim {P : Program} {w : World} {K : PySem.W.Frag} {mg : Mg} {base : Heap} {f : Addr} {fd : FuncData} (F : DefAt K mg "slim" (topS 12) f fd) (nb : Nb mg) (f_common_of : FnK P w K mg base "common_of" 2 1 m_common_of [] ["one", "other"]) : FnK P w K mg base "slim" 2 2 m_slim [] ["over", "under"] :=
  fnk_mk F.fn F.mgf sc_slim (bi_slim F.fn) (fun j (hj : j ∈ ([] : List Nat)) => nomatch hj) (fun cdv A outer s H E hr tk hp => by
    have nd := sc_slim.nd
    exact (gss_cons (gs_set (i := 2) (al := [0, 1]) nd rfl (by first | exact .inl rfl | exact .inr rfl) (ge_if (ar := [0, 1]) (ac := [0, 1]) (gt_cmp op_gt' (fun _ => og_gt) (nomark _) (ac := []) (ge_var (pv 1)) ge_int) (ge_call (f_common_of.mono (by decide)).d rfl hr tk (ga_cons (al := [0, 1]) (ge_var (pv 0)) (ga_cons (al := [1]) (ge_var (pv 1)) ga_nil))) (ge_neg (ge_call (f_common_of.mono (by decide)).d rfl hr tk (ga_cons (al := [0, 1]) (ge_var (pv 0)) (ga_cons (al := [1]) (ge_var (pv 1)) ga_nil)))))) (gss_one (gs_ret (ge_tup (ga_cons (al := []) (ge_bin op_divD og_div (ar3 := []) (ac3 := []) (ac := []) (ge_var (pv 0)) (ge_var (pv 2))) (ga_cons (al := []) (ge_bin op_divD og_div (ar3 := []) (ac3 := []) (ac := []) (ge_var (pv 1)) (ge_var (pv 2))) ga_nil))))))) rfl rfl

def s_is_fraction : SM := (sRet (dAnd (dCall 2 m_is_long (aCons (dVar 0) (aCons (dC (.int 2)) aNil))) (dAnd (dCall 1 m_are_numbers (aCons (dVar 0) aNil)) (dAnd (dBin gtD (dBin ixD (dVar 0) (dC (.int 1))) (dC (.int 0))) (dBin eqD (dCall 2 m_common_of (aCons (dBin ixD (dVar 0) (dC (.int 0))) (aCons (dBin ixD (dVar 0) (dC (.int 1))) aNil))) (dC (.int 1)))))))
def m_is_fraction : List D → M D := bodyD 1 s_is_fraction

theorem sc_is_fraction : FnScope ["thing"] ["thing"] (defScope (topS 13)) := ⟨rfl, rfl, rfl, by decide +kernel, rfl, by decide +kernel, by decide +kernel⟩

theorem bi_is_fraction {K : PySem.W.Frag} {qual : Str} {f : Addr} {fd : FuncData} (F : Fun K "is_fraction" qual (topS 13) f fd) : Binds K fd ["thing"] [] := (F.binds (ps := ["thing"]) fun _ _ _ _ _ _ us hl => match us, hl with | [_], _ => rfl)

theorem ok_is_fraction {P : Program} {w : World} {K : PySem.W.Frag} {mg : Mg} {base : Heap} {f : Addr} {fd : FuncData} (F : DefAt K mg "is_fraction" (topS 13) f fd) (nb : Nb mg) (f_are_numbers : FnK P w K mg base "are_numbers" 1 2 m_are_numbers [] ["thing"]) (f_common_of : FnK P w K mg base "common_of" 2 1 m_common_of [] ["one", "other"]) (f_is_long : FnK P w K mg base "is_long" 2 1 m_is_long [] ["thing", "length"]) : FnK P w K mg base "is_fraction" 1 3 m_is_fraction [] ["thing"] :=
  fnk_mk F.fn F.mgf sc_is_fraction (bi_is_fraction F.fn) (fun j (hj : j ∈ ([] : List Nat)) => nomatch hj) (fun cdv A outer s H E hr tk hp => by
    have nd := sc_is_fraction.nd
    exact (gss_one (gs_ret (ge_and (ar := [0]) (ac := [0]) (ge_call (f_is_long.mono (by decide)).d rfl hr tk (ga_cons (al := [0]) (ge_var (pv 0)) (ga_cons (al := []) ge_int ga_nil))) (ge_and (ar := [0]) (ac := [0]) (ge_call (f_are_numbers.mono (by decide)).d rfl hr tk (ga_cons (al := [0]) (ge_var (pv 0)) ga_nil)) (ge_and (ar := []) (ac := []) (ge_cmp op_gt' og_gt (nomark _) (ac := []) (ge_ix (ac := []) (ge_var (pv 0)) ge_int) ge_int) (ge_one (ge_cmp (op_eqD hr.units) og_eq (nomark _) (ac := []) (ge_call (f_common_of.mono (by decide)).d rfl hr tk (ga_cons (al := []) (ge_ix (ac := []) (ge_var (pv 0)) ge_int) (ga_cons (al := []) (ge_ix (ac := []) (ge_var (pv 0)) ge_int) ga_nil))) ge_int)))))))) rfl rfl

def s_told_set : SM := (sSeq (sAsg (bName 3) [] (dL (dUn ssetF (dL (dComp3 [] [] [5] (dUn seqM (dVar 1)) (bName 5) tYesM (dBin modD (dVar 5) (dVar 0))))))) (sSeq (sIf (dB (dBin eqD (dVar 3) (dL (dLst aNil)))) (sAsg (bName 0) [] (dC (.int 1))) sNil) (sSeq (sFor [] (dBinF rng2 (dC (.int 1)) (dVar 0)) (bName 4) (sIf (dAndT (dB (dBin eqD (dBin modD (dVar 0) (dVar 4)) (dC (.int 0)))) (dB (dBin eqD (dL (dUn ssetF (dL (dComp3 [] [] [5] (dUn seqM (dVar 3)) (bName 5) tYesM (dBin modD (dBin addD (dVar 5) (dVar 4)) (dVar 0)))))) (dVar 3)))) (sSeq (sAsg (bTup 2 (bCons (bName 3) (bCons (bName 0) bNil))) [4] (dTup (aCons (dL (dUn ssetF (dL (dComp3 [] [] [5] (dUn seqM (dVar 3)) (bName 5) tYesM (dBin modD (dVar 5) (dVar 4)))))) (aCons (dVar 4) aNil)))) sBreak) sNil)) (sRet (dTup (aCons (dVar 0) (aCons (dUn tupleD (dVar 3)) (aCons (dUn tupleD (dL (dUn ssetF (dL (dComp3 [] [5] [5] (dUn seqM (dVar 2)) (bName 5) (dB (dBin (inD true) (dBin modD (dVar 5) (dVar 0)) (dVar 3))) (dVar 5)))))) aNil))))))))
def m_told_set : List D → M D := bodyD 6 s_told_set

theorem sc_told_set : FnScope ["by", "rests", "more", "own", "small", "its"] ["by", "rests", "more"] (defScope (topS 19)) := ⟨rfl, rfl, rfl, by decide +kernel, rfl, by decide +kernel, by decide +kernel⟩

theorem bi_told_set {K : PySem.W.Frag} {qual : Str} {f : Addr} {fd : FuncData} (F : Fun K "told_set" qual (topS 19) f fd) : Binds K fd ["by", "rests", "more"] [] := (F.binds (ps := ["by", "rests", "more"]) fun _ _ _ _ _ _ us hl => match us, hl with | [_, _, _], _ => rfl)

theorem ok_told_set {P : Program} {w : World} {K : PySem.W.Frag} {mg : Mg} {base : Heap} {f : Addr} {fd : FuncData} (F : DefAt K mg "told_set" (topS 19) f fd) (nb : Nb mg)  : FnK P w K mg base "told_set" 3 1 m_told_set [] ["by", "rests", "more"] :=
  fnk_mk F.fn F.mgf sc_told_set (bi_told_set F.fn) (fun j (hj : j ∈ ([] : List Nat)) => nomatch hj) (fun cdv A outer s H E hr tk hp => by
    have nd := sc_told_set.nd
    exact (gss_cons (gs_set (i := 3) (al := []) nd rfl (by first | exact .inl rfl | exact .inr rfl) (GF.ge (gf_sset rfl nb (GF.ge (gf_comp (own := [("its", 5)]) (ac3 := []) rfl nd (gi_seq (al := [1]) (ge_var (pv 1))) (blkOk_by (N := ["by", "rests", "more", "own", "small", "its"]) (sc := defScope (topS 19)) (by decide +kernel)) (fun _ _ _ _ _ => (gg_name (i := 5) nd rfl (by first | exact .inl rfl | exact .inr rfl))) (fun _ _ _ _ _ => gts_nil) (fun _ _ _ _ _ => (ge_bin op_modN og_mod (ar3 := []) (ac3 := []) (ac := []) (ge_var (pv 5)) (ge_var (pv 0))))))))) (gss_cons (gs_if (gt_cmp (op_eqD hr.units) (fun _ => og_eq) (nomark _) (ac := []) (ge_var (pv 3)) (GF.ge (gf_lst ga_nil))) (gss_one (gs_set (i := 0) (al := []) nd rfl (by first | exact .inl rfl | exact .inr rfl) ge_int)) gss_nil) (gss_cons (gs_for hp rfl (gi_range2 nb.range ge_int (ge_var (pv 0))) (gg_name (i := 4) nd rfl (by first | exact .inl rfl | exact .inr rfl)) (gss_one (gs_if (gw_pt (gw_and (gt_cmp (op_eqD hr.units) (fun _ => og_eq) (nomark _) (ac := []) (ge_bin op_modN og_mod (ar3 := []) (ac3 := []) (ac := []) (ge_var (pv 0)) (ge_var (pv 4))) ge_int) (gw_and1 (gt_cmp (op_eqD hr.units) (fun _ => og_eq) (nomark _) (ac := []) (GF.ge (gf_sset rfl nb (GF.ge (gf_comp (own := [("its", 5)]) (ac3 := []) rfl nd (gi_seq (al := [3]) (ge_var (pv 3))) (blkOk_by (N := ["by", "rests", "more", "own", "small", "its"]) (sc := defScope (topS 19)) (by decide +kernel)) (fun _ _ _ _ _ => (gg_name (i := 5) nd rfl (by first | exact .inl rfl | exact .inr rfl))) (fun _ _ _ _ _ => gts_nil) (fun _ _ _ _ _ => (ge_bin op_modN og_mod (ar3 := []) (ac3 := []) (ac := []) (ge_bin op_addD og_add (ac := []) (ge_var (pv 5)) (ge_var (pv 4))) (ge_var (pv 0)))))))) (ge_var (pv 3)))))) (gss_cons (gs_asg (al := [4]) (gg_tup rfl (ggs_cons (gg_name (i := 3) nd rfl (by first | exact .inl rfl | exact .inr rfl)) (ggs_cons (gg_name (i := 0) nd rfl (by first | exact .inl rfl | exact .inr rfl)) ggs_nil))) (ge_tup (ga_cons (al := [4]) (GF.ge (gf_sset rfl nb (GF.ge (gf_comp (own := [("its", 5)]) (ac3 := []) rfl nd (gi_seq (al := [3]) (ge_var (pv 3))) (blkOk_by (N := ["by", "rests", "more", "own", "small", "its"]) (sc := defScope (topS 19)) (by decide +kernel)) (fun _ _ _ _ _ => (gg_name (i := 5) nd rfl (by first | exact .inl rfl | exact .inr rfl))) (fun _ _ _ _ _ => gts_nil) (fun _ _ _ _ _ => (ge_bin op_modN og_mod (ar3 := []) (ac3 := []) (ac := []) (ge_var (pv 5)) (ge_var (pv 4)))))))) (ga_cons (al := [4]) (ge_var (pv 4)) ga_nil)))) (gss_one gs_break)) gss_nil))) (gss_one (gs_ret (ge_tup (ga_cons (al := [0]) (ge_var (pv 0)) (ga_cons (al := []) (geTuple nb (ge_var (pv 3))) (ga_cons (al := []) (geTuple nb (GF.ge (gf_sset rfl nb (GF.ge (gf_comp (own := [("its", 5)]) (ac3 := [5]) rfl nd (gi_seq (al := [2]) (ge_var (pv 2))) (blkOk_by (N := ["by", "rests", "more", "own", "small", "its"]) (sc := defScope (topS 19)) (by decide +kernel)) (fun _ _ _ _ _ => (gg_name (i := 5) nd rfl (by first | exact .inl rfl | exact .inr rfl))) (fun _ _ _ _ _ => (gts_one (gt_cmp op_ninD (fun _ => og_in) (by rfl) (ac := []) (ge_bin op_modN og_mod (ar3 := []) (ac3 := []) (ac := []) (ge_var (pv 5)) (ge_var (pv 0))) (ge_var (pv 3))))) (fun _ _ _ _ _ => (ge_var (pv 5)))))))) ga_nil)))))))))) rfl rfl

def s_is_told : SM := (sRet (dAnd (dCall 2 m_is_long (aCons (dVar 0) (aCons (dC (.int 3)) aNil))) (dAnd (dCall 1 m_are_numbers (aCons (dSl slD (dVar 0) oNo (oSo (dC (.int 1)))) aNil)) (dAnd (dCall 1 m_are_numbers (aCons (dBin ixD (dVar 0) (dC (.int 1))) aNil)) (dCall 1 m_are_numbers (aCons (dBin ixD (dVar 0) (dC (.int 2))) aNil))))))
def m_is_told : List D → M D := bodyD 1 s_is_told

theorem sc_is_told : FnScope ["thing"] ["thing"] (defScope (topS 20)) := ⟨rfl, rfl, rfl, by decide +kernel, rfl, by decide +kernel, by decide +kernel⟩

theorem bi_is_told {K : PySem.W.Frag} {qual : Str} {f : Addr} {fd : FuncData} (F : Fun K "is_told" qual (topS 20) f fd) : Binds K fd ["thing"] [] := (F.binds (ps := ["thing"]) fun _ _ _ _ _ _ us hl => match us, hl with | [_], _ => rfl)

theorem ok_is_told {P : Program} {w : World} {K : PySem.W.Frag} {mg : Mg} {base : Heap} {f : Addr} {fd : FuncData} (F : DefAt K mg "is_told" (topS 20) f fd) (nb : Nb mg) (f_are_numbers : FnK P w K mg base "are_numbers" 1 2 m_are_numbers [] ["thing"]) (f_is_long : FnK P w K mg base "is_long" 2 1 m_is_long [] ["thing", "length"]) : FnK P w K mg base "is_told" 1 3 m_is_told [] ["thing"] :=
  fnk_mk F.fn F.mgf sc_is_told (bi_is_told F.fn) (fun j (hj : j ∈ ([] : List Nat)) => nomatch hj) (fun cdv A outer s H E hr tk hp => by
    have nd := sc_is_told.nd
    exact (gss_one (gs_ret (ge_and (ar := [0]) (ac := [0]) (ge_call (f_is_long.mono (by decide)).d rfl hr tk (ga_cons (al := [0]) (ge_var (pv 0)) (ga_cons (al := []) ge_int ga_nil))) (ge_and (ar := []) (ac := []) (ge_call (f_are_numbers.mono (by decide)).d rfl hr tk (ga_cons (al := []) (ge_slice (ge_var (pv 0)) go_none (go_some ge_int)) ga_nil)) (ge_and (ar := []) (ac := []) (ge_call (f_are_numbers.mono (by decide)).d rfl hr tk (ga_cons (al := []) (ge_ix (ac := []) (ge_var (pv 0)) ge_int) ga_nil)) (ge_one (ge_call (f_are_numbers.mono (by decide)).d rfl hr tk (ga_cons (al := []) (ge_ix (ac := []) (ge_var (pv 0)) ge_int) ga_nil))))))))) rfl rfl

def s_is_set : SM := (sSeq (sIf (dOrT (dNotT (dTru (dCall 1 m_is_told (aCons (dVar 0) aNil)))) (dOrT (dB (dBin ltD (dBin ixD (dVar 0) (dC (.int 0))) (dC (.int 1)))) (dOrT (dB (dBin gtD (dBin ixD (dVar 0) (dC (.int 0))) (dC k_MOST_MADE))) (dB (dBin eqD (dBin addD (dBin ixD (dVar 0) (dC (.int 1))) (dBin ixD (dVar 0) (dC (.int 2)))) (dTup aNil)))))) (sRet (dC (.bl false))) sNil) (sRet (dAnd (dCall 1 m_ascends (aCons (dBin ixD (dVar 0) (dC (.int 1))) aNil)) (dAnd (dCall 1 m_ascends (aCons (dBin ixD (dVar 0) (dC (.int 2))) aNil)) (dBin eqD (dCall 3 m_told_set (aCons (dBin ixD (dVar 0) (dC (.int 0))) (aCons (dBin ixD (dVar 0) (dC (.int 1))) (aCons (dBin ixD (dVar 0) (dC (.int 2))) aNil)))) (dVar 0))))))
def m_is_set : List D → M D := bodyD 1 s_is_set

theorem sc_is_set : FnScope ["thing"] ["thing"] (defScope (topS 21)) := ⟨rfl, rfl, rfl, by decide +kernel, rfl, by decide +kernel, by decide +kernel⟩

theorem bi_is_set {K : PySem.W.Frag} {qual : Str} {f : Addr} {fd : FuncData} (F : Fun K "is_set" qual (topS 21) f fd) : Binds K fd ["thing"] [] := (F.binds (ps := ["thing"]) fun _ _ _ _ _ _ us hl => match us, hl with | [_], _ => rfl)

theorem ok_is_set {P : Program} {w : World} {K : PySem.W.Frag} {mg : Mg} {base : Heap} {f : Addr} {fd : FuncData} (F : DefAt K mg "is_set" (topS 21) f fd) (nb : Nb mg) (c_MOST_MADE : Cst K mg "MOST_MADE" k_MOST_MADE) (f_ascends : FnK P w K mg base "ascends" 1 1 m_ascends [] ["row"]) (f_is_told : FnK P w K mg base "is_told" 1 3 m_is_told [] ["thing"]) (f_told_set : FnK P w K mg base "told_set" 3 1 m_told_set [] ["by", "rests", "more"]) : FnK P w K mg base "is_set" 1 4 m_is_set [] ["thing"] :=
  fnk_mk F.fn F.mgf sc_is_set (bi_is_set F.fn) (fun j (hj : j ∈ ([] : List Nat)) => nomatch hj) (fun cdv A outer s H E hr tk hp => by
    have nd := sc_is_set.nd
    exact (gss_cons (gs_if (gw_pt (gw_or (gt_not (gt_val (ge_call (f_is_told.mono (by decide)).d rfl hr tk (ga_cons (al := [0]) (ge_var (pv 0)) ga_nil)))) (gw_or (gt_cmp op_lt' (fun _ => og_lt) (nomark _) (ac := []) (ge_ix (ac := []) (ge_var (pv 0)) ge_int) ge_int) (gw_or (gt_cmp op_gt' (fun _ => og_gt) (nomark _) (ac := []) (ge_ix (ac := []) (ge_var (pv 0)) ge_int) (ge_glob c_MOST_MADE)) (gw_or1 (gt_cmp (op_eqD hr.units) (fun _ => og_eq) (nomark _) (ac := []) (ge_bin op_addD og_add (ac := []) (ge_ix (ac := []) (ge_var (pv 0)) ge_int) (ge_ix (ac := []) (ge_var (pv 0)) ge_int)) (ge_tup ga_nil))))))) (gss_one (gs_ret ge_bl)) gss_nil) (gss_one (gs_ret (ge_and (ar := []) (ac := []) (ge_call (f_ascends.mono (by decide)).d rfl hr tk (ga_cons (al := []) (ge_ix (ac := []) (ge_var (pv 0)) ge_int) ga_nil)) (ge_and (ar := []) (ac := []) (ge_call (f_ascends.mono (by decide)).d rfl hr tk (ga_cons (al := []) (ge_ix (ac := []) (ge_var (pv 0)) ge_int) ga_nil)) (ge_one (ge_cmp (op_eqD hr.units) og_eq (nomark _) (ac := []) (ge_call (f_told_set.mono (by decide)).d rfl hr tk (ga_cons (al := []) (ge_ix (ac := []) (ge_var (pv 0)) ge_int) (ga_cons (al := []) (ge_ix (ac := []) (ge_var (pv 0)) ge_int) (ga_cons (al := []) (ge_ix (ac := []) (ge_var (pv 0)) ge_int) ga_nil)))) (ge_var (pv 0)))))))))) rfl rfl

def s_sure_set : SM := (sSeq (sAsg (bName 1) [0] (dCall 1 (m_tupled 40) (aCons (dVar 0) aNil))) (sSeq (sIf (dOrT (dNotT (dTru (dCall 1 m_is_set (aCons (dVar 1) aNil)))) (dOrT (dB (dBin gtD (dBin ixD (dVar 1) (dC (.int 0))) (dC k_MOST_BY))) (dB (dBin gtD (dUn lenD (dBin ixD (dVar 1) (dC (.int 2)))) (dC k_MOST_MORE))))) (sRaise ⟨"Unfit", none⟩) sNil) (sSeq (sIf (dTru (dUn anyD (dL (dComp3 [] [] [2] (dUn seqM (dBin ixD (dVar 1) (dC (.int 2)))) (bName 2) tYesM (dBin gtD (dUn absD (dVar 2)) (dC k_MOST_MEMBER)))))) (sRaise ⟨"Unfit", none⟩) sNil) (sRet (dVar 1)))))
def m_sure_set : List D → M D := bodyD 3 s_sure_set

theorem sc_sure_set : FnScope ["value", "own", "its"] ["value"] (defScope (topS 22)) := ⟨rfl, rfl, rfl, by decide +kernel, rfl, by decide +kernel, by decide +kernel⟩

theorem bi_sure_set {K : PySem.W.Frag} {qual : Str} {f : Addr} {fd : FuncData} (F : Fun K "sure_set" qual (topS 22) f fd) : Binds K fd ["value"] [] := (F.binds (ps := ["value"]) fun _ _ _ _ _ _ us hl => match us, hl with | [_], _ => rfl)

theorem ok_sure_set {P : Program} {w : World} {K : PySem.W.Frag} {mg : Mg} {base : Heap} {f : Addr} {fd : FuncData} (F : DefAt K mg "sure_set" (topS 22) f fd) (nb : Nb mg) (c_MOST_BY : Cst K mg "MOST_BY" k_MOST_BY) (c_MOST_MEMBER : Cst K mg "MOST_MEMBER" k_MOST_MEMBER) (c_MOST_MORE : Cst K mg "MOST_MORE" k_MOST_MORE) (e_Unfit : ExcN K mg "Unfit") (f_is_set : FnK P w K mg base "is_set" 1 4 m_is_set [] ["thing"]) (f_tupled : FnK P w K mg base "tupled" 1 41 (m_tupled 40) [] ["value"]) : FnK P w K mg base "sure_set" 1 42 m_sure_set [] ["value"] :=
  fnk_mk F.fn F.mgf sc_sure_set (bi_sure_set F.fn) (fun j (hj : j ∈ ([] : List Nat)) => nomatch hj) (fun cdv A outer s H E hr tk hp => by
    have nd := sc_sure_set.nd
    exact (gss_cons (gs_set (i := 1) (al := [0]) nd rfl (by first | exact .inl rfl | exact .inr rfl) (ge_call (f_tupled.mono (by decide)).d rfl hr tk (ga_cons (al := [0]) (ge_var (pv 0)) ga_nil))) (gss_cons (gs_if (gw_pt (gw_or (gt_not (gt_val (ge_call (f_is_set.mono (by decide)).d rfl hr tk (ga_cons (al := [1]) (ge_var (pv 1)) ga_nil)))) (gw_or (gt_cmp op_gt' (fun _ => og_gt) (nomark _) (ac := []) (ge_ix (ac := []) (ge_var (pv 1)) ge_int) (ge_glob c_MOST_BY)) (gw_or1 (gt_cmp op_gt' (fun _ => og_gt) (nomark _) (ac := []) (geLen nb (ge_ix (ac := []) (ge_var (pv 1)) ge_int)) (ge_glob c_MOST_MORE)))))) (gss_one (gs_raise rfl rfl tk e_Unfit)) gss_nil) (gss_cons (gs_if (gt_val (geAny rfl nb (GF.ge (gf_comp (own := [("its", 2)]) (ac3 := []) rfl nd (gi_seq (al := []) (ge_ix (ac := []) (ge_var (pv 1)) ge_int)) (blkOk_by (N := ["value", "own", "its"]) (sc := defScope (topS 22)) (by decide +kernel)) (fun _ _ _ _ _ => (gg_name (i := 2) nd rfl (by first | exact .inl rfl | exact .inr rfl))) (fun _ _ _ _ _ => gts_nil) (fun _ _ _ _ _ => (ge_cmp op_gt' og_gt (nomark _) (ac := []) (geAbs nb (ge_var (pv 2))) (ge_glob c_MOST_MEMBER))))))) (gss_one (gs_raise rfl rfl tk e_Unfit)) gss_nil) (gss_one (gs_ret (ge_var (pv 1)))))))) rfl rfl

def s_has_member : SM := (sRet (dOr (dBin (inD false) (dBin modD (dVar 1) (dBin ixD (dVar 0) (dC (.int 0)))) (dBin ixD (dVar 0) (dC (.int 1)))) (dBin (inD false) (dVar 1) (dBin ixD (dVar 0) (dC (.int 2))))))
def m_has_member : List D → M D := bodyD 2 s_has_member

theorem sc_has_member : FnScope ["own", "number"] ["own", "number"] (defScope (topS 23)) := ⟨rfl, rfl, rfl, by decide +kernel, rfl, by decide +kernel, by decide +kernel⟩

theorem bi_has_member {K : PySem.W.Frag} {qual : Str} {f : Addr} {fd : FuncData} (F : Fun K "has_member" qual (topS 23) f fd) : Binds K fd ["own", "number"] [] := (F.binds (ps := ["own", "number"]) fun _ _ _ _ _ _ us hl => match us, hl with | [_, _], _ => rfl)

theorem ok_has_member {P : Program} {w : World} {K : PySem.W.Frag} {mg : Mg} {base : Heap} {f : Addr} {fd : FuncData} (F : DefAt K mg "has_member" (topS 23) f fd) (nb : Nb mg)  : FnK P w K mg base "has_member" 2 1 m_has_member [] ["own", "number"] :=
  fnk_mk F.fn F.mgf sc_has_member (bi_has_member F.fn) (fun j (hj : j ∈ ([] : List Nat)) => nomatch hj) (fun cdv A outer s H E hr tk hp => by
    have nd := sc_has_member.nd
    exact (gss_one (gs_ret (ge_or (ar := []) (ac := []) (ge_cmp op_inD og_in (by rfl) (ac := []) (ge_bin op_modN og_mod (ar3 := []) (ac3 := []) (ac := []) (ge_var (pv 1)) (ge_ix (ac := []) (ge_var (pv 0)) ge_int)) (ge_ix (ac := []) (ge_var (pv 0)) ge_int)) (ge_one (ge_cmp op_inD og_in (by rfl) (ac := []) (ge_var (pv 1)) (ge_ix (ac := []) (ge_var (pv 0)) ge_int))))))) rfl rfl

def s_is_poly : SM := (sSeq (sIf (dOrT (dNotT (dTru (dUn (isiD ["tuple"]) (dVar 0)))) (dNotT (dTru (dUn allD (dL (dComp3 [] [1] [1] (dUn seqM (dVar 0)) (bName 1) tYesM (dCall 1 m_is_fraction (aCons (dVar 1) aNil)))))))) (sRet (dC (.bl false))) sNil) (sRet (dOr (dBin eqD (dVar 0) (dTup aNil)) (dBin neD (dBin ixD (dVar 0) (dNeg (dC (.int 1)))) (dC k_NOUGHT)))))
def m_is_poly : List D → M D := bodyD 2 s_is_poly

theorem sc_is_poly : FnScope ["thing", "own"] ["thing"] (defScope (topS 28)) := ⟨rfl, rfl, rfl, by decide +kernel, rfl, by decide +kernel, by decide +kernel⟩

theorem bi_is_poly {K : PySem.W.Frag} {qual : Str} {f : Addr} {fd : FuncData} (F : Fun K "is_poly" qual (topS 28) f fd) : Binds K fd ["thing"] [] := (F.binds (ps := ["thing"]) fun _ _ _ _ _ _ us hl => match us, hl with | [_], _ => rfl)

theorem ok_is_poly {P : Program} {w : World} {K : PySem.W.Frag} {mg : Mg} {base : Heap} {f : Addr} {fd : FuncData} (F : DefAt K mg "is_poly" (topS 28) f fd) (nb : Nb mg) (c_NOUGHT : Cst K mg "NOUGHT" k_NOUGHT) (f_is_fraction : FnK P w K mg base "is_fraction" 1 3 m_is_fraction [] ["thing"]) : FnK P w K mg base "is_poly" 1 4 m_is_poly [] ["thing"] :=
  fnk_mk F.fn F.mgf sc_is_poly (bi_is_poly F.fn) (fun j (hj : j ∈ ([] : List Nat)) => nomatch hj) (fun cdv A outer s H E hr tk hp => by
    have nd := sc_is_poly.nd
    exact (gss_cons (gs_if (gw_pt (gw_or (gt_not (gt_val (ge_isi nb.isinstance bb_isi (ge_var (pv 0)) (cls_n nb.tuple bb_tuple)))) (gw_or1 (gt_not (gt_val (geAll rfl nb (GF.ge (gf_comp (own := [("own", 1)]) (ac3 := [1]) rfl nd (gi_seq (al := [0]) (ge_var (pv 0))) (blkOk_by (N := ["thing", "own"]) (sc := defScope (topS 28)) (by decide +kernel)) (fun _ _ _ _ _ => (gg_name (i := 1) nd rfl (by first | exact .inl rfl | exact .inr rfl))) (fun _ _ _ _ _ => gts_nil) (fun _ _ _ _ _ => (ge_call (f_is_fraction.mono (by decide)).d rfl hr takesN (ga_cons (al := [1]) (ge_var (pv 1)) ga_nil))))))))))) (gss_one (gs_ret ge_bl)) gss_nil) (gss_one (gs_ret (ge_or (ar := []) (ac := []) (ge_cmp (op_eqD hr.units) og_eq (nomark _) (ac := []) (ge_var (pv 0)) (ge_tup ga_nil)) (ge_one (ge_cmp (op_neD hr.units) og_ne (nomark _) (ac := []) (ge_ix (ac := []) (ge_var (pv 0)) (ge_neg ge_int)) (ge_glob c_NOUGHT)))))))) rfl rfl

def s_sure_poly : SM := (sSeq (sAsg (bName 1) [0] (dCall 1 (m_tupled 40) (aCons (dVar 0) aNil))) (sSeq (sIf (dOrT (dNotT (dTru (dCall 1 m_is_poly (aCons (dVar 1) aNil)))) (dB (dBin gtD (dUn lenD (dVar 1)) (dBin addD (dC k_MOST_DEGREE) (dC (.int 1)))))) (sRaise ⟨"Unfit", none⟩) sNil) (sSeq (sIf (dTru (dUn anyD (dL (dComp3 [] [] [2] (dUn seqM (dVar 1)) (bName 2) tYesM (dOr (dBin gtD (dUn absD (dBin ixD (dVar 2) (dC (.int 0)))) (dC k_MOST_ENTRY)) (dBin gtD (dBin ixD (dVar 2) (dC (.int 1))) (dC k_MOST_ENTRY))))))) (sRaise ⟨"Unfit", none⟩) sNil) (sRet (dVar 1)))))
def m_sure_poly : List D → M D := bodyD 3 s_sure_poly

theorem sc_sure_poly : FnScope ["value", "own", "its"] ["value"] (defScope (topS 29)) := ⟨rfl, rfl, rfl, by decide +kernel, rfl, by decide +kernel, by decide +kernel⟩

theorem bi_sure_poly {K : PySem.W.Frag} {qual : Str} {f : Addr} {fd : FuncData} (F : Fun K "sure_poly" qual (topS 29) f fd) : Binds K fd ["value"] [] := (F.binds (ps := ["value"]) fun _ _ _ _ _ _ us hl => match us, hl with | [_], _ => rfl)

theorem ok_sure_poly {P : Program} {w : World} {K : PySem.W.Frag} {mg : Mg} {base : Heap} {f : Addr} {fd : FuncData} (F : DefAt K mg "sure_poly" (topS 29) f fd) (nb : Nb mg) (c_MOST_DEGREE : Cst K mg "MOST_DEGREE" k_MOST_DEGREE) (c_MOST_ENTRY : Cst K mg "MOST_ENTRY" k_MOST_ENTRY) (e_Unfit : ExcN K mg "Unfit") (f_is_poly : FnK P w K mg base "is_poly" 1 4 m_is_poly [] ["thing"]) (f_tupled : FnK P w K mg base "tupled" 1 41 (m_tupled 40) [] ["value"]) : FnK P w K mg base "sure_poly" 1 42 m_sure_poly [] ["value"] :=
  fnk_mk F.fn F.mgf sc_sure_poly (bi_sure_poly F.fn) (fun j (hj : j ∈ ([] : List Nat)) => nomatch hj) (fun cdv A outer s H E hr tk hp => by
    have nd := sc_sure_poly.nd
    exact (gss_cons (gs_set (i := 1) (al := [0]) nd rfl (by first | exact .inl rfl | exact .inr rfl) (ge_call (f_tupled.mono (by decide)).d rfl hr tk (ga_cons (al := [0]) (ge_var (pv 0)) ga_nil))) (gss_cons (gs_if (gw_pt (gw_or (gt_not (gt_val (ge_call (f_is_poly.mono (by decide)).d rfl hr tk (ga_cons (al := [1]) (ge_var (pv 1)) ga_nil)))) (gw_or1 (gt_cmp op_gt' (fun _ => og_gt) (nomark _) (ac := []) (geLen nb (ge_var (pv 1))) (ge_bin op_addD og_add (ac := []) (ge_glob c_MOST_DEGREE) ge_int))))) (gss_one (gs_raise rfl rfl tk e_Unfit)) gss_nil) (gss_cons (gs_if (gt_val (geAny rfl nb (GF.ge (gf_comp (own := [("its", 2)]) (ac3 := []) rfl nd (gi_seq (al := [1]) (ge_var (pv 1))) (blkOk_by (N := ["value", "own", "its"]) (sc := defScope (topS 29)) (by decide +kernel)) (fun _ _ _ _ _ => (gg_name (i := 2) nd rfl (by first | exact .inl rfl | exact .inr rfl))) (fun _ _ _ _ _ => gts_nil) (fun _ _ _ _ _ => (ge_or (ar := []) (ac := []) (ge_cmp op_gt' og_gt (nomark _) (ac := []) (geAbs nb (ge_ix (ac := []) (ge_var (pv 2)) ge_int)) (ge_glob c_MOST_ENTRY)) (ge_one (ge_cmp op_gt' og_gt (nomark _) (ac := []) (ge_ix (ac := []) (ge_var (pv 2)) ge_int) (ge_glob c_MOST_ENTRY))))))))) (gss_one (gs_raise rfl rfl tk e_Unfit)) gss_nil) (gss_one (gs_ret (ge_var (pv 1)))))))) rfl rfl

def s_whole_row : SM := (sSeq (sAsg (bName 1) [] (dC (.int 1))) (sSeq (sFor [0] (dUn seqM (dVar 0)) (bName 2) (sAsg (bName 1) [1] (dCall 2 m_least_of (aCons (dVar 1) (aCons (dBin ixD (dVar 2) (dC (.int 1))) aNil))))) (sRet (dTup (aCons (dVar 1) (aCons (dL (dComp3 [] [] [2] (dUn seqM (dVar 0)) (bName 2) tYesM (dBin mulD (dBin ixD (dVar 2) (dC (.int 0))) (dBin divD (dVar 1) (dBin ixD (dVar 2) (dC (.int 1))))))) aNil))))))
def m_whole_row : List D → M D := bodyD 3 s_whole_row

theorem sc_whole_row : FnScope ["poly", "under", "own"] ["poly"] (defScope (topS 30)) := ⟨rfl, rfl, rfl, by decide +kernel, rfl, by decide +kernel, by decide +kernel⟩

theorem bi_whole_row {K : PySem.W.Frag} {qual : Str} {f : Addr} {fd : FuncData} (F : Fun K "whole_row" qual (topS 30) f fd) : Binds K fd ["poly"] [] := (F.binds (ps := ["poly"]) fun _ _ _ _ _ _ us hl => match us, hl with | [_], _ => rfl)

theorem ok_whole_row {P : Program} {w : World} {K : PySem.W.Frag} {mg : Mg} {base : Heap} {f : Addr} {fd : FuncData} (F : DefAt K mg "whole_row" (topS 30) f fd) (nb : Nb mg) (f_least_of : FnK P w K mg base "least_of" 2 2 m_least_of [] ["one", "other"]) : FnK P w K mg base "whole_row" 1 3 m_whole_row [] ["poly"] :=
  fnk_mk F.fn F.mgf sc_whole_row (bi_whole_row F.fn) (fun j (hj : j ∈ ([] : List Nat)) => nomatch hj) (fun cdv A outer s H E hr tk hp => by
    have nd := sc_whole_row.nd
    exact (gss_cons (gs_set (i := 1) (al := []) nd rfl (by first | exact .inl rfl | exact .inr rfl) ge_int) (gss_cons (gs_for hp rfl (gi_seq (al := [0]) (ge_var (pv 0))) (gg_name (i := 2) nd rfl (by first | exact .inl rfl | exact .inr rfl)) (gss_one (gs_set (i := 1) (al := [1]) nd rfl (by first | exact .inl rfl | exact .inr rfl) (ge_call (f_least_of.mono (by decide)).d rfl hr tk (ga_cons (al := [1]) (ge_var (pv 1)) (ga_cons (al := []) (ge_ix (ac := []) (ge_var (pv 2)) ge_int) ga_nil)))))) (gss_one (gs_ret (ge_tup (ga_cons (al := [1]) (ge_var (pv 1)) (ga_cons (al := []) (GF.ge (gf_comp (own := [("own", 2)]) (ac3 := []) rfl nd (gi_seq (al := [0]) (ge_var (pv 0))) (blkOk_by (N := ["poly", "under", "own"]) (sc := defScope (topS 30)) (by decide +kernel)) (fun _ _ _ _ _ => (gg_name (i := 2) nd rfl (by first | exact .inl rfl | exact .inr rfl))) (fun _ _ _ _ _ => gts_nil) (fun _ _ _ _ _ => (ge_bin op_mulDi og_mul (ar3 := []) (ac3 := []) (ac := []) (ge_ix (ac := []) (ge_var (pv 2)) ge_int) (ge_bin op_divD og_div (ar3 := []) (ac3 := []) (ac := []) (ge_var (pv 1)) (ge_ix (ac := []) (ge_var (pv 2)) ge_int)))))) ga_nil)))))))) rfl rfl

def s_value_in : SM := (sSeq (sAsg (bTup 2 (bCons (bName 4) (bCons (bName 5) bNil))) [0] (dCall 1 m_whole_row (aCons (dVar 0) aNil))) (sSeq (sAsg (bName 2) [] (dC (.int 0))) (sSeq (sFor [5] (dUn revM (dVar 5)) (bName 3) (sAsg (bName 2) [] (dBin addD (dBin mulD (dVar 2) (dVar 1)) (dVar 3)))) (sRet (dCall 2 m_slim (aCons (dVar 2) (aCons (dVar 4) aNil)))))))
def m_value_in : List D → M D := bodyD 6 s_value_in

theorem sc_value_in : FnScope ["poly", "number", "found", "own", "under", "row"] ["poly", "number"] (defScope (topS 31)) := ⟨rfl, rfl, rfl, by decide +kernel, rfl, by decide +kernel, by decide +kernel⟩

theorem bi_value_in {K : PySem.W.Frag} {qual : Str} {f : Addr} {fd : FuncData} (F : Fun K "value_in" qual (topS 31) f fd) : Binds K fd ["poly", "number"] [] := (F.binds (ps := ["poly", "number"]) fun _ _ _ _ _ _ us hl => match us, hl with | [_, _], _ => rfl)

theorem ok_value_in {P : Program} {w : World} {K : PySem.W.Frag} {mg : Mg} {base : Heap} {f : Addr} {fd : FuncData} (F : DefAt K mg "value_in" (topS 31) f fd) (nb : Nb mg) (f_slim : FnK P w K mg base "slim" 2 2 m_slim [] ["over", "under"]) (f_whole_row : FnK P w K mg base "whole_row" 1 3 m_whole_row [] ["poly"]) : FnK P w K mg base "value_in" 2 4 m_value_in [] ["poly", "number"] :=
  fnk_mk F.fn F.mgf sc_value_in (bi_value_in F.fn) (fun j (hj : j ∈ ([] : List Nat)) => nomatch hj) (fun cdv A outer s H E hr tk hp => by
    have nd := sc_value_in.nd
    exact (gss_cons (gs_asg (al := [0]) (gg_tup rfl (ggs_cons (gg_name (i := 4) nd rfl (by first | exact .inl rfl | exact .inr rfl)) (ggs_cons (gg_name (i := 5) nd rfl (by first | exact .inl rfl | exact .inr rfl)) ggs_nil))) (ge_call (f_whole_row.mono (by decide)).d rfl hr tk (ga_cons (al := [0]) (ge_var (pv 0)) ga_nil))) (gss_cons (gs_set (i := 2) (al := []) nd rfl (by first | exact .inl rfl | exact .inr rfl) ge_int) (gss_cons (gs_for hp rfl (gi_rev (al := [5]) nb.reversed (ge_var (pv 5))) (gg_name (i := 3) nd rfl (by first | exact .inl rfl | exact .inr rfl)) (gss_one (gs_set (i := 2) (al := []) nd rfl (by first | exact .inl rfl | exact .inr rfl) (ge_bin op_addD og_add (ac := []) (ge_bin op_mulDi og_mul (ar3 := []) (ac3 := []) (ac := []) (ge_var (pv 2)) (ge_var (pv 1))) (ge_var (pv 3)))))) (gss_one (gs_ret (ge_call (f_slim.mono (by decide)).d rfl hr tk (ga_cons (al := [2, 4]) (ge_var (pv 2)) (ga_cons (al := [4]) (ge_var (pv 4)) ga_nil))))))))) rfl rfl

def s_sure_low : SM := (sSeq (sAsg (bName 1) [0] (dCall 1 m_sure_poly (aCons (dVar 0) aNil))) (sSeq (sIf (dB (dBin gtD (dUn lenD (dVar 1)) (dBin addD (dC k_MOST_BASE) (dC (.int 1))))) (sRaise ⟨"Unfit", none⟩) sNil) (sRet (dVar 1))))
def m_sure_low : List D → M D := bodyD 2 s_sure_low

theorem sc_sure_low : FnScope ["poly", "own"] ["poly"] (defScope (topS 34)) := ⟨rfl, rfl, rfl, by decide +kernel, rfl, by decide +kernel, by decide +kernel⟩

theorem bi_sure_low {K : PySem.W.Frag} {qual : Str} {f : Addr} {fd : FuncData} (F : Fun K "sure_low" qual (topS 34) f fd) : Binds K fd ["poly"] [] := (F.binds (ps := ["poly"]) fun _ _ _ _ _ _ us hl => match us, hl with | [_], _ => rfl)

theorem ok_sure_low {P : Program} {w : World} {K : PySem.W.Frag} {mg : Mg} {base : Heap} {f : Addr} {fd : FuncData} (F : DefAt K mg "sure_low" (topS 34) f fd) (nb : Nb mg) (c_MOST_BASE : Cst K mg "MOST_BASE" k_MOST_BASE) (e_Unfit : ExcN K mg "Unfit") (f_sure_poly : FnK P w K mg base "sure_poly" 1 42 m_sure_poly [] ["value"]) : FnK P w K mg base "sure_low" 1 43 m_sure_low [] ["poly"] :=
  fnk_mk F.fn F.mgf sc_sure_low (bi_sure_low F.fn) (fun j (hj : j ∈ ([] : List Nat)) => nomatch hj) (fun cdv A outer s H E hr tk hp => by
    have nd := sc_sure_low.nd
    exact (gss_cons (gs_set (i := 1) (al := [0]) nd rfl (by first | exact .inl rfl | exact .inr rfl) (ge_call (f_sure_poly.mono (by decide)).d rfl hr tk (ga_cons (al := [0]) (ge_var (pv 0)) ga_nil))) (gss_cons (gs_if (gt_cmp op_gt' (fun _ => og_gt) (nomark _) (ac := []) (geLen nb (ge_var (pv 1))) (ge_bin op_addD og_add (ac := []) (ge_glob c_MOST_BASE) ge_int)) (gss_one (gs_raise rfl rfl tk e_Unfit)) gss_nil) (gss_one (gs_ret (ge_var (pv 1))))))) rfl rfl

def s_round_in : SM := (sSeq (sAsg (bName 3) [] (dCall 2 m_least_of (aCons (dBin ixD (dVar 0) (dC (.int 0))) (aCons (dBin mulD (dBin ixD (dVar 2) (dC (.int 0))) (dBin ixD (dCall 1 m_whole_row (aCons (dVar 1) aNil)) (dC (.int 0)))) aNil)))) (sSeq (sIf (dB (dBin gtD (dVar 3) (dC k_MOST_STEPS))) (sRaise ⟨"TooMany", none⟩) sNil) (sRet (dVar 3))))
def m_round_in : List D → M D := bodyD 4 s_round_in

theorem sc_round_in : FnScope ["own", "poly", "goal", "found"] ["own", "poly", "goal"] (defScope (topS 37)) := ⟨rfl, rfl, rfl, by decide +kernel, rfl, by decide +kernel, by decide +kernel⟩

theorem bi_round_in {K : PySem.W.Frag} {qual : Str} {f : Addr} {fd : FuncData} (F : Fun K "round_in" qual (topS 37) f fd) : Binds K fd ["own", "poly", "goal"] [] := (F.binds (ps := ["own", "poly", "goal"]) fun _ _ _ _ _ _ us hl => match us, hl with | [_, _, _], _ => rfl)

theorem ok_round_in {P : Program} {w : World} {K : PySem.W.Frag} {mg : Mg} {base : Heap} {f : Addr} {fd : FuncData} (F : DefAt K mg "round_in" (topS 37) f fd) (nb : Nb mg) (c_MOST_STEPS : Cst K mg "MOST_STEPS" k_MOST_STEPS) (e_TooMany : ExcN K mg "TooMany") (f_least_of : FnK P w K mg base "least_of" 2 2 m_least_of [] ["one", "other"]) (f_whole_row : FnK P w K mg base "whole_row" 1 3 m_whole_row [] ["poly"]) : FnK P w K mg base "round_in" 3 4 m_round_in [] ["own", "poly", "goal"] :=
  fnk_mk F.fn F.mgf sc_round_in (bi_round_in F.fn) (fun j (hj : j ∈ ([] : List Nat)) => nomatch hj) (fun cdv A outer s H E hr tk hp => by
    have nd := sc_round_in.nd
    exact (gss_cons (gs_set (i := 3) (al := []) nd rfl (by first | exact .inl rfl | exact .inr rfl) (ge_call (f_least_of.mono (by decide)).d rfl hr tk (ga_cons (al := []) (ge_ix (ac := []) (ge_var (pv 0)) ge_int) (ga_cons (al := []) (ge_bin op_mulDi og_mul (ar3 := []) (ac3 := []) (ac := [1]) (ge_ix (ac := []) (ge_var (pv 2)) ge_int) (ge_ix (ac := [1]) (ge_call (f_whole_row.mono (by decide)).d rfl hr tk (ga_cons (al := [1]) (ge_var (pv 1)) ga_nil)) ge_int)) ga_nil)))) (gss_cons (gs_if (gt_cmp op_gt' (fun _ => og_gt) (nomark _) (ac := []) (ge_var (pv 3)) (ge_glob c_MOST_STEPS)) (gss_one (gs_raise rfl rfl tk e_TooMany)) gss_nil) (gss_one (gs_ret (ge_var (pv 3))))))) rfl rfl

def s_is_led_at : SM := (sSeq (sAsg (bTup 2 (bCons (bName 3) (bCons (bName 4) bNil))) [0, 1] (dCall 2 m_value_in (aCons (dVar 0) (aCons (dVar 1) aNil)))) (sRet (dAnd (dBin eqD (dVar 4) (dC (.int 1))) (dCall 2 m_has_member (aCons (dVar 2) (aCons (dVar 3) aNil))))))
def m_is_led_at : List D → M D := bodyD 5 s_is_led_at

theorem sc_is_led_at : FnScope ["poly", "number", "goal", "over", "under"] ["poly", "number", "goal"] (defScope (topS 38)) := ⟨rfl, rfl, rfl, by decide +kernel, rfl, by decide +kernel, by decide +kernel⟩

theorem bi_is_led_at {K : PySem.W.Frag} {qual : Str} {f : Addr} {fd : FuncData} (F : Fun K "is_led_at" qual (topS 38) f fd) : Binds K fd ["poly", "number", "goal"] [] := (F.binds (ps := ["poly", "number", "goal"]) fun _ _ _ _ _ _ us hl => match us, hl with | [_, _, _], _ => rfl)

theorem ok_is_led_at {P : Program} {w : World} {K : PySem.W.Frag} {mg : Mg} {base : Heap} {f : Addr} {fd : FuncData} (F : DefAt K mg "is_led_at" (topS 38) f fd) (nb : Nb mg) (f_has_member : FnK P w K mg base "has_member" 2 1 m_has_member [] ["own", "number"]) (f_value_in : FnK P w K mg base "value_in" 2 4 m_value_in [] ["poly", "number"]) : FnK P w K mg base "is_led_at" 3 5 m_is_led_at [] ["poly", "number", "goal"] :=
  fnk_mk F.fn F.mgf sc_is_led_at (bi_is_led_at F.fn) (fun j (hj : j ∈ ([] : List Nat)) => nomatch hj) (fun cdv A outer s H E hr tk hp => by
    have nd := sc_is_led_at.nd
    exact (gss_cons (gs_asg (al := [0, 1]) (gg_tup rfl (ggs_cons (gg_name (i := 3) nd rfl (by first | exact .inl rfl | exact .inr rfl)) (ggs_cons (gg_name (i := 4) nd rfl (by first | exact .inl rfl | exact .inr rfl)) ggs_nil))) (ge_call (f_value_in.mono (by decide)).d rfl hr tk (ga_cons (al := [0, 1]) (ge_var (pv 0)) (ga_cons (al := [1]) (ge_var (pv 1)) ga_nil)))) (gss_one (gs_ret (ge_and (ar := [2, 3]) (ac := [2, 3]) (ge_cmp (op_eqD hr.units) og_eq (nomark _) (ac := []) (ge_var (pv 4)) ge_int) (ge_one (ge_call (f_has_member.mono (by decide)).d rfl hr tk (ga_cons (al := [2, 3]) (ge_var (pv 2)) (ga_cons (al := [3]) (ge_var (pv 3)) ga_nil))))))))) rfl rfl

def s_out_in : SM := (sSeq (sAsg (bName 3) [0, 1, 2] (dIf (dB (dBin neD (dBin ixD (dVar 0) (dC (.int 1))) (dTup aNil))) (dCall 3 m_round_in (aCons (dVar 0) (aCons (dVar 1) (aCons (dVar 2) aNil)))) (dC (.int 1)))) (sSeq (sFor [] (dUn seqM (dBin ixD (dVar 0) (dC (.int 1)))) (bName 4) (sFor [] (dTri rng3 (dVar 4) (dVar 3) (dBin ixD (dVar 0) (dC (.int 0)))) (bName 6) (sFor [] (dUn rng1 (dBin addD (dBin mulD (dUn lenD (dBin ixD (dVar 2) (dC (.int 2)))) (dBin maxD (dUn lenD (dVar 1)) (dC (.int 1)))) (dC (.int 2)))) (bName 7) (sSeq (sIf (dNotT (dTru (dCall 3 m_is_led_at (aCons (dVar 1) (aCons (dBin addD (dVar 6) (dBin mulD (dVar 7) (dVar 3))) (aCons (dVar 2) aNil)))))) (sRet (dBin addD (dVar 6) (dBin mulD (dVar 7) (dVar 3)))) sNil) (sIf (dB (dBin (inD false) (dBin modD (dBin ixD (dCall 2 m_value_in (aCons (dVar 1) (aCons (dBin addD (dVar 6) (dBin mulD (dVar 7) (dVar 3))) aNil))) (dC (.int 0))) (dBin ixD (dVar 2) (dC (.int 0)))) (dBin ixD (dVar 2) (dC (.int 1))))) sBreak sNil))))) (sSeq (sOwn 5 [8] (dComp3 [] [8] [8] (dUn seqM (dBin ixD (dVar 0) (dC (.int 2)))) (bName 8) (dNotT (dTru (dCall 3 m_is_led_at (aCons (dVar 1) (aCons (dVar 8) (aCons (dVar 2) aNil)))))) (dVar 8))) (sRet (dIf (dB (dBin neD (dVar 5) (dL (dLst aNil)))) (dBin ixD (dVar 5) (dC (.int 0))) (dC .non))))))
def m_out_in : List D → M D := bodyD 9 s_out_in

theorem sc_out_in : FnScope ["own", "poly", "goal", "step", "rest", "bad", "number", "lap", "its"] ["own", "poly", "goal"] (defScope (topS 39)) := ⟨rfl, rfl, rfl, by decide +kernel, rfl, by decide +kernel, by decide +kernel⟩

theorem bi_out_in {K : PySem.W.Frag} {qual : Str} {f : Addr} {fd : FuncData} (F : Fun K "out_in" qual (topS 39) f fd) : Binds K fd ["own", "poly", "goal"] [] := (F.binds (ps := ["own", "poly", "goal"]) fun _ _ _ _ _ _ us hl => match us, hl with | [_, _, _], _ => rfl)

theorem ok_out_in {P : Program} {w : World} {K : PySem.W.Frag} {mg : Mg} {base : Heap} {f : Addr} {fd : FuncData} (F : DefAt K mg "out_in" (topS 39) f fd) (nb : Nb mg) (f_is_led_at : FnK P w K mg base "is_led_at" 3 5 m_is_led_at [] ["poly", "number", "goal"]) (f_round_in : FnK P w K mg base "round_in" 3 4 m_round_in [] ["own", "poly", "goal"]) (f_value_in : FnK P w K mg base "value_in" 2 4 m_value_in [] ["poly", "number"]) : FnK P w K mg base "out_in" 3 6 m_out_in [] ["own", "poly", "goal"] :=
  fnk_mk F.fn F.mgf sc_out_in (bi_out_in F.fn) (fun j (hj : j ∈ ([] : List Nat)) => nomatch hj) (fun cdv A outer s H E hr tk hp => by
    have nd := sc_out_in.nd
    exact (gss_cons (gs_set (i := 3) (al := [0, 1, 2]) nd rfl (by first | exact .inl rfl | exact .inr rfl) (ge_if (ar := [0, 1, 2]) (ac := [0, 1, 2]) (gt_cmp (op_neD hr.units) (fun _ => og_ne) (nomark _) (ac := []) (ge_ix (ac := []) (ge_var (pv 0)) ge_int) (ge_tup ga_nil)) (ge_call (f_round_in.mono (by decide)).d rfl hr tk (ga_cons (al := [0, 1, 2]) (ge_var (pv 0)) (ga_cons (al := [1, 2]) (ge_var (pv 1)) (ga_cons (al := [2]) (ge_var (pv 2)) ga_nil)))) ge_int)) (gss_cons (gs_for hp rfl (gi_seq (al := []) (ge_ix (ac := []) (ge_var (pv 0)) ge_int)) (gg_name (i := 4) nd rfl (by first | exact .inl rfl | exact .inr rfl)) (gss_one (gs_for hp rfl (gi_range3 nb.range (ge_var (pv 4)) (ge_var (pv 3)) (ge_ix (ac := []) (ge_var (pv 0)) ge_int)) (gg_name (i := 6) nd rfl (by first | exact .inl rfl | exact .inr rfl)) (gss_one (gs_for hp rfl (gi_range1 nb.range (ge_bin op_addD og_add (ac := []) (ge_bin op_mulDi og_mul (ar3 := []) (ac3 := []) (ac := []) (geLen nb (ge_ix (ac := []) (ge_var (pv 2)) ge_int)) (geMax2 rfl nb (geLen nb (ge_var (pv 1))) ge_int)) ge_int)) (gg_name (i := 7) nd rfl (by first | exact .inl rfl | exact .inr rfl)) (gss_cons (gs_if (gt_not (gt_val (ge_call (f_is_led_at.mono (by decide)).d rfl hr tk (ga_cons (al := [1, 2]) (ge_var (pv 1)) (ga_cons (al := [2]) (ge_bin op_addD og_add (ac := []) (ge_var (pv 6)) (ge_bin op_mulDi og_mul (ar3 := []) (ac3 := []) (ac := []) (ge_var (pv 7)) (ge_var (pv 3)))) (ga_cons (al := [2]) (ge_var (pv 2)) ga_nil)))))) (gss_one (gs_ret (ge_bin op_addD og_add (ac := []) (ge_var (pv 6)) (ge_bin op_mulDi og_mul (ar3 := []) (ac3 := []) (ac := []) (ge_var (pv 7)) (ge_var (pv 3)))))) gss_nil) (gss_one (gs_if (gt_cmp op_inD (fun _ => og_in) (by rfl) (ac := []) (ge_bin op_modN og_mod (ar3 := []) (ac3 := []) (ac := [1]) (ge_ix (ac := [1]) (ge_call (f_value_in.mono (by decide)).d rfl hr tk (ga_cons (al := [1]) (ge_var (pv 1)) (ga_cons (al := []) (ge_bin op_addD og_add (ac := []) (ge_var (pv 6)) (ge_bin op_mulDi og_mul (ar3 := []) (ac3 := []) (ac := []) (ge_var (pv 7)) (ge_var (pv 3)))) ga_nil))) ge_int) (ge_ix (ac := []) (ge_var (pv 2)) ge_int)) (ge_ix (ac := []) (ge_var (pv 2)) ge_int)) (gss_one gs_break) gss_nil)))))))) (gss_cons (gs_ownC (i := 5) (own := [("its", 8)]) (ac3 := [8]) rfl nd rfl rfl (sw_true rfl rfl rfl (by decide +kernel)) (gi_seq (al := []) (ge_ix (ac := []) (ge_var (pv 0)) ge_int)) (blkOk_by (N := ["own", "poly", "goal", "step", "rest", "bad", "number", "lap", "its"]) (sc := defScope (topS 39)) (by decide +kernel)) (fun _ _ _ _ _ => (gg_name (i := 8) nd rfl (by first | exact .inl rfl | exact .inr rfl))) (fun _ _ _ _ _ => (gts_one (gt_not (gt_val (ge_call (f_is_led_at.mono (by decide)).d rfl hr takesN (ga_cons (al := [1, 2, 8]) (ge_var (pv 1)) (ga_cons (al := [2, 8]) (ge_var (pv 8)) (ga_cons (al := [2]) (ge_var (pv 2)) ga_nil)))))))) (fun _ _ _ _ _ => (ge_var (pv 8)))) (gss_one (gs_ret (ge_if (ar := []) (ac := []) (gt_cmp (op_neD hr.units) (fun _ => og_ne) (nomark _) (ac := []) (ge_var (pv 5)) (GF.ge (gf_lst ga_nil))) (ge_ix (ac := []) (ge_var (pv 5)) ge_int) ge_non))))))) rfl rfl

def s_sure_lead : SM := (sSeq (sAsg (bName 3) [0] (dCall 1 m_sure_set (aCons (dVar 0) aNil))) (sSeq (sAsg (bName 4) [1] (dCall 1 m_sure_low (aCons (dVar 1) aNil))) (sRet (dTup (aCons (dVar 3) (aCons (dVar 4) (aCons (dCall 1 m_sure_set (aCons (dVar 2) aNil)) aNil)))))))
def m_sure_lead : List D → M D := bodyD 5 s_sure_lead

theorem sc_sure_lead : FnScope ["one", "poly", "other", "own", "told"] ["one", "poly", "other"] (defScope (topS 40)) := ⟨rfl, rfl, rfl, by decide +kernel, rfl, by decide +kernel, by decide +kernel⟩

theorem bi_sure_lead {K : PySem.W.Frag} {qual : Str} {f : Addr} {fd : FuncData} (F : Fun K "sure_lead" qual (topS 40) f fd) : Binds K fd ["one", "poly", "other"] [] := (F.binds (ps := ["one", "poly", "other"]) fun _ _ _ _ _ _ us hl => match us, hl with | [_, _, _], _ => rfl)

theorem ok_sure_lead {P : Program} {w : World} {K : PySem.W.Frag} {mg : Mg} {base : Heap} {f : Addr} {fd : FuncData} (F : DefAt K mg "sure_lead" (topS 40) f fd) (nb : Nb mg) (f_sure_low : FnK P w K mg base "sure_low" 1 43 m_sure_low [] ["poly"]) (f_sure_set : FnK P w K mg base "sure_set" 1 42 m_sure_set [] ["value"]) : FnK P w K mg base "sure_lead" 3 44 m_sure_lead [] ["one", "poly", "other"] :=
  fnk_mk F.fn F.mgf sc_sure_lead (bi_sure_lead F.fn) (fun j (hj : j ∈ ([] : List Nat)) => nomatch hj) (fun cdv A outer s H E hr tk hp => by
    have nd := sc_sure_lead.nd
    exact (gss_cons (gs_set (i := 3) (al := [0]) nd rfl (by first | exact .inl rfl | exact .inr rfl) (ge_call (f_sure_set.mono (by decide)).d rfl hr tk (ga_cons (al := [0]) (ge_var (pv 0)) ga_nil))) (gss_cons (gs_set (i := 4) (al := [1]) nd rfl (by first | exact .inl rfl | exact .inr rfl) (ge_call (f_sure_low.mono (by decide)).d rfl hr tk (ga_cons (al := [1]) (ge_var (pv 1)) ga_nil))) (gss_one (gs_ret (ge_tup (ga_cons (al := [2, 3, 4]) (ge_var (pv 3)) (ga_cons (al := [2, 4]) (ge_var (pv 4)) (ga_cons (al := [2]) (ge_call (f_sure_set.mono (by decide)).d rfl hr tk (ga_cons (al := [2]) (ge_var (pv 2)) ga_nil)) ga_nil))))))))) rfl rfl

def s_leads_into : SM := (sSeq (sAsg (bTup 3 (bCons (bName 3) (bCons (bName 4) (bCons (bName 5) bNil)))) [0, 1, 2] (dCall 3 m_sure_lead (aCons (dVar 0) (aCons (dVar 1) (aCons (dVar 2) aNil))))) (sRet (dBin isD (dCall 3 m_out_in (aCons (dVar 3) (aCons (dVar 4) (aCons (dVar 5) aNil)))) (dC .non))))
def m_leads_into : List D → M D := bodyD 6 s_leads_into

theorem sc_leads_into : FnScope ["one", "poly", "other", "own", "told", "goal"] ["one", "poly", "other"] (defScope (topS 41)) := ⟨rfl, rfl, rfl, by decide +kernel, rfl, by decide +kernel, by decide +kernel⟩

theorem bi_leads_into {K : PySem.W.Frag} {qual : Str} {f : Addr} {fd : FuncData} (F : Fun K "leads_into" qual (topS 41) f fd) : Binds K fd ["one", "poly", "other"] [] := (F.binds (ps := ["one", "poly", "other"]) fun _ _ _ _ _ _ us hl => match us, hl with | [_, _, _], _ => rfl)

theorem ok_leads_into {P : Program} {w : World} {K : PySem.W.Frag} {mg : Mg} {base : Heap} {f : Addr} {fd : FuncData} (F : DefAt K mg "leads_into" (topS 41) f fd) (nb : Nb mg) (f_out_in : FnK P w K mg base "out_in" 3 6 m_out_in [] ["own", "poly", "goal"]) (f_sure_lead : FnK P w K mg base "sure_lead" 3 44 m_sure_lead [] ["one", "poly", "other"]) : FnK P w K mg base "leads_into" 3 45 m_leads_into [0] ["one", "poly", "other"] :=
  fnk_mk F.fn F.mgf sc_leads_into (bi_leads_into F.fn) (by
    obtain ⟨oc, od, kV, doc, pm, an, cdv, ct, osl, rfl, lk, hcd⟩ := F.fn.ex
    intro j hj
    simp only [List.mem_cons, List.not_mem_nil, or_false] at hj
    rcases hj with rfl
    · exact kb_mk (by decide) fun us ws h1 h2 => match us, ws, h1, h2 with | [], [_, _, _], _, _ => rfl
    ) (fun cdv A outer s H E hr tk hp => by
    have nd := sc_leads_into.nd
    exact (gss_cons (gs_asg (al := [0, 1, 2]) (gg_tup rfl (ggs_cons (gg_name (i := 3) nd rfl (by first | exact .inl rfl | exact .inr rfl)) (ggs_cons (gg_name (i := 4) nd rfl (by first | exact .inl rfl | exact .inr rfl)) (ggs_cons (gg_name (i := 5) nd rfl (by first | exact .inl rfl | exact .inr rfl)) ggs_nil)))) (ge_call (f_sure_lead.mono (by decide)).d rfl hr tk (ga_cons (al := [0, 1, 2]) (ge_var (pv 0)) (ga_cons (al := [1, 2]) (ge_var (pv 1)) (ga_cons (al := [2]) (ge_var (pv 2)) ga_nil))))) (gss_one (gs_ret (ge_cmp op_isD og_is (nomark _) (ac := [3, 4, 5]) (ge_call (f_out_in.mono (by decide)).d rfl hr tk (ga_cons (al := [3, 4, 5]) (ge_var (pv 3)) (ga_cons (al := [4, 5]) (ge_var (pv 4)) (ga_cons (al := [5]) (ge_var (pv 5)) ga_nil)))) ge_non))))) rfl rfl

def s_why_no_lead : SM := (sSeq (sAsg (bTup 3 (bCons (bName 4) (bCons (bName 5) (bCons (bName 6) bNil)))) [0, 1, 2] (dCall 3 m_sure_lead (aCons (dVar 0) (aCons (dVar 1) (aCons (dVar 2) aNil))))) (sSeq (sAsg (bName 3) [4, 5, 6] (dCall 3 m_out_in (aCons (dVar 4) (aCons (dVar 5) (aCons (dVar 6) aNil))))) (sSeq (sIf (dB (dBin isD (dVar 3) (dC .non))) (sRaise ⟨"CanNot", none⟩) sNil) (sRet (dVar 3)))))
def m_why_no_lead : List D → M D := bodyD 7 s_why_no_lead

theorem sc_why_no_lead : FnScope ["one", "poly", "other", "found", "own", "told", "goal"] ["one", "poly", "other"] (defScope (topS 42)) := ⟨rfl, rfl, rfl, by decide +kernel, rfl, by decide +kernel, by decide +kernel⟩

theorem bi_why_no_lead {K : PySem.W.Frag} {qual : Str} {f : Addr} {fd : FuncData} (F : Fun K "why_no_lead" qual (topS 42) f fd) : Binds K fd ["one", "poly", "other"] [] := (F.binds (ps := ["one", "poly", "other"]) fun _ _ _ _ _ _ us hl => match us, hl with | [_, _, _], _ => rfl)

theorem ok_why_no_lead {P : Program} {w : World} {K : PySem.W.Frag} {mg : Mg} {base : Heap} {f : Addr} {fd : FuncData} (F : DefAt K mg "why_no_lead" (topS 42) f fd) (nb : Nb mg) (e_CanNot : ExcN K mg "CanNot") (f_out_in : FnK P w K mg base "out_in" 3 6 m_out_in [] ["own", "poly", "goal"]) (f_sure_lead : FnK P w K mg base "sure_lead" 3 44 m_sure_lead [] ["one", "poly", "other"]) : FnK P w K mg base "why_no_lead" 3 45 m_why_no_lead [0] ["one", "poly", "other"] :=
  fnk_mk F.fn F.mgf sc_why_no_lead (bi_why_no_lead F.fn) (by
    obtain ⟨oc, od, kV, doc, pm, an, cdv, ct, osl, rfl, lk, hcd⟩ := F.fn.ex
    intro j hj
    simp only [List.mem_cons, List.not_mem_nil, or_false] at hj
    rcases hj with rfl
    · exact kb_mk (by decide) fun us ws h1 h2 => match us, ws, h1, h2 with | [], [_, _, _], _, _ => rfl
    ) (fun cdv A outer s H E hr tk hp => by
    have nd := sc_why_no_lead.nd
    exact (gss_cons (gs_asg (al := [0, 1, 2]) (gg_tup rfl (ggs_cons (gg_name (i := 4) nd rfl (by first | exact .inl rfl | exact .inr rfl)) (ggs_cons (gg_name (i := 5) nd rfl (by first | exact .inl rfl | exact .inr rfl)) (ggs_cons (gg_name (i := 6) nd rfl (by first | exact .inl rfl | exact .inr rfl)) ggs_nil)))) (ge_call (f_sure_lead.mono (by decide)).d rfl hr tk (ga_cons (al := [0, 1, 2]) (ge_var (pv 0)) (ga_cons (al := [1, 2]) (ge_var (pv 1)) (ga_cons (al := [2]) (ge_var (pv 2)) ga_nil))))) (gss_cons (gs_set (i := 3) (al := [4, 5, 6]) nd rfl (by first | exact .inl rfl | exact .inr rfl) (ge_call (f_out_in.mono (by decide)).d rfl hr tk (ga_cons (al := [4, 5, 6]) (ge_var (pv 4)) (ga_cons (al := [5, 6]) (ge_var (pv 5)) (ga_cons (al := [6]) (ge_var (pv 6)) ga_nil))))) (gss_cons (gs_if (gt_cmp op_isD (fun _ => og_is) (nomark _) (ac := []) (ge_var (pv 3)) ge_non) (gss_one (gs_raise rfl rfl tk e_CanNot)) gss_nil) (gss_one (gs_ret (ge_var (pv 3)))))))) rfl rfl

def s_is_why_no_lead : SM := (sSeq (sAsg (bTup 3 (bCons (bName 4) (bCons (bName 5) (bCons (bName 6) bNil)))) [0, 1, 2] (dCall 3 m_sure_lead (aCons (dVar 0) (aCons (dVar 1) (aCons (dVar 2) aNil))))) (sRet (dAnd (dCall 1 m_is_number (aCons (dVar 3) aNil)) (dAnd (dCall 2 m_has_member (aCons (dVar 4) (aCons (dVar 3) aNil))) (dNot (dCall 3 m_is_led_at (aCons (dVar 5) (aCons (dVar 3) (aCons (dVar 6) aNil)))))))))
def m_is_why_no_lead : List D → M D := bodyD 7 s_is_why_no_lead

theorem sc_is_why_no_lead : FnScope ["one", "poly", "other", "thing", "own", "told", "goal"] ["one", "poly", "other", "thing"] (defScope (topS 43)) := ⟨rfl, rfl, rfl, by decide +kernel, rfl, by decide +kernel, by decide +kernel⟩

theorem bi_is_why_no_lead {K : PySem.W.Frag} {qual : Str} {f : Addr} {fd : FuncData} (F : Fun K "is_why_no_lead" qual (topS 43) f fd) : Binds K fd ["one", "poly", "other", "thing"] [] := (F.binds (ps := ["one", "poly", "other", "thing"]) fun _ _ _ _ _ _ us hl => match us, hl with | [_, _, _, _], _ => rfl)

theorem ok_is_why_no_lead {P : Program} {w : World} {K : PySem.W.Frag} {mg : Mg} {base : Heap} {f : Addr} {fd : FuncData} (F : DefAt K mg "is_why_no_lead" (topS 43) f fd) (nb : Nb mg) (f_has_member : FnK P w K mg base "has_member" 2 1 m_has_member [] ["own", "number"]) (f_is_led_at : FnK P w K mg base "is_led_at" 3 5 m_is_led_at [] ["poly", "number", "goal"]) (f_is_number : FnK P w K mg base "is_number" 1 1 m_is_number [] ["thing"]) (f_sure_lead : FnK P w K mg base "sure_lead" 3 44 m_sure_lead [] ["one", "poly", "other"]) : FnK P w K mg base "is_why_no_lead" 4 45 m_is_why_no_lead [] ["one", "poly", "other", "thing"] :=
  fnk_mk F.fn F.mgf sc_is_why_no_lead (bi_is_why_no_lead F.fn) (fun j (hj : j ∈ ([] : List Nat)) => nomatch hj) (fun cdv A outer s H E hr tk hp => by
    have nd := sc_is_why_no_lead.nd
    exact (gss_cons (gs_asg (al := [0, 1, 2]) (gg_tup rfl (ggs_cons (gg_name (i := 4) nd rfl (by first | exact .inl rfl | exact .inr rfl)) (ggs_cons (gg_name (i := 5) nd rfl (by first | exact .inl rfl | exact .inr rfl)) (ggs_cons (gg_name (i := 6) nd rfl (by first | exact .inl rfl | exact .inr rfl)) ggs_nil)))) (ge_call (f_sure_lead.mono (by decide)).d rfl hr tk (ga_cons (al := [0, 1, 2]) (ge_var (pv 0)) (ga_cons (al := [1, 2]) (ge_var (pv 1)) (ga_cons (al := [2]) (ge_var (pv 2)) ga_nil))))) (gss_one (gs_ret (ge_and (ar := [3, 4]) (ac := [3, 4]) (ge_call (f_is_number.mono (by decide)).d rfl hr tk (ga_cons (al := [3]) (ge_var (pv 3)) ga_nil)) (ge_and (ar := [3, 4]) (ac := [3, 4]) (ge_call (f_has_member.mono (by decide)).d rfl hr tk (ga_cons (al := [3, 4]) (ge_var (pv 4)) (ga_cons (al := [3]) (ge_var (pv 3)) ga_nil))) (ge_one (ge_not (ge_call (f_is_led_at.mono (by decide)).d rfl hr tk (ga_cons (al := [3, 5, 6]) (ge_var (pv 5)) (ga_cons (al := [3, 6]) (ge_var (pv 3)) (ga_cons (al := [6]) (ge_var (pv 6)) ga_nil)))))))))))) rfl rfl

def s_lead_round : SM := (sSeq (sAsg (bTup 3 (bCons (bName 3) (bCons (bName 4) (bCons (bName 5) bNil)))) [0, 1, 2] (dCall 3 m_sure_lead (aCons (dVar 0) (aCons (dVar 1) (aCons (dVar 2) aNil))))) (sRet (dCall 3 m_round_in (aCons (dVar 3) (aCons (dVar 4) (aCons (dVar 5) aNil))))))
def m_lead_round : List D → M D := bodyD 6 s_lead_round

theorem sc_lead_round : FnScope ["one", "poly", "other", "own", "told", "goal"] ["one", "poly", "other"] (defScope (topS 44)) := ⟨rfl, rfl, rfl, by decide +kernel, rfl, by decide +kernel, by decide +kernel⟩

theorem bi_lead_round {K : PySem.W.Frag} {qual : Str} {f : Addr} {fd : FuncData} (F : Fun K "lead_round" qual (topS 44) f fd) : Binds K fd ["one", "poly", "other"] [] := (F.binds (ps := ["one", "poly", "other"]) fun _ _ _ _ _ _ us hl => match us, hl with | [_, _, _], _ => rfl)

theorem ok_lead_round {P : Program} {w : World} {K : PySem.W.Frag} {mg : Mg} {base : Heap} {f : Addr} {fd : FuncData} (F : DefAt K mg "lead_round" (topS 44) f fd) (nb : Nb mg) (f_round_in : FnK P w K mg base "round_in" 3 4 m_round_in [] ["own", "poly", "goal"]) (f_sure_lead : FnK P w K mg base "sure_lead" 3 44 m_sure_lead [] ["one", "poly", "other"]) : FnK P w K mg base "lead_round" 3 45 m_lead_round [0] ["one", "poly", "other"] :=
  fnk_mk F.fn F.mgf sc_lead_round (bi_lead_round F.fn) (by
    obtain ⟨oc, od, kV, doc, pm, an, cdv, ct, osl, rfl, lk, hcd⟩ := F.fn.ex
    intro j hj
    simp only [List.mem_cons, List.not_mem_nil, or_false] at hj
    rcases hj with rfl
    · exact kb_mk (by decide) fun us ws h1 h2 => match us, ws, h1, h2 with | [], [_, _, _], _, _ => rfl
    ) (fun cdv A outer s H E hr tk hp => by
    have nd := sc_lead_round.nd
    exact (gss_cons (gs_asg (al := [0, 1, 2]) (gg_tup rfl (ggs_cons (gg_name (i := 3) nd rfl (by first | exact .inl rfl | exact .inr rfl)) (ggs_cons (gg_name (i := 4) nd rfl (by first | exact .inl rfl | exact .inr rfl)) (ggs_cons (gg_name (i := 5) nd rfl (by first | exact .inl rfl | exact .inr rfl)) ggs_nil)))) (ge_call (f_sure_lead.mono (by decide)).d rfl hr tk (ga_cons (al := [0, 1, 2]) (ge_var (pv 0)) (ga_cons (al := [1, 2]) (ge_var (pv 1)) (ga_cons (al := [2]) (ge_var (pv 2)) ga_nil))))) (gss_one (gs_ret (ge_call (f_round_in.mono (by decide)).d rfl hr tk (ga_cons (al := [3, 4, 5]) (ge_var (pv 3)) (ga_cons (al := [4, 5]) (ge_var (pv 4)) (ga_cons (al := [5]) (ge_var (pv 5)) ga_nil)))))))) rfl rfl

def s__law_box : SM := (sSeq (sAsg (bName 2) [] (dIf (dB (dBin ltD (dVar 1) (dUn lenD (dVar 0)))) (dBin ixD (dVar 0) (dVar 1)) (dC (.int 0)))) (sRet (dBox (dLst (aCons (dBin mulD (dUn absD (dVar 2)) (dUn toIntD (dBin geD (dUn absD (dVar 2)) (dBin powD (dC (.int 10)) (dC (.int 18)))))) (aCons (dBin addD (dBin addD (dBin modD (dUn toIntD (dVar 2)) (dC (.int 2305843009213693951))) (dBin mulD (dC (.int 39373)) (dVar 1))) (dC (.int 25155018))) (aCons (dC (.int 0)) aNil)))))))
def m__law_box : List D → M D := bodyD 3 s__law_box

theorem sc__law_box : FnScope ["script", "k", "bit_so"] ["script", "k"] (defScope (topS 46)) := ⟨rfl, rfl, rfl, by decide +kernel, rfl, by decide +kernel, by decide +kernel⟩

theorem bi__law_box {K : PySem.W.Frag} {qual : Str} {f : Addr} {fd : FuncData} (F : Fun K "_law_box" qual (topS 46) f fd) : Binds K fd ["script", "k"] [] := (F.binds (ps := ["script", "k"]) fun _ _ _ _ _ _ us hl => match us, hl with | [_, _], _ => rfl)

theorem ok__law_box {P : Program} {w : World} {K : PySem.W.Frag} {mg : Mg} {base : Heap} {f : Addr} {fd : FuncData} (F : DefAt K mg "_law_box" (topS 46) f fd) (nb : Nb mg)  : FnK P w K mg base "_law_box" 2 1 m__law_box [] ["script", "k"] :=
  fnk_mk F.fn F.mgf sc__law_box (bi__law_box F.fn) (fun j (hj : j ∈ ([] : List Nat)) => nomatch hj) (fun cdv A outer s H E hr tk hp => by
    have nd := sc__law_box.nd
    exact (gss_cons (gs_set (i := 2) (al := []) nd rfl (by first | exact .inl rfl | exact .inr rfl) (ge_if (ar := []) (ac := []) (gt_cmp op_lt' (fun _ => og_lt) (nomark _) (ac := []) (ge_var (pv 1)) (geLen nb (ge_var (pv 0)))) (ge_ix (ac := []) (ge_var (pv 0)) (ge_var (pv 1))) ge_int)) (gss_one (gs_ret (ge_box (gf_lst (ga_cons (al := []) (ge_bin op_mulDi og_mul (ar3 := []) (ac3 := []) (ac := []) (geAbs nb (ge_var (pv 2))) (geInt nb (ge_cmp op_ge' og_ge (nomark _) (ac := []) (geAbs nb (ge_var (pv 2))) (ge_bin op_pow og_pow (ar3 := []) (ac3 := []) (ac := []) ge_int ge_int)))) (ga_cons (al := []) (ge_bin op_addD og_add (ac := []) (ge_bin op_addD og_add (ac := []) (ge_bin op_modN og_mod (ar3 := []) (ac3 := []) (ac := []) (geInt nb (ge_var (pv 2))) ge_int) (ge_bin op_mulDi og_mul (ar3 := []) (ac3 := []) (ac := []) ge_int (ge_var (pv 1)))) ge_int) (ga_cons (al := []) ge_int ga_nil))))))))) rfl rfl

def s__law_take : SM := (sSeq (sIf (dB (dBin gtD (dBin ixD (dVar 0) (dC (.int 0))) (dC (.int 0)))) (sSeq (sAsg (bName 5) [] (dBin modD (dUn toIntD (dBin ixD (dVar 0) (dC (.int 0)))) (dVar 1))) (sSeq (sBoxSet 0 (dC (.int 0)) (dBin divD (dBin ixD (dVar 0) (dC (.int 0))) (dVar 1))) (sRet (dVar 5)))) sNil) (sSeq (sBoxSet 0 (dC (.int 2)) (dBin addD (dBin ixD (dVar 0) (dC (.int 2))) (dC (.int 1)))) (sSeq (sAsg (bName 2) [] (dBin modD (dUn toIntD (dBin mulD (dBin addD (dBin ixD (dVar 0) (dC (.int 1))) (dBin mulD (dC (.int 48271)) (dBin ixD (dVar 0) (dC (.int 2))))) (dBin addD (dC (.int 39373)) (dBin ixD (dVar 0) (dC (.int 2)))))) (dC (.int 2147483647)))) (sSeq (sAsg (bName 3) [] (dBin addD (dBin modD (dUn toIntD (dVar 2)) (dC (.int 40009))) (dC (.int 7)))) (sSeq (sAsg (bName 4) [] (dBin modD (dUn toIntD (dBin mulD (dBin addD (dBin addD (dVar 2) (dBin ixD (dVar 0) (dC (.int 2)))) (dBin divD (dBin ixD (dVar 0) (dC (.int 1))) (dC (.int 1000003)))) (dVar 3))) (dC (.int 2147483629)))) (sRet (dBin modD (dUn toIntD (dBin divD (dBin modD (dUn toIntD (dBin addD (dBin mulD (dVar 4) (dC (.int 48271))) (dVar 2))) (dC (.int 2147483587))) (dC (.int 64)))) (dVar 1))))))))
def m__law_take : List D → M D := bodyD 6 s__law_take

theorem sc__law_take : FnScope ["tin", "below_so", "once_so", "wide_so", "twice_so", "drawn_so"] ["tin", "below_so"] (defScope (topS 47)) := ⟨rfl, rfl, rfl, by decide +kernel, rfl, by decide +kernel, by decide +kernel⟩

theorem bi__law_take {K : PySem.W.Frag} {qual : Str} {f : Addr} {fd : FuncData} (F : Fun K "_law_take" qual (topS 47) f fd) : Binds K fd ["tin", "below_so"] [] := (F.binds (ps := ["tin", "below_so"]) fun _ _ _ _ _ _ us hl => match us, hl with | [_, _], _ => rfl)

theorem ok__law_take {P : Program} {w : World} {K : PySem.W.Frag} {mg : Mg} {base : Heap} {f : Addr} {fd : FuncData} (F : DefAt K mg "_law_take" (topS 47) f fd) (nb : Nb mg)  : FnK P w K mg base "_law_take" 2 1 m__law_take [] ["tin", "below_so"] :=
  fnk_mk F.fn F.mgf sc__law_take (bi__law_take F.fn) (fun j (hj : j ∈ ([] : List Nat)) => nomatch hj) (fun cdv A outer s H E hr tk hp => by
    have nd := sc__law_take.nd
    exact (gss_cons (gs_if (gt_cmp op_gt' (fun _ => og_gt) (nomark _) (ac := []) (ge_ix (ac := []) (ge_var (pv 0)) ge_int) ge_int) (gss_cons (gs_set (i := 5) (al := []) nd rfl (by first | exact .inl rfl | exact .inr rfl) (ge_bin op_modN og_mod (ar3 := []) (ac3 := []) (ac := []) (geInt nb (ge_ix (ac := []) (ge_var (pv 0)) ge_int)) (ge_var (pv 1)))) (gss_cons (gs_boxset (pv 0) ge_int (ge_bin op_divD og_div (ar3 := []) (ac3 := []) (ac := []) (ge_ix (ac := []) (ge_var (pv 0)) ge_int) (ge_var (pv 1)))) (gss_one (gs_ret (ge_var (pv 5)))))) gss_nil) (gss_cons (gs_boxset (pv 0) ge_int (ge_bin op_addD og_add (ac := []) (ge_ix (ac := []) (ge_var (pv 0)) ge_int) ge_int)) (gss_cons (gs_set (i := 2) (al := []) nd rfl (by first | exact .inl rfl | exact .inr rfl) (ge_bin op_modN og_mod (ar3 := []) (ac3 := []) (ac := []) (geInt nb (ge_bin op_mulDi og_mul (ar3 := []) (ac3 := []) (ac := []) (ge_bin op_addD og_add (ac := []) (ge_ix (ac := []) (ge_var (pv 0)) ge_int) (ge_bin op_mulDi og_mul (ar3 := []) (ac3 := []) (ac := []) ge_int (ge_ix (ac := []) (ge_var (pv 0)) ge_int))) (ge_bin op_addD og_add (ac := []) ge_int (ge_ix (ac := []) (ge_var (pv 0)) ge_int)))) ge_int)) (gss_cons (gs_set (i := 3) (al := []) nd rfl (by first | exact .inl rfl | exact .inr rfl) (ge_bin op_addD og_add (ac := []) (ge_bin op_modN og_mod (ar3 := []) (ac3 := []) (ac := []) (geInt nb (ge_var (pv 2))) ge_int) ge_int)) (gss_cons (gs_set (i := 4) (al := []) nd rfl (by first | exact .inl rfl | exact .inr rfl) (ge_bin op_modN og_mod (ar3 := []) (ac3 := []) (ac := []) (geInt nb (ge_bin op_mulDi og_mul (ar3 := []) (ac3 := []) (ac := []) (ge_bin op_addD og_add (ac := []) (ge_bin op_addD og_add (ac := []) (ge_var (pv 2)) (ge_ix (ac := []) (ge_var (pv 0)) ge_int)) (ge_bin op_divD og_div (ar3 := []) (ac3 := []) (ac := []) (ge_ix (ac := []) (ge_var (pv 0)) ge_int) ge_int)) (ge_var (pv 3)))) ge_int)) (gss_one (gs_ret (ge_bin op_modN og_mod (ar3 := []) (ac3 := []) (ac := []) (geInt nb (ge_bin op_divD og_div (ar3 := []) (ac3 := []) (ac := []) (ge_bin op_modN og_mod (ar3 := []) (ac3 := []) (ac := []) (geInt nb (ge_bin op_addD og_add (ac := []) (ge_bin op_mulDi og_mul (ar3 := []) (ac3 := []) (ac := []) (ge_var (pv 4)) ge_int) (ge_var (pv 2)))) ge_int) ge_int)) (ge_var (pv 1))))))))))) rfl rfl

def s__law_cells : SM := (sSeq (sOwn 2 [] (dOrF (dUn listF (dL (dSl slF (dVar 0) oNo (oSo (dVar 1))))) (dLst (aCons (dC (.int 0)) aNil)))) (sSeq (sFor [] (dUn enumM (dL (dSl slF (dVar 0) (oSo (dVar 1)) (oSo (dC (.int 63)))))) (bTup 2 (bCons (bName 3) (bCons (bName 4) bNil))) (sSeq (sAsg (bName 5) [] (dBin modD (dUn toIntD (dVar 3)) (dVar 1))) (sSet 2 [] (dVar 5) (dBin addD (dBin ixD (dVar 2) (dVar 5)) (dBin mulD (dVar 4) (dBin addD (dVar 3) (dC (.int 2)))))))) (sRet (dVar 2))))
def m__law_cells : List D → M D := bodyD 6 s__law_cells

theorem sc__law_cells : FnScope ["script", "most_so", "cells_so", "k", "bit_so", "at_so"] ["script", "most_so"] (defScope (topS 48)) := ⟨rfl, rfl, rfl, by decide +kernel, rfl, by decide +kernel, by decide +kernel⟩

theorem bi__law_cells {K : PySem.W.Frag} {qual : Str} {f : Addr} {fd : FuncData} (F : Fun K "_law_cells" qual (topS 48) f fd) : Binds K fd ["script", "most_so"] [] := (F.binds (ps := ["script", "most_so"]) fun _ _ _ _ _ _ us hl => match us, hl with | [_, _], _ => rfl)

theorem ok__law_cells {P : Program} {w : World} {K : PySem.W.Frag} {mg : Mg} {base : Heap} {f : Addr} {fd : FuncData} (F : DefAt K mg "_law_cells" (topS 48) f fd) (nb : Nb mg)  : FnK P w K mg base "_law_cells" 2 1 m__law_cells [] ["script", "most_so"] :=
  fnk_mk F.fn F.mgf sc__law_cells (bi__law_cells F.fn) (fun j (hj : j ∈ ([] : List Nat)) => nomatch hj) (fun cdv A outer s H E hr tk hp => by
    have nd := sc__law_cells.nd
    exact (gss_cons (gs_own (i := 2) nd rfl (by first | exact .inl rfl | exact .inr rfl) (gf_or (ac := []) (gfList nb (GF.ge (gf_slice (ge_var (pv 0)) go_none (go_some (ge_var (pv 1)))))) (gf_one (gf_lst (ga_cons (al := []) ge_int ga_nil))))) (gss_cons (gs_for hp rfl (gi_enum (al := []) nb.enumerate (GF.ge (gf_slice (ge_var (pv 0)) (go_some (ge_var (pv 1))) (go_some ge_int)))) (gg_tup rfl (ggs_cons (gg_name (i := 3) nd rfl (by first | exact .inl rfl | exact .inr rfl)) (ggs_cons (gg_name (i := 4) nd rfl (by first | exact .inl rfl | exact .inr rfl)) ggs_nil))) (gss_cons (gs_set (i := 5) (al := []) nd rfl (by first | exact .inl rfl | exact .inr rfl) (ge_bin op_modN og_mod (ar3 := []) (ac3 := []) (ac := []) (geInt nb (ge_var (pv 3))) (ge_var (pv 1)))) (gss_one (gs_setitem (al := []) (pv 2) (ge_var (pv 5)) (ge_bin op_addD og_add (ac := []) (ge_ix (ac := []) (ge_var (pv 2)) (ge_var (pv 5))) (ge_bin op_mulDi og_mul (ar3 := []) (ac3 := []) (ac := []) (ge_var (pv 4)) (ge_bin op_addD og_add (ac := []) (ge_var (pv 3)) ge_int))))))) (gss_one (gs_ret (ge_var (pv 2))))))) rfl rfl

def s__law_of : SM := (sRet (dBin ixD (dVar 1) (dCall 2 m__law_take (aCons (dVar 0) (aCons (dUn lenD (dVar 1)) aNil)))))
def m__law_of : List D → M D := bodyD 2 s__law_of

theorem sc__law_of : FnScope ["tin", "goods_so"] ["tin", "goods_so"] (defScope (topS 49)) := ⟨rfl, rfl, rfl, by decide +kernel, rfl, by decide +kernel, by decide +kernel⟩

theorem bi__law_of {K : PySem.W.Frag} {qual : Str} {f : Addr} {fd : FuncData} (F : Fun K "_law_of" qual (topS 49) f fd) : Binds K fd ["tin", "goods_so"] [] := (F.binds (ps := ["tin", "goods_so"]) fun _ _ _ _ _ _ us hl => match us, hl with | [_, _], _ => rfl)

theorem ok__law_of {P : Program} {w : World} {K : PySem.W.Frag} {mg : Mg} {base : Heap} {f : Addr} {fd : FuncData} (F : DefAt K mg "_law_of" (topS 49) f fd) (nb : Nb mg) (f__law_take : FnK P w K mg base "_law_take" 2 1 m__law_take [] ["tin", "below_so"]) : FnK P w K mg base "_law_of" 2 2 m__law_of [] ["tin", "goods_so"] :=
  fnk_mk F.fn F.mgf sc__law_of (bi__law_of F.fn) (fun j (hj : j ∈ ([] : List Nat)) => nomatch hj) (fun cdv A outer s H E hr tk hp => by
    have nd := sc__law_of.nd
    exact (gss_one (gs_ret (ge_ix (ac := [0]) (ge_var (pv 1)) (ge_call (f__law_take.mono (by decide)).d rfl hr tk (ga_cons (al := [0]) (ge_var (pv 0)) (ga_cons (al := []) (geLen nb (ge_var (pv 1))) ga_nil))))))) rfl rfl

def s__law_pick : SM := (sSeq (sPar [4, 5] [] (kLst (dUn listF (dVar 1)) (kOwn kNil))) (sSeq (sFor [] (dUn rng1 (dBin minD (dUn toIntD (dVar 2)) (dUn lenD (dVar 4)))) (bName 3) (sAppPop 5 4 (dCall 2 m__law_take (aCons (dVar 0) (aCons (dUn lenD (dVar 4)) aNil))))) (sRet (dVar 5))))
def m__law_pick : List D → M D := bodyD 6 s__law_pick

theorem sc__law_pick : FnScope ["tin", "goods_so", "count_so", "lap", "pool_so", "found"] ["tin", "goods_so", "count_so"] (defScope (topS 50)) := ⟨rfl, rfl, rfl, by decide +kernel, rfl, by decide +kernel, by decide +kernel⟩

theorem bi__law_pick {K : PySem.W.Frag} {qual : Str} {f : Addr} {fd : FuncData} (F : Fun K "_law_pick" qual (topS 50) f fd) : Binds K fd ["tin", "goods_so", "count_so"] [] := (F.binds (ps := ["tin", "goods_so", "count_so"]) fun _ _ _ _ _ _ us hl => match us, hl with | [_, _, _], _ => rfl)

theorem ok__law_pick {P : Program} {w : World} {K : PySem.W.Frag} {mg : Mg} {base : Heap} {f : Addr} {fd : FuncData} (F : DefAt K mg "_law_pick" (topS 50) f fd) (nb : Nb mg) (f__law_take : FnK P w K mg base "_law_take" 2 1 m__law_take [] ["tin", "below_so"]) : FnK P w K mg base "_law_pick" 3 2 m__law_pick [] ["tin", "goods_so", "count_so"] :=
  fnk_mk F.fn F.mgf sc__law_pick (bi__law_pick F.fn) (fun j (hj : j ∈ ([] : List Nat)) => nomatch hj) (fun cdv A outer s H E hr tk hp => by
    have nd := sc__law_pick.nd
    exact (gss_cons (gs_par2 (i := 4) (j := 5) (al := []) rfl nd rfl rfl rfl rfl (gk_ints (gfList nb (ge_var (pv 1))) (gk_own gk_nil))) (gss_cons (gs_for hp rfl (gi_range1 nb.range (geMin2 rfl nb (geInt nb (ge_var (pv 2))) (geLen nb (ge_var (pv 4))))) (gg_name (i := 3) nd rfl (by first | exact .inl rfl | exact .inr rfl)) (gss_one (gs_appPop (pv 5) (pv 4) (ge_call (f__law_take.mono (by decide)).d rfl hr tk (ga_cons (al := [0]) (ge_var (pv 0)) (ga_cons (al := []) (geLen nb (ge_var (pv 4))) ga_nil)))))) (gss_one (gs_ret (ge_var (pv 5))))))) rfl rfl

def s__law_lists (self_m : List D → M D) : SM := (sRet (dIf (dTru (dUn (isiD ["list", "tuple"]) (dVar 0))) (dL (dComp3 [] [1] [1] (dUn seqM (dVar 0)) (bName 1) tYesM (dCall 1 self_m (aCons (dVar 1) aNil)))) (dVar 0)))
def m__law_lists : Nat → List D → M D
  | 0 => noFn
  | k + 1 => bodyD 2 (s__law_lists (m__law_lists k))

theorem sc__law_lists : FnScope ["matter", "bit"] ["matter"] (defScope (topS 51)) := ⟨rfl, rfl, rfl, by decide +kernel, rfl, by decide +kernel, by decide +kernel⟩

theorem bi__law_lists {K : PySem.W.Frag} {qual : Str} {f : Addr} {fd : FuncData} (F : Fun K "_law_lists" qual (topS 51) f fd) : Binds K fd ["matter"] [] := (F.binds (ps := ["matter"]) fun _ _ _ _ _ _ us hl => match us, hl with | [_], _ => rfl)

theorem ok__law_lists {P : Program} {w : World} {K : PySem.W.Frag} {mg : Mg} {base : Heap} {f : Addr} {fd : FuncData} (F : DefAt K mg "_law_lists" (topS 51) f fd) (nb : Nb mg)  : ∀ k, FnK P w K mg base "_law_lists" 1 (1 + k) (m__law_lists k) [] ["matter"]
  | 0 => fnk_0 (N := ["matter", "bit"]) F.fn F.mgf sc__law_lists (bi__law_lists F.fn) (fun j (hj : j ∈ ([] : List Nat)) => nomatch hj) rfl
  | k + 1 => by
    have Fself := ok__law_lists (P := P) (w := w) (base := base) F nb  k
    show FnK P w K mg base "_law_lists" 1 ((1 + k) + 1) (bodyD 2 (s__law_lists (m__law_lists k))) [] ["matter"]
    refine fnk_mk F.fn F.mgf sc__law_lists (bi__law_lists F.fn) (fun j (hj : j ∈ ([] : List Nat)) => nomatch hj) (fun cdv A outer s H E hr tk hp => ?_) rfl rfl
    have nd := sc__law_lists.nd
    exact (gss_one (gs_ret (ge_if (ar := [0]) (ac := [1]) (gt_val (ge_isi2 nb.isinstance bb_isi (ge_var (pv 0)) (cls_n nb.list bb_list) (cls_n nb.tuple bb_tuple))) (GF.ge (gf_comp (own := [("bit", 1)]) (ac3 := [1]) rfl nd (gi_seq (al := [0]) (ge_var (pv 0))) (blkOk_by (N := ["matter", "bit"]) (sc := defScope (topS 51)) (by decide +kernel)) (fun _ _ _ _ _ => (gg_name (i := 1) nd rfl (by first | exact .inl rfl | exact .inr rfl))) (fun _ _ _ _ _ => gts_nil) (fun _ _ _ _ _ => (ge_call Fself.d rfl hr takesN (ga_cons (al := [1]) (ge_var (pv 1)) ga_nil))))) (ge_var (pv 0)))))

def s__law_mixed (self_m : List D → M D) : SM := (sSeq (sIf (dNotT (dTru (dUn (isiD ["list", "tuple"]) (dVar 1)))) (sRet (dVar 1)) sNil) (sSeq (sOwn 2 [0, 3] (dComp3 [] [0, 3] [3] (dUn seqM (dVar 1)) (bName 3) tYesM (dCall 2 self_m (aCons (dVar 0) (aCons (dVar 3) aNil))))) (sRet (dIf (dB (dBin eqD (dCall 2 m__law_take (aCons (dVar 0) (aCons (dC (.int 2)) aNil))) (dC (.int 0)))) (dVar 2) (dUn tupleD (dVar 2))))))
def m__law_mixed : Nat → List D → M D
  | 0 => noFn
  | k + 1 => bodyD 4 (s__law_mixed (m__law_mixed k))

theorem sc__law_mixed : FnScope ["tin", "matter", "row_so", "bit"] ["tin", "matter"] (defScope (topS 52)) := ⟨rfl, rfl, rfl, by decide +kernel, rfl, by decide +kernel, by decide +kernel⟩

theorem bi__law_mixed {K : PySem.W.Frag} {qual : Str} {f : Addr} {fd : FuncData} (F : Fun K "_law_mixed" qual (topS 52) f fd) : Binds K fd ["tin", "matter"] [] := (F.binds (ps := ["tin", "matter"]) fun _ _ _ _ _ _ us hl => match us, hl with | [_, _], _ => rfl)

theorem ok__law_mixed {P : Program} {w : World} {K : PySem.W.Frag} {mg : Mg} {base : Heap} {f : Addr} {fd : FuncData} (F : DefAt K mg "_law_mixed" (topS 52) f fd) (nb : Nb mg) (f__law_take : FnK P w K mg base "_law_take" 2 1 m__law_take [] ["tin", "below_so"]) : ∀ k, FnK P w K mg base "_law_mixed" 2 (2 + k) (m__law_mixed k) [] ["tin", "matter"]
  | 0 => fnk_0 (N := ["tin", "matter", "row_so", "bit"]) F.fn F.mgf sc__law_mixed (bi__law_mixed F.fn) (fun j (hj : j ∈ ([] : List Nat)) => nomatch hj) rfl
  | k + 1 => by
    have Fself := ok__law_mixed (P := P) (w := w) (base := base) F nb f__law_take k
    show FnK P w K mg base "_law_mixed" 2 ((2 + k) + 1) (bodyD 4 (s__law_mixed (m__law_mixed k))) [] ["tin", "matter"]
    refine fnk_mk F.fn F.mgf sc__law_mixed (bi__law_mixed F.fn) (fun j (hj : j ∈ ([] : List Nat)) => nomatch hj) (fun cdv A outer s H E hr tk hp => ?_) rfl rfl
    have nd := sc__law_mixed.nd
    exact (gss_cons (gs_if (gt_not (gt_val (ge_isi2 nb.isinstance bb_isi (ge_var (pv 1)) (cls_n nb.list bb_list) (cls_n nb.tuple bb_tuple)))) (gss_one (gs_ret (ge_var (pv 1)))) gss_nil) (gss_cons (gs_ownC (i := 2) (own := [("bit", 3)]) (ac3 := [0, 3]) rfl nd rfl rfl (sw_true rfl rfl rfl (by decide +kernel)) (gi_seq (al := [1]) (ge_var (pv 1))) (blkOk_by (N := ["tin", "matter", "row_so", "bit"]) (sc := defScope (topS 52)) (by decide +kernel)) (fun _ _ _ _ _ => (gg_name (i := 3) nd rfl (by first | exact .inl rfl | exact .inr rfl))) (fun _ _ _ _ _ => gts_nil) (fun _ _ _ _ _ => (ge_call Fself.d rfl hr takesN (ga_cons (al := [0, 3]) (ge_var (pv 0)) (ga_cons (al := [3]) (ge_var (pv 3)) ga_nil))))) (gss_one (gs_ret (ge_if (ar := [2]) (ac := []) (gt_cmp (op_eqD hr.units) (fun _ => og_eq) (nomark _) (ac := [0]) (ge_call (f__law_take.mono (by omega)).d rfl hr tk (ga_cons (al := [0]) (ge_var (pv 0)) (ga_cons (al := []) ge_int ga_nil))) ge_int) (ge_var (pv 2)) (geTuple nb (ge_var (pv 2))))))))

def s__law_same (self_m : List D → M D) : SM := (sSeq (sIf (dTru (dUn (isiD ["list", "tuple"]) (dVar 1))) (sSeq (sIf (dOrT (dB (dBin neD (dUn (isiD ["list"]) (dVar 0)) (dUn (isiD ["list"]) (dVar 1)))) (dB (dBin neD (dUn (isiD ["tuple"]) (dVar 0)) (dUn (isiD ["tuple"]) (dVar 1))))) (sRet (dC (.bl false))) sNil) (sRet (dAnd (dBin eqD (dUn lenD (dVar 0)) (dUn lenD (dVar 1))) (dUn allD (dL (dComp3 [] [2, 3] [2, 3] (dBinF zipM (dVar 0) (dVar 1)) (bTup 2 (bCons (bName 2) (bCons (bName 3) bNil))) tYesM (dCall 2 self_m (aCons (dVar 2) (aCons (dVar 3) aNil))))))))) sNil) (sSeq (sIf (dB (dBin isD (dVar 1) (dC .non))) (sRet (dBin isD (dVar 0) (dC .non))) sNil) (sSeq (sIf (dTru (dUn (isiD ["bool", "str"]) (dVar 1))) (sRet (dAnd (dBin eqD (dUn (isiD ["bool"]) (dVar 0)) (dUn (isiD ["bool"]) (dVar 1))) (dAnd (dBin eqD (dUn (isiD ["str"]) (dVar 0)) (dUn (isiD ["str"]) (dVar 1))) (dBin eqD (dVar 0) (dVar 1))))) sNil) (sRet (dAnd (dUn (isiD ["int"]) (dVar 0)) (dAnd (dNot (dUn (isiD ["bool"]) (dVar 0))) (dBin eqD (dVar 0) (dVar 1))))))))
def m__law_same : Nat → List D → M D
  | 0 => noFn
  | k + 1 => bodyD 4 (s__law_same (m__law_same k))

theorem sc__law_same : FnScope ["got", "due", "mine", "its"] ["got", "due"] (defScope (topS 53)) := ⟨rfl, rfl, rfl, by decide +kernel, rfl, by decide +kernel, by decide +kernel⟩

theorem bi__law_same {K : PySem.W.Frag} {qual : Str} {f : Addr} {fd : FuncData} (F : Fun K "_law_same" qual (topS 53) f fd) : Binds K fd ["got", "due"] [] := (F.binds (ps := ["got", "due"]) fun _ _ _ _ _ _ us hl => match us, hl with | [_, _], _ => rfl)

theorem ok__law_same {P : Program} {w : World} {K : PySem.W.Frag} {mg : Mg} {base : Heap} {f : Addr} {fd : FuncData} (F : DefAt K mg "_law_same" (topS 53) f fd) (nb : Nb mg)  : ∀ k, FnK P w K mg base "_law_same" 2 (1 + k) (m__law_same k) [] ["got", "due"]
  | 0 => fnk_0 (N := ["got", "due", "mine", "its"]) F.fn F.mgf sc__law_same (bi__law_same F.fn) (fun j (hj : j ∈ ([] : List Nat)) => nomatch hj) rfl
  | k + 1 => by
    have Fself := ok__law_same (P := P) (w := w) (base := base) F nb  k
    show FnK P w K mg base "_law_same" 2 ((1 + k) + 1) (bodyD 4 (s__law_same (m__law_same k))) [] ["got", "due"]
    refine fnk_mk F.fn F.mgf sc__law_same (bi__law_same F.fn) (fun j (hj : j ∈ ([] : List Nat)) => nomatch hj) (fun cdv A outer s H E hr tk hp => ?_) rfl rfl
    have nd := sc__law_same.nd
    exact (gss_cons (gs_if (gt_val (ge_isi2 nb.isinstance bb_isi (ge_var (pv 1)) (cls_n nb.list bb_list) (cls_n nb.tuple bb_tuple))) (gss_cons (gs_if (gw_pt (gw_or (gt_cmp (op_neD hr.units) (fun _ => og_ne) (nomark _) (ac := []) (ge_isi nb.isinstance bb_isi (ge_var (pv 0)) (cls_n nb.list bb_list)) (ge_isi nb.isinstance bb_isi (ge_var (pv 1)) (cls_n nb.list bb_list))) (gw_or1 (gt_cmp (op_neD hr.units) (fun _ => og_ne) (nomark _) (ac := []) (ge_isi nb.isinstance bb_isi (ge_var (pv 0)) (cls_n nb.tuple bb_tuple)) (ge_isi nb.isinstance bb_isi (ge_var (pv 1)) (cls_n nb.tuple bb_tuple)))))) (gss_one (gs_ret ge_bl)) gss_nil) (gss_one (gs_ret (ge_and (ar := []) (ac := []) (ge_cmp (op_eqD hr.units) og_eq (nomark _) (ac := []) (geLen nb (ge_var (pv 0))) (geLen nb (ge_var (pv 1)))) (ge_one (geAll rfl nb (GF.ge (gf_comp (own := [("mine", 2), ("its", 3)]) (ac3 := [2, 3]) rfl nd (gi_zip (al := [0, 1]) (ac := []) nb.zip (ge_var (pv 0)) (ge_var (pv 1))) (blkOk_by (N := ["got", "due", "mine", "its"]) (sc := defScope (topS 53)) (by decide +kernel)) (fun _ _ _ _ _ => (gg_tup rfl (ggs_cons (gg_name (i := 2) nd rfl (by first | exact .inl rfl | exact .inr rfl)) (ggs_cons (gg_name (i := 3) nd rfl (by first | exact .inl rfl | exact .inr rfl)) ggs_nil)))) (fun _ _ _ _ _ => gts_nil) (fun _ _ _ _ _ => (ge_call Fself.d rfl hr takesN (ga_cons (al := [2, 3]) (ge_var (pv 2)) (ga_cons (al := [3]) (ge_var (pv 3)) ga_nil)))))))))))) gss_nil) (gss_cons (gs_if (gt_cmp op_isD (fun _ => og_is) (nomark _) (ac := []) (ge_var (pv 1)) ge_non) (gss_one (gs_ret (ge_cmp op_isD og_is (nomark _) (ac := []) (ge_var (pv 0)) ge_non))) gss_nil) (gss_cons (gs_if (gt_val (ge_isi2 nb.isinstance bb_isi (ge_var (pv 1)) (cls_n nb.bool bb_bool) (cls_n nb.str bb_str))) (gss_one (gs_ret (ge_and (ar := []) (ac := []) (ge_cmp (op_eqD hr.units) og_eq (nomark _) (ac := []) (ge_isi nb.isinstance bb_isi (ge_var (pv 0)) (cls_n nb.bool bb_bool)) (ge_isi nb.isinstance bb_isi (ge_var (pv 1)) (cls_n nb.bool bb_bool))) (ge_and (ar := []) (ac := []) (ge_cmp (op_eqD hr.units) og_eq (nomark _) (ac := []) (ge_isi nb.isinstance bb_isi (ge_var (pv 0)) (cls_n nb.str bb_str)) (ge_isi nb.isinstance bb_isi (ge_var (pv 1)) (cls_n nb.str bb_str))) (ge_one (ge_cmp (op_eqD hr.units) og_eq (nomark _) (ac := []) (ge_var (pv 0)) (ge_var (pv 1)))))))) gss_nil) (gss_one (gs_ret (ge_and (ar := []) (ac := []) (ge_isi nb.isinstance bb_isi (ge_var (pv 0)) (cls_n nb.int bb_int)) (ge_and (ar := []) (ac := []) (ge_not (ge_isi nb.isinstance bb_isi (ge_var (pv 0)) (cls_n nb.bool bb_bool))) (ge_one (ge_cmp (op_eqD hr.units) og_eq (nomark _) (ac := []) (ge_var (pv 0)) (ge_var (pv 1)))))))))))

def s__law_is_int : SM := (sRet (dAnd (dUn (isiD ["int"]) (dVar 0)) (dNot (dUn (isiD ["bool"]) (dVar 0)))))
def m__law_is_int : List D → M D := bodyD 1 s__law_is_int

theorem sc__law_is_int : FnScope ["k"] ["k"] (defScope (topS 54)) := ⟨rfl, rfl, rfl, by decide +kernel, rfl, by decide +kernel, by decide +kernel⟩

theorem bi__law_is_int {K : PySem.W.Frag} {qual : Str} {f : Addr} {fd : FuncData} (F : Fun K "_law_is_int" qual (topS 54) f fd) : Binds K fd ["k"] [] := (F.binds (ps := ["k"]) fun _ _ _ _ _ _ us hl => match us, hl with | [_], _ => rfl)

theorem ok__law_is_int {P : Program} {w : World} {K : PySem.W.Frag} {mg : Mg} {base : Heap} {f : Addr} {fd : FuncData} (F : DefAt K mg "_law_is_int" (topS 54) f fd) (nb : Nb mg)  : FnK P w K mg base "_law_is_int" 1 1 m__law_is_int [] ["k"] :=
  fnk_mk F.fn F.mgf sc__law_is_int (bi__law_is_int F.fn) (fun j (hj : j ∈ ([] : List Nat)) => nomatch hj) (fun cdv A outer s H E hr tk hp => by
    have nd := sc__law_is_int.nd
    exact (gss_one (gs_ret (ge_and (ar := []) (ac := []) (ge_isi nb.isinstance bb_isi (ge_var (pv 0)) (cls_n nb.int bb_int)) (ge_one (ge_not (ge_isi nb.isinstance bb_isi (ge_var (pv 0)) (cls_n nb.bool bb_bool)))))))) rfl rfl

def s__law_gcd : SM := (sSeq (sPar [0, 1] [] (kVal (dUn absD (dVar 0)) (kVal (dUn absD (dVar 1)) kNil))) (sSeq (sFor [] (dUn rng1 (dC (.int 9000))) (bName 2) (sSeq (sIf (dB (dBin eqD (dVar 1) (dC (.int 0)))) sBreak sNil) (sPar [0, 1] [1] (kVal (dVar 1) (kVal (dBin modD (dVar 0) (dVar 1)) kNil))))) (sRet (dVar 0))))
def m__law_gcd : List D → M D := bodyD 3 s__law_gcd

theorem sc__law_gcd : FnScope ["one", "two", "lap"] ["one", "two"] (defScope (topS 55)) := ⟨rfl, rfl, rfl, by decide +kernel, rfl, by decide +kernel, by decide +kernel⟩

theorem bi__law_gcd {K : PySem.W.Frag} {qual : Str} {f : Addr} {fd : FuncData} (F : Fun K "_law_gcd" qual (topS 55) f fd) : Binds K fd ["one", "two"] [] := (F.binds (ps := ["one", "two"]) fun _ _ _ _ _ _ us hl => match us, hl with | [_, _], _ => rfl)

theorem ok__law_gcd {P : Program} {w : World} {K : PySem.W.Frag} {mg : Mg} {base : Heap} {f : Addr} {fd : FuncData} (F : DefAt K mg "_law_gcd" (topS 55) f fd) (nb : Nb mg)  : FnK P w K mg base "_law_gcd" 2 1 m__law_gcd [] ["one", "two"] :=
  fnk_mk F.fn F.mgf sc__law_gcd (bi__law_gcd F.fn) (fun j (hj : j ∈ ([] : List Nat)) => nomatch hj) (fun cdv A outer s H E hr tk hp => by
    have nd := sc__law_gcd.nd
    exact (gss_cons (gs_par2 (i := 0) (j := 1) (al := []) rfl nd rfl rfl rfl rfl (gk_val (geAbs nb (ge_var (pv 0))) (gk_val (geAbs nb (ge_var (pv 1))) gk_nil))) (gss_cons (gs_for hp rfl (gi_range1 nb.range ge_int) (gg_name (i := 2) nd rfl (by first | exact .inl rfl | exact .inr rfl)) (gss_cons (gs_if (gt_cmp (op_eqD hr.units) (fun _ => og_eq) (nomark _) (ac := []) (ge_var (pv 1)) ge_int) (gss_one gs_break) gss_nil) (gss_one (gs_par2 (i := 0) (j := 1) (al := [1]) rfl nd rfl rfl rfl rfl (gk_val (ge_var (pv 1)) (gk_val (ge_bin op_modN og_mod (ar3 := []) (ac3 := []) (ac := []) (ge_var (pv 0)) (ge_var (pv 1))) gk_nil)))))) (gss_one (gs_ret (ge_var (pv 0))))))) rfl rfl

def s__law_slim : SM := (sSeq (sAsg (bName 2) [0, 1] (dCall 2 m__law_gcd (aCons (dVar 0) (aCons (dVar 1) aNil)))) (sRet (dIf (dB (dBin gtD (dVar 1) (dC (.int 0)))) (dTup (aCons (dBin divD (dVar 0) (dVar 2)) (aCons (dBin divD (dVar 1) (dVar 2)) aNil))) (dTup (aCons (dBin subD (dC (.int 0)) (dBin divD (dVar 0) (dVar 2))) (aCons (dBin subD (dC (.int 0)) (dBin divD (dVar 1) (dVar 2))) aNil))))))
def m__law_slim : List D → M D := bodyD 3 s__law_slim

theorem sc__law_slim : FnScope ["over", "under", "both_so"] ["over", "under"] (defScope (topS 56)) := ⟨rfl, rfl, rfl, by decide +kernel, rfl, by decide +kernel, by decide +kernel⟩

theorem bi__law_slim {K : PySem.W.Frag} {qual : Str} {f : Addr} {fd : FuncData} (F : Fun K "_law_slim" qual (topS 56) f fd) : Binds K fd ["over", "under"] [] := (F.binds (ps := ["over", "under"]) fun _ _ _ _ _ _ us hl => match us, hl with | [_, _], _ => rfl)

theorem ok__law_slim {P : Program} {w : World} {K : PySem.W.Frag} {mg : Mg} {base : Heap} {f : Addr} {fd : FuncData} (F : DefAt K mg "_law_slim" (topS 56) f fd) (nb : Nb mg) (f__law_gcd : FnK P w K mg base "_law_gcd" 2 1 m__law_gcd [] ["one", "two"]) : FnK P w K mg base "_law_slim" 2 2 m__law_slim [] ["over", "under"] :=
  fnk_mk F.fn F.mgf sc__law_slim (bi__law_slim F.fn) (fun j (hj : j ∈ ([] : List Nat)) => nomatch hj) (fun cdv A outer s H E hr tk hp => by
    have nd := sc__law_slim.nd
    exact (gss_cons (gs_set (i := 2) (al := [0, 1]) nd rfl (by first | exact .inl rfl | exact .inr rfl) (ge_call (f__law_gcd.mono (by decide)).d rfl hr tk (ga_cons (al := [0, 1]) (ge_var (pv 0)) (ga_cons (al := [1]) (ge_var (pv 1)) ga_nil)))) (gss_one (gs_ret (ge_if (ar := []) (ac := []) (gt_cmp op_gt' (fun _ => og_gt) (nomark _) (ac := []) (ge_var (pv 1)) ge_int) (ge_tup (ga_cons (al := []) (ge_bin op_divD og_div (ar3 := []) (ac3 := []) (ac := []) (ge_var (pv 0)) (ge_var (pv 2))) (ga_cons (al := []) (ge_bin op_divD og_div (ar3 := []) (ac3 := []) (ac := []) (ge_var (pv 1)) (ge_var (pv 2))) ga_nil))) (ge_tup (ga_cons (al := []) (ge_bin op_sub' og_sub (ar3 := []) (ac3 := []) (ac := []) ge_int (ge_bin op_divD og_div (ar3 := []) (ac3 := []) (ac := []) (ge_var (pv 0)) (ge_var (pv 2)))) (ga_cons (al := []) (ge_bin op_sub' og_sub (ar3 := []) (ac3 := []) (ac := []) ge_int (ge_bin op_divD og_div (ar3 := []) (ac3 := []) (ac := []) (ge_var (pv 1)) (ge_var (pv 2)))) ga_nil)))))))) rfl rfl

def s__law_plus : SM := (sRet (dCall 2 m__law_slim (aCons (dBin addD (dBin mulD (dBin ixD (dVar 0) (dC (.int 0))) (dBin ixD (dVar 1) (dC (.int 1)))) (dBin mulD (dBin ixD (dVar 1) (dC (.int 0))) (dBin ixD (dVar 0) (dC (.int 1))))) (aCons (dBin mulD (dBin ixD (dVar 0) (dC (.int 1))) (dBin ixD (dVar 1) (dC (.int 1)))) aNil))))
def m__law_plus : List D → M D := bodyD 2 s__law_plus

theorem sc__law_plus : FnScope ["one", "two"] ["one", "two"] (defScope (topS 57)) := ⟨rfl, rfl, rfl, by decide +kernel, rfl, by decide +kernel, by decide +kernel⟩

theorem bi__law_plus {K : PySem.W.Frag} {qual : Str} {f : Addr} {fd : FuncData} (F : Fun K "_law_plus" qual (topS 57) f fd) : Binds K fd ["one", "two"] [] := (F.binds (ps := ["one", "two"]) fun _ _ _ _ _ _ us hl => match us, hl with | [_, _], _ => rfl)

theorem ok__law_plus {P : Program} {w : World} {K : PySem.W.Frag} {mg : Mg} {base : Heap} {f : Addr} {fd : FuncData} (F : DefAt K mg "_law_plus" (topS 57) f fd) (nb : Nb mg) (f__law_slim : FnK P w K mg base "_law_slim" 2 2 m__law_slim [] ["over", "under"]) : FnK P w K mg base "_law_plus" 2 3 m__law_plus [] ["one", "two"] :=
  fnk_mk F.fn F.mgf sc__law_plus (bi__law_plus F.fn) (fun j (hj : j ∈ ([] : List Nat)) => nomatch hj) (fun cdv A outer s H E hr tk hp => by
    have nd := sc__law_plus.nd
    exact (gss_one (gs_ret (ge_call (f__law_slim.mono (by decide)).d rfl hr tk (ga_cons (al := []) (ge_bin op_addD og_add (ac := []) (ge_bin op_mulDi og_mul (ar3 := []) (ac3 := []) (ac := []) (ge_ix (ac := []) (ge_var (pv 0)) ge_int) (ge_ix (ac := []) (ge_var (pv 1)) ge_int)) (ge_bin op_mulDi og_mul (ar3 := []) (ac3 := []) (ac := []) (ge_ix (ac := []) (ge_var (pv 1)) ge_int) (ge_ix (ac := []) (ge_var (pv 0)) ge_int))) (ga_cons (al := []) (ge_bin op_mulDi og_mul (ar3 := []) (ac3 := []) (ac := []) (ge_ix (ac := []) (ge_var (pv 0)) ge_int) (ge_ix (ac := []) (ge_var (pv 1)) ge_int)) ga_nil)))))) rfl rfl

def s__law_times : SM := (sRet (dCall 2 m__law_slim (aCons (dBin mulD (dBin ixD (dVar 0) (dC (.int 0))) (dBin ixD (dVar 1) (dC (.int 0)))) (aCons (dBin mulD (dBin ixD (dVar 0) (dC (.int 1))) (dBin ixD (dVar 1) (dC (.int 1)))) aNil))))
def m__law_times : List D → M D := bodyD 2 s__law_times

theorem sc__law_times : FnScope ["one", "two"] ["one", "two"] (defScope (topS 58)) := ⟨rfl, rfl, rfl, by decide +kernel, rfl, by decide +kernel, by decide +kernel⟩

theorem bi__law_times {K : PySem.W.Frag} {qual : Str} {f : Addr} {fd : FuncData} (F : Fun K "_law_times" qual (topS 58) f fd) : Binds K fd ["one", "two"] [] := (F.binds (ps := ["one", "two"]) fun _ _ _ _ _ _ us hl => match us, hl with | [_, _], _ => rfl)

theorem ok__law_times {P : Program} {w : World} {K : PySem.W.Frag} {mg : Mg} {base : Heap} {f : Addr} {fd : FuncData} (F : DefAt K mg "_law_times" (topS 58) f fd) (nb : Nb mg) (f__law_slim : FnK P w K mg base "_law_slim" 2 2 m__law_slim [] ["over", "under"]) : FnK P w K mg base "_law_times" 2 3 m__law_times [] ["one", "two"] :=
  fnk_mk F.fn F.mgf sc__law_times (bi__law_times F.fn) (fun j (hj : j ∈ ([] : List Nat)) => nomatch hj) (fun cdv A outer s H E hr tk hp => by
    have nd := sc__law_times.nd
    exact (gss_one (gs_ret (ge_call (f__law_slim.mono (by decide)).d rfl hr tk (ga_cons (al := []) (ge_bin op_mulDi og_mul (ar3 := []) (ac3 := []) (ac := []) (ge_ix (ac := []) (ge_var (pv 0)) ge_int) (ge_ix (ac := []) (ge_var (pv 1)) ge_int)) (ga_cons (al := []) (ge_bin op_mulDi og_mul (ar3 := []) (ac3 := []) (ac := []) (ge_ix (ac := []) (ge_var (pv 0)) ge_int) (ge_ix (ac := []) (ge_var (pv 1)) ge_int)) ga_nil)))))) rfl rfl

def s__law_thin : SM := (sSeq (sOwn 1 [] (dUn listF (dVar 0))) (sSeq (sFor [] (dUn rng1 (dUn lenD (dVar 0))) (bName 2) (sSeq (sIf (dB (dBin neD (dBin ixD (dVar 1) (dNeg (dC (.int 1)))) (dTup (aCons (dC (.int 0)) (aCons (dC (.int 1)) aNil))))) sBreak sNil) (sPop 1))) (sRet (dUn tupleD (dVar 1)))))
def m__law_thin : List D → M D := bodyD 3 s__law_thin

theorem sc__law_thin : FnScope ["row_so", "found", "lap"] ["row_so"] (defScope (topS 59)) := ⟨rfl, rfl, rfl, by decide +kernel, rfl, by decide +kernel, by decide +kernel⟩

theorem bi__law_thin {K : PySem.W.Frag} {qual : Str} {f : Addr} {fd : FuncData} (F : Fun K "_law_thin" qual (topS 59) f fd) : Binds K fd ["row_so"] [] := (F.binds (ps := ["row_so"]) fun _ _ _ _ _ _ us hl => match us, hl with | [_], _ => rfl)

theorem ok__law_thin {P : Program} {w : World} {K : PySem.W.Frag} {mg : Mg} {base : Heap} {f : Addr} {fd : FuncData} (F : DefAt K mg "_law_thin" (topS 59) f fd) (nb : Nb mg)  : FnK P w K mg base "_law_thin" 1 1 m__law_thin [] ["row_so"] :=
  fnk_mk F.fn F.mgf sc__law_thin (bi__law_thin F.fn) (fun j (hj : j ∈ ([] : List Nat)) => nomatch hj) (fun cdv A outer s H E hr tk hp => by
    have nd := sc__law_thin.nd
    exact (gss_cons (gs_own (i := 1) nd rfl (by first | exact .inl rfl | exact .inr rfl) (gfList nb (ge_var (pv 0)))) (gss_cons (gs_for hp rfl (gi_range1 nb.range (geLen nb (ge_var (pv 0)))) (gg_name (i := 2) nd rfl (by first | exact .inl rfl | exact .inr rfl)) (gss_cons (gs_if (gt_cmp (op_neD hr.units) (fun _ => og_ne) (nomark _) (ac := []) (ge_ix (ac := []) (ge_var (pv 1)) (ge_neg ge_int)) (ge_tup (ga_cons (al := []) ge_int (ga_cons (al := []) ge_int ga_nil)))) (gss_one gs_break) gss_nil) (gss_one (gs_pop (pv 1))))) (gss_one (gs_ret (geTuple nb (ge_var (pv 1)))))))) rfl rfl

def s__law_scale : SM := (sRet (dCall 1 m__law_thin (aCons (dL (dComp3 [] [1, 2] [2] (dUn seqM (dVar 0)) (bName 2) tYesM (dCall 2 m__law_times (aCons (dVar 2) (aCons (dVar 1) aNil))))) aNil)))
def m__law_scale : List D → M D := bodyD 3 s__law_scale

theorem sc__law_scale : FnScope ["poly_so", "by_so", "own"] ["poly_so", "by_so"] (defScope (topS 60)) := ⟨rfl, rfl, rfl, by decide +kernel, rfl, by decide +kernel, by decide +kernel⟩

theorem bi__law_scale {K : PySem.W.Frag} {qual : Str} {f : Addr} {fd : FuncData} (F : Fun K "_law_scale" qual (topS 60) f fd) : Binds K fd ["poly_so", "by_so"] [] := (F.binds (ps := ["poly_so", "by_so"]) fun _ _ _ _ _ _ us hl => match us, hl with | [_, _], _ => rfl)

theorem ok__law_scale {P : Program} {w : World} {K : PySem.W.Frag} {mg : Mg} {base : Heap} {f : Addr} {fd : FuncData} (F : DefAt K mg "_law_scale" (topS 60) f fd) (nb : Nb mg) (f__law_thin : FnK P w K mg base "_law_thin" 1 1 m__law_thin [] ["row_so"]) (f__law_times : FnK P w K mg base "_law_times" 2 3 m__law_times [] ["one", "two"]) : FnK P w K mg base "_law_scale" 2 4 m__law_scale [] ["poly_so", "by_so"] :=
  fnk_mk F.fn F.mgf sc__law_scale (bi__law_scale F.fn) (fun j (hj : j ∈ ([] : List Nat)) => nomatch hj) (fun cdv A outer s H E hr tk hp => by
    have nd := sc__law_scale.nd
    exact (gss_one (gs_ret (ge_call (f__law_thin.mono (by decide)).d rfl hr tk (ga_cons (al := [1, 2]) (GF.ge (gf_comp (own := [("own", 2)]) (ac3 := [1, 2]) rfl nd (gi_seq (al := [0]) (ge_var (pv 0))) (blkOk_by (N := ["poly_so", "by_so", "own"]) (sc := defScope (topS 60)) (by decide +kernel)) (fun _ _ _ _ _ => (gg_name (i := 2) nd rfl (by first | exact .inl rfl | exact .inr rfl))) (fun _ _ _ _ _ => gts_nil) (fun _ _ _ _ _ => (ge_call (f__law_times.mono (by decide)).d rfl hr takesN (ga_cons (al := [1, 2]) (ge_var (pv 2)) (ga_cons (al := [1]) (ge_var (pv 1)) ga_nil)))))) ga_nil))))) rfl rfl

def s__law_mul : SM := (sSeq (sOwn 2 [] (dBinF mulF (dL (dLst (aCons (dTup (aCons (dC (.int 0)) (aCons (dC (.int 1)) aNil))) aNil))) (dBin addD (dUn lenD (dVar 0)) (dUn lenD (dVar 1))))) (sSeq (sFor [0] (dUn enumM (dVar 0)) (bTup 2 (bCons (bName 3) (bCons (bName 4) bNil))) (sFor [1] (dUn enumM (dVar 1)) (bTup 2 (bCons (bName 5) (bCons (bName 6) bNil))) (sSet 2 [4, 6] (dBin addD (dVar 3) (dVar 5)) (dCall 2 m__law_plus (aCons (dBin ixD (dVar 2) (dBin addD (dVar 3) (dVar 5))) (aCons (dCall 2 m__law_times (aCons (dVar 4) (aCons (dVar 6) aNil))) aNil)))))) (sRet (dCall 1 m__law_thin (aCons (dVar 2) aNil)))))
def m__law_mul : List D → M D := bodyD 7 s__law_mul

theorem sc__law_mul : FnScope ["one", "two", "found", "j", "own", "k", "its"] ["one", "two"] (defScope (topS 61)) := ⟨rfl, rfl, rfl, by decide +kernel, rfl, by decide +kernel, by decide +kernel⟩

theorem bi__law_mul {K : PySem.W.Frag} {qual : Str} {f : Addr} {fd : FuncData} (F : Fun K "_law_mul" qual (topS 61) f fd) : Binds K fd ["one", "two"] [] := (F.binds (ps := ["one", "two"]) fun _ _ _ _ _ _ us hl => match us, hl with | [_, _], _ => rfl)

theorem ok__law_mul {P : Program} {w : World} {K : PySem.W.Frag} {mg : Mg} {base : Heap} {f : Addr} {fd : FuncData} (F : DefAt K mg "_law_mul" (topS 61) f fd) (nb : Nb mg) (f__law_plus : FnK P w K mg base "_law_plus" 2 3 m__law_plus [] ["one", "two"]) (f__law_thin : FnK P w K mg base "_law_thin" 1 1 m__law_thin [] ["row_so"]) (f__law_times : FnK P w K mg base "_law_times" 2 3 m__law_times [] ["one", "two"]) : FnK P w K mg base "_law_mul" 2 4 m__law_mul [] ["one", "two"] :=
  fnk_mk F.fn F.mgf sc__law_mul (bi__law_mul F.fn) (fun j (hj : j ∈ ([] : List Nat)) => nomatch hj) (fun cdv A outer s H E hr tk hp => by
    have nd := sc__law_mul.nd
    exact (gss_cons (gs_own (i := 2) nd rfl (by first | exact .inl rfl | exact .inr rfl) (gf_bin op_rep og_mulF (ac := []) (GF.ge (gf_lst (ga_cons (al := []) (ge_tup (ga_cons (al := []) ge_int (ga_cons (al := []) ge_int ga_nil))) ga_nil))) (ge_bin op_addD og_add (ac := []) (geLen nb (ge_var (pv 0))) (geLen nb (ge_var (pv 1)))))) (gss_cons (gs_for hp rfl (gi_enum (al := [0]) nb.enumerate (ge_var (pv 0))) (gg_tup rfl (ggs_cons (gg_name (i := 3) nd rfl (by first | exact .inl rfl | exact .inr rfl)) (ggs_cons (gg_name (i := 4) nd rfl (by first | exact .inl rfl | exact .inr rfl)) ggs_nil))) (gss_one (gs_for hp rfl (gi_enum (al := [1]) nb.enumerate (ge_var (pv 1))) (gg_tup rfl (ggs_cons (gg_name (i := 5) nd rfl (by first | exact .inl rfl | exact .inr rfl)) (ggs_cons (gg_name (i := 6) nd rfl (by first | exact .inl rfl | exact .inr rfl)) ggs_nil))) (gss_one (gs_setitem (al := [4, 6]) (pv 2) (ge_bin op_addD og_add (ac := []) (ge_var (pv 3)) (ge_var (pv 5))) (ge_call (f__law_plus.mono (by decide)).d rfl hr tk (ga_cons (al := [4, 6]) (ge_ix (ac := []) (ge_var (pv 2)) (ge_bin op_addD og_add (ac := []) (ge_var (pv 3)) (ge_var (pv 5)))) (ga_cons (al := [4, 6]) (ge_call (f__law_times.mono (by decide)).d rfl hr tk (ga_cons (al := [4, 6]) (ge_var (pv 4)) (ga_cons (al := [6]) (ge_var (pv 6)) ga_nil))) ga_nil)))))))) (gss_one (gs_ret (ge_call (f__law_thin.mono (by decide)).d rfl hr tk (ga_cons (al := [2]) (ge_var (pv 2)) ga_nil))))))) rfl rfl

def s__law_value : SM := (sSeq (sAsg (bName 2) [] (dTup (aCons (dC (.int 0)) (aCons (dC (.int 1)) aNil)))) (sSeq (sFor [] (dUn seqM (dUn revT (dVar 0))) (bName 3) (sAsg (bName 2) [1, 2, 3] (dCall 2 m__law_plus (aCons (dCall 2 m__law_times (aCons (dVar 2) (aCons (dTup (aCons (dVar 1) (aCons (dC (.int 1)) aNil))) aNil))) (aCons (dVar 3) aNil))))) (sRet (dVar 2))))
def m__law_value : List D → M D := bodyD 4 s__law_value

theorem sc__law_value : FnScope ["poly_so", "number_so", "total_so", "own"] ["poly_so", "number_so"] (defScope (topS 62)) := ⟨rfl, rfl, rfl, by decide +kernel, rfl, by decide +kernel, by decide +kernel⟩

theorem bi__law_value {K : PySem.W.Frag} {qual : Str} {f : Addr} {fd : FuncData} (F : Fun K "_law_value" qual (topS 62) f fd) : Binds K fd ["poly_so", "number_so"] [] := (F.binds (ps := ["poly_so", "number_so"]) fun _ _ _ _ _ _ us hl => match us, hl with | [_, _], _ => rfl)

theorem ok__law_value {P : Program} {w : World} {K : PySem.W.Frag} {mg : Mg} {base : Heap} {f : Addr} {fd : FuncData} (F : DefAt K mg "_law_value" (topS 62) f fd) (nb : Nb mg) (f__law_plus : FnK P w K mg base "_law_plus" 2 3 m__law_plus [] ["one", "two"]) (f__law_times : FnK P w K mg base "_law_times" 2 3 m__law_times [] ["one", "two"]) : FnK P w K mg base "_law_value" 2 4 m__law_value [] ["poly_so", "number_so"] :=
  fnk_mk F.fn F.mgf sc__law_value (bi__law_value F.fn) (fun j (hj : j ∈ ([] : List Nat)) => nomatch hj) (fun cdv A outer s H E hr tk hp => by
    have nd := sc__law_value.nd
    exact (gss_cons (gs_set (i := 2) (al := []) nd rfl (by first | exact .inl rfl | exact .inr rfl) (ge_tup (ga_cons (al := []) ge_int (ga_cons (al := []) ge_int ga_nil)))) (gss_cons (gs_for hp rfl (gi_seq (al := []) (ge_revT (ge_var (pv 0)))) (gg_name (i := 3) nd rfl (by first | exact .inl rfl | exact .inr rfl)) (gss_one (gs_set (i := 2) (al := [1, 2, 3]) nd rfl (by first | exact .inl rfl | exact .inr rfl) (ge_call (f__law_plus.mono (by decide)).d rfl hr tk (ga_cons (al := [1, 2, 3]) (ge_call (f__law_times.mono (by decide)).d rfl hr tk (ga_cons (al := [1, 2]) (ge_var (pv 2)) (ga_cons (al := [1]) (ge_tup (ga_cons (al := [1]) (ge_var (pv 1)) (ga_cons (al := []) ge_int ga_nil))) ga_nil))) (ga_cons (al := [3]) (ge_var (pv 3)) ga_nil)))))) (gss_one (gs_ret (ge_var (pv 2))))))) rfl rfl

def s__law_roots : SM := (sSeq (sAsg (bName 1) [] (dTup (aCons (dTup (aCons (dC (.int 1)) (aCons (dC (.int 1)) aNil))) aNil))) (sSeq (sFor [0] (dUn seqM (dVar 0)) (bName 2) (sAsg (bName 1) [1] (dCall 2 m__law_mul (aCons (dVar 1) (aCons (dIf (dB (dBin neD (dVar 2) (dC (.int 0)))) (dTup (aCons (dTup (aCons (dBin subD (dC (.int 0)) (dVar 2)) (aCons (dC (.int 1)) aNil))) (aCons (dTup (aCons (dC (.int 1)) (aCons (dC (.int 1)) aNil))) aNil))) (dTup (aCons (dTup (aCons (dC (.int 0)) (aCons (dC (.int 1)) aNil))) (aCons (dTup (aCons (dC (.int 1)) (aCons (dC (.int 1)) aNil))) aNil)))) aNil))))) (sRet (dVar 1))))
def m__law_roots : List D → M D := bodyD 3 s__law_roots

theorem sc__law_roots : FnScope ["numbers_so", "found", "own"] ["numbers_so"] (defScope (topS 63)) := ⟨rfl, rfl, rfl, by decide +kernel, rfl, by decide +kernel, by decide +kernel⟩

theorem bi__law_roots {K : PySem.W.Frag} {qual : Str} {f : Addr} {fd : FuncData} (F : Fun K "_law_roots" qual (topS 63) f fd) : Binds K fd ["numbers_so"] [] := (F.binds (ps := ["numbers_so"]) fun _ _ _ _ _ _ us hl => match us, hl with | [_], _ => rfl)

theorem ok__law_roots {P : Program} {w : World} {K : PySem.W.Frag} {mg : Mg} {base : Heap} {f : Addr} {fd : FuncData} (F : DefAt K mg "_law_roots" (topS 63) f fd) (nb : Nb mg) (f__law_mul : FnK P w K mg base "_law_mul" 2 4 m__law_mul [] ["one", "two"]) : FnK P w K mg base "_law_roots" 1 5 m__law_roots [] ["numbers_so"] :=
  fnk_mk F.fn F.mgf sc__law_roots (bi__law_roots F.fn) (fun j (hj : j ∈ ([] : List Nat)) => nomatch hj) (fun cdv A outer s H E hr tk hp => by
    have nd := sc__law_roots.nd
    exact (gss_cons (gs_set (i := 1) (al := []) nd rfl (by first | exact .inl rfl | exact .inr rfl) (ge_tup (ga_cons (al := []) (ge_tup (ga_cons (al := []) ge_int (ga_cons (al := []) ge_int ga_nil))) ga_nil))) (gss_cons (gs_for hp rfl (gi_seq (al := [0]) (ge_var (pv 0))) (gg_name (i := 2) nd rfl (by first | exact .inl rfl | exact .inr rfl)) (gss_one (gs_set (i := 1) (al := [1]) nd rfl (by first | exact .inl rfl | exact .inr rfl) (ge_call (f__law_mul.mono (by decide)).d rfl hr tk (ga_cons (al := [1]) (ge_var (pv 1)) (ga_cons (al := []) (ge_if (ar := []) (ac := []) (gt_cmp (op_neD hr.units) (fun _ => og_ne) (nomark _) (ac := []) (ge_var (pv 2)) ge_int) (ge_tup (ga_cons (al := []) (ge_tup (ga_cons (al := []) (ge_bin op_sub' og_sub (ar3 := []) (ac3 := []) (ac := []) ge_int (ge_var (pv 2))) (ga_cons (al := []) ge_int ga_nil))) (ga_cons (al := []) (ge_tup (ga_cons (al := []) ge_int (ga_cons (al := []) ge_int ga_nil))) ga_nil))) (ge_tup (ga_cons (al := []) (ge_tup (ga_cons (al := []) ge_int (ga_cons (al := []) ge_int ga_nil))) (ga_cons (al := []) (ge_tup (ga_cons (al := []) ge_int (ga_cons (al := []) ge_int ga_nil))) ga_nil)))) ga_nil)))))) (gss_one (gs_ret (ge_var (pv 1))))))) rfl rfl

def s__law_chosen : SM := (sSeq (sAsg (bName 1) [] (dC (.int 1))) (sSeq (sFor [] (dBinF rng2 (dC (.int 2)) (dBin addD (dVar 0) (dC (.int 1)))) (bName 2) (sAsg (bName 1) [] (dBin mulD (dVar 1) (dVar 2)))) (sRet (dCall 2 m__law_scale (aCons (dCall 1 m__law_roots (aCons (dL (dUn lrg1 (dVar 0))) aNil)) (aCons (dTup (aCons (dC (.int 1)) (aCons (dVar 1) aNil))) aNil))))))
def m__law_chosen : List D → M D := bodyD 3 s__law_chosen

theorem sc__law_chosen : FnScope ["many_so", "size_so", "k"] ["many_so"] (defScope (topS 64)) := ⟨rfl, rfl, rfl, by decide +kernel, rfl, by decide +kernel, by decide +kernel⟩

theorem bi__law_chosen {K : PySem.W.Frag} {qual : Str} {f : Addr} {fd : FuncData} (F : Fun K "_law_chosen" qual (topS 64) f fd) : Binds K fd ["many_so"] [] := (F.binds (ps := ["many_so"]) fun _ _ _ _ _ _ us hl => match us, hl with | [_], _ => rfl)

theorem ok__law_chosen {P : Program} {w : World} {K : PySem.W.Frag} {mg : Mg} {base : Heap} {f : Addr} {fd : FuncData} (F : DefAt K mg "_law_chosen" (topS 64) f fd) (nb : Nb mg) (f__law_roots : FnK P w K mg base "_law_roots" 1 5 m__law_roots [] ["numbers_so"]) (f__law_scale : FnK P w K mg base "_law_scale" 2 4 m__law_scale [] ["poly_so", "by_so"]) : FnK P w K mg base "_law_chosen" 1 6 m__law_chosen [] ["many_so"] :=
  fnk_mk F.fn F.mgf sc__law_chosen (bi__law_chosen F.fn) (fun j (hj : j ∈ ([] : List Nat)) => nomatch hj) (fun cdv A outer s H E hr tk hp => by
    have nd := sc__law_chosen.nd
    exact (gss_cons (gs_set (i := 1) (al := []) nd rfl (by first | exact .inl rfl | exact .inr rfl) ge_int) (gss_cons (gs_for hp rfl (gi_range2 nb.range ge_int (ge_bin op_addD og_add (ac := []) (ge_var (pv 0)) ge_int)) (gg_name (i := 2) nd rfl (by first | exact .inl rfl | exact .inr rfl)) (gss_one (gs_set (i := 1) (al := []) nd rfl (by first | exact .inl rfl | exact .inr rfl) (ge_bin op_mulDi og_mul (ar3 := []) (ac3 := []) (ac := []) (ge_var (pv 1)) (ge_var (pv 2)))))) (gss_one (gs_ret (ge_call (f__law_scale.mono (by decide)).d rfl hr tk (ga_cons (al := [1]) (ge_call (f__law_roots.mono (by decide)).d rfl hr tk (ga_cons (al := []) (GF.ge (gf_listRg1 rfl nb (ge_var (pv 0)))) ga_nil)) (ga_cons (al := [1]) (ge_tup (ga_cons (al := [1]) ge_int (ga_cons (al := [1]) (ge_var (pv 1)) ga_nil))) ga_nil)))))))) rfl rfl

def s__law_some_fraction : SM := (sRet (dCall 2 m__law_slim (aCons (dBin subD (dCall 2 m__law_take (aCons (dVar 0) (aCons (dBin addD (dBin mulD (dC (.int 2)) (dVar 1)) (dC (.int 1))) aNil))) (dVar 1)) (aCons (dBin addD (dC (.int 1)) (dCall 2 m__law_take (aCons (dVar 0) (aCons (dVar 2) aNil)))) aNil))))
def m__law_some_fraction : List D → M D := bodyD 3 s__law_some_fraction

theorem sc__law_some_fraction : FnScope ["tin", "top_so", "low_so"] ["tin", "top_so", "low_so"] (defScope (topS 65)) := ⟨rfl, rfl, rfl, by decide +kernel, rfl, by decide +kernel, by decide +kernel⟩

theorem bi__law_some_fraction {K : PySem.W.Frag} {qual : Str} {f : Addr} {fd : FuncData} (F : Fun K "_law_some_fraction" qual (topS 65) f fd) : Binds K fd ["tin", "top_so", "low_so"] [] := (F.binds (ps := ["tin", "top_so", "low_so"]) fun _ _ _ _ _ _ us hl => match us, hl with | [_, _, _], _ => rfl)

theorem ok__law_some_fraction {P : Program} {w : World} {K : PySem.W.Frag} {mg : Mg} {base : Heap} {f : Addr} {fd : FuncData} (F : DefAt K mg "_law_some_fraction" (topS 65) f fd) (nb : Nb mg) (f__law_slim : FnK P w K mg base "_law_slim" 2 2 m__law_slim [] ["over", "under"]) (f__law_take : FnK P w K mg base "_law_take" 2 1 m__law_take [] ["tin", "below_so"]) : FnK P w K mg base "_law_some_fraction" 3 3 m__law_some_fraction [] ["tin", "top_so", "low_so"] :=
  fnk_mk F.fn F.mgf sc__law_some_fraction (bi__law_some_fraction F.fn) (fun j (hj : j ∈ ([] : List Nat)) => nomatch hj) (fun cdv A outer s H E hr tk hp => by
    have nd := sc__law_some_fraction.nd
    exact (gss_one (gs_ret (ge_call (f__law_slim.mono (by decide)).d rfl hr tk (ga_cons (al := [0, 2]) (ge_bin op_sub' og_sub (ar3 := []) (ac3 := []) (ac := [0]) (ge_call (f__law_take.mono (by decide)).d rfl hr tk (ga_cons (al := [0]) (ge_var (pv 0)) (ga_cons (al := []) (ge_bin op_addD og_add (ac := []) (ge_bin op_mulDi og_mul (ar3 := []) (ac3 := []) (ac := []) ge_int (ge_var (pv 1))) ge_int) ga_nil))) (ge_var (pv 1))) (ga_cons (al := [0, 2]) (ge_bin op_addD og_add (ac := [0, 2]) ge_int (ge_call (f__law_take.mono (by decide)).d rfl hr tk (ga_cons (al := [0, 2]) (ge_var (pv 0)) (ga_cons (al := [2]) (ge_var (pv 2)) ga_nil)))) ga_nil)))))) rfl rfl

def s__law_some_poly : SM := (sRet (dCall 1 m__law_thin (aCons (dL (dComp3 [] [0, 2, 3] [4] (dUn rng1 (dCall 2 m__law_take (aCons (dVar 0) (aCons (dBin addD (dVar 1) (dC (.int 2))) aNil)))) (bName 4) tYesM (dCall 3 m__law_some_fraction (aCons (dVar 0) (aCons (dVar 2) (aCons (dVar 3) aNil)))))) aNil)))
def m__law_some_poly : List D → M D := bodyD 5 s__law_some_poly

theorem sc__law_some_poly : FnScope ["tin", "degree_so", "top_so", "low_so", "k"] ["tin", "degree_so", "top_so", "low_so"] (defScope (topS 66)) := ⟨rfl, rfl, rfl, by decide +kernel, rfl, by decide +kernel, by decide +kernel⟩

theorem bi__law_some_poly {K : PySem.W.Frag} {qual : Str} {f : Addr} {fd : FuncData} (F : Fun K "_law_some_poly" qual (topS 66) f fd) : Binds K fd ["tin", "degree_so", "top_so", "low_so"] [] := (F.binds (ps := ["tin", "degree_so", "top_so", "low_so"]) fun _ _ _ _ _ _ us hl => match us, hl with | [_, _, _, _], _ => rfl)

theorem ok__law_some_poly {P : Program} {w : World} {K : PySem.W.Frag} {mg : Mg} {base : Heap} {f : Addr} {fd : FuncData} (F : DefAt K mg "_law_some_poly" (topS 66) f fd) (nb : Nb mg) (f__law_some_fraction : FnK P w K mg base "_law_some_fraction" 3 3 m__law_some_fraction [] ["tin", "top_so", "low_so"]) (f__law_take : FnK P w K mg base "_law_take" 2 1 m__law_take [] ["tin", "below_so"]) (f__law_thin : FnK P w K mg base "_law_thin" 1 1 m__law_thin [] ["row_so"]) : FnK P w K mg base "_law_some_poly" 4 4 m__law_some_poly [] ["tin", "degree_so", "top_so", "low_so"] :=
  fnk_mk F.fn F.mgf sc__law_some_poly (bi__law_some_poly F.fn) (fun j (hj : j ∈ ([] : List Nat)) => nomatch hj) (fun cdv A outer s H E hr tk hp => by
    have nd := sc__law_some_poly.nd
    exact (gss_one (gs_ret (ge_call (f__law_thin.mono (by decide)).d rfl hr tk (ga_cons (al := [0, 2, 3]) (GF.ge (gf_comp (own := [("k", 4)]) (ac3 := [0, 2, 3]) rfl nd (gi_range1 nb.range (ge_call (f__law_take.mono (by decide)).d rfl hr tk (ga_cons (al := [0]) (ge_var (pv 0)) (ga_cons (al := []) (ge_bin op_addD og_add (ac := []) (ge_var (pv 1)) ge_int) ga_nil)))) (blkOk_by (N := ["tin", "degree_so", "top_so", "low_so", "k"]) (sc := defScope (topS 66)) (by decide +kernel)) (fun _ _ _ _ _ => (gg_name (i := 4) nd rfl (by first | exact .inl rfl | exact .inr rfl))) (fun _ _ _ _ _ => gts_nil) (fun _ _ _ _ _ => (ge_call (f__law_some_fraction.mono (by decide)).d rfl hr takesN (ga_cons (al := [0, 2, 3]) (ge_var (pv 0)) (ga_cons (al := [2, 3]) (ge_var (pv 2)) (ga_cons (al := [3]) (ge_var (pv 3)) ga_nil))))))) ga_nil))))) rfl rfl

def s__law_told : SM := (sSeq (sAsg (bName 1) [] (dL (dUn ssetF (dL (dComp3 [] [] [6] (dUn seqM (dVar 1)) (bName 6) tYesM (dBin modD (dVar 6) (dVar 0))))))) (sSeq (sOwn 3 [5] (dComp3 [] [5] [5] (dBinF rng2 (dC (.int 1)) (dBin addD (dVar 0) (dC (.int 1)))) (bName 5) (dAndT (dB (dBin eqD (dBin mulD (dBin divD (dVar 0) (dVar 5)) (dVar 5)) (dVar 0))) (dB (dBin eqD (dL (dUn ssetF (dL (dComp3 [] [] [6] (dUn seqM (dVar 1)) (bName 6) tYesM (dBin modD (dBin addD (dVar 6) (dVar 5)) (dVar 0)))))) (dVar 1)))) (dVar 5))) (sSeq (sAsg (bName 4) [] (dBin ixD (dVar 3) (dC (.int 0)))) (sSeq (sAsg (bName 1) [] (dL (dUn ssetF (dL (dComp3 [] [] [6] (dUn seqM (dVar 1)) (bName 6) tYesM (dBin modD (dVar 6) (dVar 4))))))) (sRet (dTup (aCons (dVar 4) (aCons (dUn tupleD (dVar 1)) (aCons (dUn tupleD (dL (dUn ssetF (dL (dComp3 [] [6] [6] (dUn seqM (dVar 2)) (bName 6) (dB (dBin (inD true) (dBin modD (dVar 6) (dVar 4)) (dVar 1))) (dVar 6)))))) aNil)))))))))
def m__law_told : List D → M D := bodyD 7 s__law_told

theorem sc__law_told : FnScope ["by_so", "rests_so", "more_so", "goods_so", "least_so", "k", "own"] ["by_so", "rests_so", "more_so"] (defScope (topS 67)) := ⟨rfl, rfl, rfl, by decide +kernel, rfl, by decide +kernel, by decide +kernel⟩

theorem bi__law_told {K : PySem.W.Frag} {qual : Str} {f : Addr} {fd : FuncData} (F : Fun K "_law_told" qual (topS 67) f fd) : Binds K fd ["by_so", "rests_so", "more_so"] [] := (F.binds (ps := ["by_so", "rests_so", "more_so"]) fun _ _ _ _ _ _ us hl => match us, hl with | [_, _, _], _ => rfl)

theorem ok__law_told {P : Program} {w : World} {K : PySem.W.Frag} {mg : Mg} {base : Heap} {f : Addr} {fd : FuncData} (F : DefAt K mg "_law_told" (topS 67) f fd) (nb : Nb mg)  : FnK P w K mg base "_law_told" 3 1 m__law_told [] ["by_so", "rests_so", "more_so"] :=
  fnk_mk F.fn F.mgf sc__law_told (bi__law_told F.fn) (fun j (hj : j ∈ ([] : List Nat)) => nomatch hj) (fun cdv A outer s H E hr tk hp => by
    have nd := sc__law_told.nd
    exact (gss_cons (gs_set (i := 1) (al := []) nd rfl (by first | exact .inl rfl | exact .inr rfl) (GF.ge (gf_sset rfl nb (GF.ge (gf_comp (own := [("own", 6)]) (ac3 := []) rfl nd (gi_seq (al := [1]) (ge_var (pv 1))) (blkOk_by (N := ["by_so", "rests_so", "more_so", "goods_so", "least_so", "k", "own"]) (sc := defScope (topS 67)) (by decide +kernel)) (fun _ _ _ _ _ => (gg_name (i := 6) nd rfl (by first | exact .inl rfl | exact .inr rfl))) (fun _ _ _ _ _ => gts_nil) (fun _ _ _ _ _ => (ge_bin op_modN og_mod (ar3 := []) (ac3 := []) (ac := []) (ge_var (pv 6)) (ge_var (pv 0))))))))) (gss_cons (gs_ownC (i := 3) (own := [("k", 5)]) (ac3 := [5]) rfl nd rfl rfl (sw_true rfl rfl rfl (by decide +kernel)) (gi_range2 nb.range ge_int (ge_bin op_addD og_add (ac := []) (ge_var (pv 0)) ge_int)) (blkOk_by (N := ["by_so", "rests_so", "more_so", "goods_so", "least_so", "k", "own"]) (sc := defScope (topS 67)) (by decide +kernel)) (fun _ _ _ _ _ => (gg_name (i := 5) nd rfl (by first | exact .inl rfl | exact .inr rfl))) (fun _ _ _ _ _ => (gts_one (gw_pt (gw_and (gt_cmp (op_eqD hr.units) (fun _ => og_eq) (nomark _) (ac := []) (ge_bin op_mulDi og_mul (ar3 := []) (ac3 := []) (ac := []) (ge_bin op_divD og_div (ar3 := []) (ac3 := []) (ac := []) (ge_var (pv 0)) (ge_var (pv 5))) (ge_var (pv 5))) (ge_var (pv 0))) (gw_and1 (gt_cmp (op_eqD hr.units) (fun _ => og_eq) (nomark _) (ac := []) (GF.ge (gf_sset rfl nb (GF.ge (gf_comp (own := [("own", 6)]) (ac3 := []) rfl nd (gi_seq (al := [1]) (ge_var (pv 1))) (blkOk_by (N := ["by_so", "rests_so", "more_so", "goods_so", "least_so", "k", "own"]) (sc := (relS ⟨.function, [(".0", .local), ("k", .cell), ("sorted", .globalImplicit), ("set", .globalImplicit), ("by_so", .free), ("rests_so", .free)], false, false, []⟩ (defScope (topS 67)))) (by decide +kernel)) (fun _ _ _ _ _ => (gg_name (i := 6) nd rfl (by first | exact .inl rfl | exact .inr rfl))) (fun _ _ _ _ _ => gts_nil) (fun _ _ _ _ _ => (ge_bin op_modN og_mod (ar3 := []) (ac3 := []) (ac := []) (ge_bin op_addD og_add (ac := []) (ge_var (pv 6)) (ge_var (pv 5))) (ge_var (pv 0)))))))) (ge_var (pv 1)))))))) (fun _ _ _ _ _ => (ge_var (pv 5)))) (gss_cons (gs_set (i := 4) (al := []) nd rfl (by first | exact .inl rfl | exact .inr rfl) (ge_ix (ac := []) (ge_var (pv 3)) ge_int)) (gss_cons (gs_set (i := 1) (al := []) nd rfl (by first | exact .inl rfl | exact .inr rfl) (GF.ge (gf_sset rfl nb (GF.ge (gf_comp (own := [("own", 6)]) (ac3 := []) rfl nd (gi_seq (al := [1]) (ge_var (pv 1))) (blkOk_by (N := ["by_so", "rests_so", "more_so", "goods_so", "least_so", "k", "own"]) (sc := defScope (topS 67)) (by decide +kernel)) (fun _ _ _ _ _ => (gg_name (i := 6) nd rfl (by first | exact .inl rfl | exact .inr rfl))) (fun _ _ _ _ _ => gts_nil) (fun _ _ _ _ _ => (ge_bin op_modN og_mod (ar3 := []) (ac3 := []) (ac := []) (ge_var (pv 6)) (ge_var (pv 4))))))))) (gss_one (gs_ret (ge_tup (ga_cons (al := [4]) (ge_var (pv 4)) (ga_cons (al := []) (geTuple nb (ge_var (pv 1))) (ga_cons (al := []) (geTuple nb (GF.ge (gf_sset rfl nb (GF.ge (gf_comp (own := [("own", 6)]) (ac3 := [6]) rfl nd (gi_seq (al := [2]) (ge_var (pv 2))) (blkOk_by (N := ["by_so", "rests_so", "more_so", "goods_so", "least_so", "k", "own"]) (sc := defScope (topS 67)) (by decide +kernel)) (fun _ _ _ _ _ => (gg_name (i := 6) nd rfl (by first | exact .inl rfl | exact .inr rfl))) (fun _ _ _ _ _ => (gts_one (gt_cmp op_ninD (fun _ => og_in) (by rfl) (ac := []) (ge_bin op_modN og_mod (ar3 := []) (ac3 := []) (ac := []) (ge_var (pv 6)) (ge_var (pv 4))) (ge_var (pv 1))))) (fun _ _ _ _ _ => (ge_var (pv 6)))))))) ga_nil))))))))))) rfl rfl

def s__law_has : SM := (sRet (dOr (dBin (inD false) (dBin modD (dVar 1) (dBin ixD (dVar 0) (dC (.int 0)))) (dBin ixD (dVar 0) (dC (.int 1)))) (dBin (inD false) (dVar 1) (dBin ixD (dVar 0) (dC (.int 2))))))
def m__law_has : List D → M D := bodyD 2 s__law_has

theorem sc__law_has : FnScope ["set_so", "number_so"] ["set_so", "number_so"] (defScope (topS 68)) := ⟨rfl, rfl, rfl, by decide +kernel, rfl, by decide +kernel, by decide +kernel⟩

theorem bi__law_has {K : PySem.W.Frag} {qual : Str} {f : Addr} {fd : FuncData} (F : Fun K "_law_has" qual (topS 68) f fd) : Binds K fd ["set_so", "number_so"] [] := (F.binds (ps := ["set_so", "number_so"]) fun _ _ _ _ _ _ us hl => match us, hl with | [_, _], _ => rfl)

theorem ok__law_has {P : Program} {w : World} {K : PySem.W.Frag} {mg : Mg} {base : Heap} {f : Addr} {fd : FuncData} (F : DefAt K mg "_law_has" (topS 68) f fd) (nb : Nb mg)  : FnK P w K mg base "_law_has" 2 1 m__law_has [] ["set_so", "number_so"] :=
  fnk_mk F.fn F.mgf sc__law_has (bi__law_has F.fn) (fun j (hj : j ∈ ([] : List Nat)) => nomatch hj) (fun cdv A outer s H E hr tk hp => by
    have nd := sc__law_has.nd
    exact (gss_one (gs_ret (ge_or (ar := []) (ac := []) (ge_cmp op_inD og_in (by rfl) (ac := []) (ge_bin op_modN og_mod (ar3 := []) (ac3 := []) (ac := []) (ge_var (pv 1)) (ge_ix (ac := []) (ge_var (pv 0)) ge_int)) (ge_ix (ac := []) (ge_var (pv 0)) ge_int)) (ge_one (ge_cmp op_inD og_in (by rfl) (ac := []) (ge_var (pv 1)) (ge_ix (ac := []) (ge_var (pv 0)) ge_int))))))) rfl rfl

def s__law_some_set : SM := (sSeq (sAsg (bName 2) [0] (dCall 2 m__law_take (aCons (dVar 0) (aCons (dC (.int 5)) aNil)))) (sSeq (sIf (dB (dBin eqD (dVar 2) (dC (.int 0)))) (sRet (dTup (aCons (dC (.int 1)) (aCons (dTup (aCons (dC (.int 0)) aNil)) (aCons (dTup aNil) aNil))))) sNil) (sSeq (sIf (dB (dBin eqD (dVar 2) (dC (.int 1)))) (sRet (dCall 3 m__law_told (aCons (dC (.int 1)) (aCons (dL (dLst aNil)) (aCons (dL (dComp3 [] [] [6] (dUn rng1 (dBin addD (dC (.int 1)) (dCall 2 m__law_take (aCons (dVar 0) (aCons (dC (.int 9)) aNil))))) (bName 6) tYesM (dBin subD (dCall 2 m__law_take (aCons (dVar 0) (aCons (dC (.int 41)) aNil))) (dC (.int 20))))) aNil))))) sNil) (sSeq (sAsg (bName 3) [0, 1] (dBin addD (dC (.int 1)) (dCall 2 m__law_take (aCons (dVar 0) (aCons (dVar 1) aNil))))) (sSeq (sAsg (bName 4) [0, 3] (dCall 3 m__law_pick (aCons (dVar 0) (aCons (dL (dUn lrg1 (dVar 3))) (aCons (dBin addD (dC (.int 1)) (dCall 2 m__law_take (aCons (dVar 0) (aCons (dVar 3) aNil)))) aNil))))) (sSeq (sAsg (bName 5) [] (dIf (dB (dBin eqD (dVar 2) (dC (.int 2)))) (dL (dComp3 [] [] [6] (dUn rng1 (dCall 2 m__law_take (aCons (dVar 0) (aCons (dC (.int 4)) aNil)))) (bName 6) tYesM (dBin subD (dCall 2 m__law_take (aCons (dVar 0) (aCons (dC (.int 61)) aNil))) (dC (.int 30))))) (dL (dLst aNil)))) (sRet (dCall 3 m__law_told (aCons (dVar 3) (aCons (dVar 4) (aCons (dVar 5) aNil)))))))))))
def m__law_some_set : List D → M D := bodyD 7 s__law_some_set

theorem sc__law_some_set : FnScope ["tin", "by_so", "kind_so", "number_so", "rests_so", "more_so", "k"] ["tin", "by_so"] (defScope (topS 69)) := ⟨rfl, rfl, rfl, by decide +kernel, rfl, by decide +kernel, by decide +kernel⟩

theorem bi__law_some_set {K : PySem.W.Frag} {qual : Str} {f : Addr} {fd : FuncData} (F : Fun K "_law_some_set" qual (topS 69) f fd) : Binds K fd ["tin", "by_so"] [] := (F.binds (ps := ["tin", "by_so"]) fun _ _ _ _ _ _ us hl => match us, hl with | [_, _], _ => rfl)

theorem ok__law_some_set {P : Program} {w : World} {K : PySem.W.Frag} {mg : Mg} {base : Heap} {f : Addr} {fd : FuncData} (F : DefAt K mg "_law_some_set" (topS 69) f fd) (nb : Nb mg) (f__law_pick : FnK P w K mg base "_law_pick" 3 2 m__law_pick [] ["tin", "goods_so", "count_so"]) (f__law_take : FnK P w K mg base "_law_take" 2 1 m__law_take [] ["tin", "below_so"]) (f__law_told : FnK P w K mg base "_law_told" 3 1 m__law_told [] ["by_so", "rests_so", "more_so"]) : FnK P w K mg base "_law_some_set" 2 3 m__law_some_set [] ["tin", "by_so"] :=
  fnk_mk F.fn F.mgf sc__law_some_set (bi__law_some_set F.fn) (fun j (hj : j ∈ ([] : List Nat)) => nomatch hj) (fun cdv A outer s H E hr tk hp => by
    have nd := sc__law_some_set.nd
    exact (gss_cons (gs_set (i := 2) (al := [0]) nd rfl (by first | exact .inl rfl | exact .inr rfl) (ge_call (f__law_take.mono (by decide)).d rfl hr tk (ga_cons (al := [0]) (ge_var (pv 0)) (ga_cons (al := []) ge_int ga_nil)))) (gss_cons (gs_if (gt_cmp (op_eqD hr.units) (fun _ => og_eq) (nomark _) (ac := []) (ge_var (pv 2)) ge_int) (gss_one (gs_ret (ge_tup (ga_cons (al := []) ge_int (ga_cons (al := []) (ge_tup (ga_cons (al := []) ge_int ga_nil)) (ga_cons (al := []) (ge_tup ga_nil) ga_nil)))))) gss_nil) (gss_cons (gs_if (gt_cmp (op_eqD hr.units) (fun _ => og_eq) (nomark _) (ac := []) (ge_var (pv 2)) ge_int) (gss_one (gs_ret (ge_call (f__law_told.mono (by decide)).d rfl hr tk (ga_cons (al := []) ge_int (ga_cons (al := []) (GF.ge (gf_lst ga_nil)) (ga_cons (al := []) (GF.ge (gf_comp (own := [("k", 6)]) (ac3 := []) rfl nd (gi_range1 nb.range (ge_bin op_addD og_add (ac := [0]) ge_int (ge_call (f__law_take.mono (by decide)).d rfl hr tk (ga_cons (al := [0]) (ge_var (pv 0)) (ga_cons (al := []) ge_int ga_nil))))) (blkOk_by (N := ["tin", "by_so", "kind_so", "number_so", "rests_so", "more_so", "k"]) (sc := defScope (topS 69)) (by decide +kernel)) (fun _ _ _ _ _ => (gg_name (i := 6) nd rfl (by first | exact .inl rfl | exact .inr rfl))) (fun _ _ _ _ _ => gts_nil) (fun _ _ _ _ _ => (ge_bin op_sub' og_sub (ar3 := []) (ac3 := []) (ac := [0]) (ge_call (f__law_take.mono (by decide)).d rfl hr takesN (ga_cons (al := [0]) (ge_var (pv 0)) (ga_cons (al := []) ge_int ga_nil))) ge_int)))) ga_nil)))))) gss_nil) (gss_cons (gs_set (i := 3) (al := [0, 1]) nd rfl (by first | exact .inl rfl | exact .inr rfl) (ge_bin op_addD og_add (ac := [0, 1]) ge_int (ge_call (f__law_take.mono (by decide)).d rfl hr tk (ga_cons (al := [0, 1]) (ge_var (pv 0)) (ga_cons (al := [1]) (ge_var (pv 1)) ga_nil))))) (gss_cons (gs_set (i := 4) (al := [0, 3]) nd rfl (by first | exact .inl rfl | exact .inr rfl) (ge_call (f__law_pick.mono (by decide)).d rfl hr tk (ga_cons (al := [0, 3]) (ge_var (pv 0)) (ga_cons (al := [0, 3]) (GF.ge (gf_listRg1 rfl nb (ge_var (pv 3)))) (ga_cons (al := [0, 3]) (ge_bin op_addD og_add (ac := [0, 3]) ge_int (ge_call (f__law_take.mono (by decide)).d rfl hr tk (ga_cons (al := [0, 3]) (ge_var (pv 0)) (ga_cons (al := [3]) (ge_var (pv 3)) ga_nil)))) ga_nil))))) (gss_cons (gs_set (i := 5) (al := []) nd rfl (by first | exact .inl rfl | exact .inr rfl) (ge_if (ar := []) (ac := []) (gt_cmp (op_eqD hr.units) (fun _ => og_eq) (nomark _) (ac := []) (ge_var (pv 2)) ge_int) (GF.ge (gf_comp (own := [("k", 6)]) (ac3 := []) rfl nd (gi_range1 nb.range (ge_call (f__law_take.mono (by decide)).d rfl hr tk (ga_cons (al := [0]) (ge_var (pv 0)) (ga_cons (al := []) ge_int ga_nil)))) (blkOk_by (N := ["tin", "by_so", "kind_so", "number_so", "rests_so", "more_so", "k"]) (sc := defScope (topS 69)) (by decide +kernel)) (fun _ _ _ _ _ => (gg_name (i := 6) nd rfl (by first | exact .inl rfl | exact .inr rfl))) (fun _ _ _ _ _ => gts_nil) (fun _ _ _ _ _ => (ge_bin op_sub' og_sub (ar3 := []) (ac3 := []) (ac := [0]) (ge_call (f__law_take.mono (by decide)).d rfl hr takesN (ga_cons (al := [0]) (ge_var (pv 0)) (ga_cons (al := []) ge_int ga_nil))) ge_int)))) (GF.ge (gf_lst ga_nil)))) (gss_one (gs_ret (ge_call (f__law_told.mono (by decide)).d rfl hr tk (ga_cons (al := [3, 4, 5]) (ge_var (pv 3)) (ga_cons (al := [4, 5]) (ge_var (pv 4)) (ga_cons (al := [5]) (ge_var (pv 5)) ga_nil))))))))))))) rfl rfl

def s__law_members : SM := (sRet (dL (dComp3 [] [3] [3] (dBinF rng2 (dVar 1) (dBin addD (dVar 2) (dC (.int 1)))) (bName 3) (dTru (dCall 2 m__law_has (aCons (dVar 0) (aCons (dVar 3) aNil)))) (dVar 3))))
def m__law_members : List D → M D := bodyD 4 s__law_members

theorem sc__law_members : FnScope ["set_so", "low_so", "high_so", "k"] ["set_so", "low_so", "high_so"] (defScope (topS 70)) := ⟨rfl, rfl, rfl, by decide +kernel, rfl, by decide +kernel, by decide +kernel⟩

theorem bi__law_members {K : PySem.W.Frag} {qual : Str} {f : Addr} {fd : FuncData} (F : Fun K "_law_members" qual (topS 70) f fd) : Binds K fd ["set_so", "low_so", "high_so"] [] := (F.binds (ps := ["set_so", "low_so", "high_so"]) fun _ _ _ _ _ _ us hl => match us, hl with | [_, _, _], _ => rfl)

theorem ok__law_members {P : Program} {w : World} {K : PySem.W.Frag} {mg : Mg} {base : Heap} {f : Addr} {fd : FuncData} (F : DefAt K mg "_law_members" (topS 70) f fd) (nb : Nb mg) (f__law_has : FnK P w K mg base "_law_has" 2 1 m__law_has [] ["set_so", "number_so"]) : FnK P w K mg base "_law_members" 3 2 m__law_members [] ["set_so", "low_so", "high_so"] :=
  fnk_mk F.fn F.mgf sc__law_members (bi__law_members F.fn) (fun j (hj : j ∈ ([] : List Nat)) => nomatch hj) (fun cdv A outer s H E hr tk hp => by
    have nd := sc__law_members.nd
    exact (gss_one (gs_ret (GF.ge (gf_comp (own := [("k", 3)]) (ac3 := [3]) rfl nd (gi_range2 nb.range (ge_var (pv 1)) (ge_bin op_addD og_add (ac := []) (ge_var (pv 2)) ge_int)) (blkOk_by (N := ["set_so", "low_so", "high_so", "k"]) (sc := defScope (topS 70)) (by decide +kernel)) (fun _ _ _ _ _ => (gg_name (i := 3) nd rfl (by first | exact .inl rfl | exact .inr rfl))) (fun _ _ _ _ _ => (gts_one (gt_val (ge_call (f__law_has.mono (by decide)).d rfl hr takesN (ga_cons (al := [0, 3]) (ge_var (pv 0)) (ga_cons (al := [3]) (ge_var (pv 3)) ga_nil)))))) (fun _ _ _ _ _ => (ge_var (pv 3)))))))) rfl rfl

def s__law_astray : SM := (sSeq (sAsg (bTup 2 (bCons (bName 3) (bCons (bName 4) bNil))) [] (dTup (aCons (dC .non) (aCons (dC .non) aNil)))) (sSeq (sTryU Us 5 [("CanNot", (sAsg (bName 3) [] (dL (dLst (aCons (dC (.str "can not")) aNil)))))] (sAsg (bName 4) [0, 1, 2] (dCall 3 m_why_no_lead (aCons (dVar 0) (aCons (dVar 1) (aCons (dVar 2) aNil)))))) (sRet (dIf (dB (dBin isD (dVar 3) (dC .non))) (dVar 4) (dVar 3)))))
def m__law_astray : List D → M D := bodyD 5 s__law_astray

theorem sc__law_astray : FnScope ["one", "poly_so", "two", "caught", "told_so"] ["one", "poly_so", "two"] (defScope (topS 71)) := ⟨rfl, rfl, rfl, by decide +kernel, rfl, by decide +kernel, by decide +kernel⟩

theorem bi__law_astray {K : PySem.W.Frag} {qual : Str} {f : Addr} {fd : FuncData} (F : Fun K "_law_astray" qual (topS 71) f fd) : Binds K fd ["one", "poly_so", "two"] [] := (F.binds (ps := ["one", "poly_so", "two"]) fun _ _ _ _ _ _ us hl => match us, hl with | [_, _, _], _ => rfl)

theorem ok__law_astray {P : Program} {w : World} {K : PySem.W.Frag} {mg : Mg} {base : Heap} {f : Addr} {fd : FuncData} (F : DefAt K mg "_law_astray" (topS 71) f fd) (nb : Nb mg) (f_why_no_lead : FnK P w K mg base "why_no_lead" 3 45 m_why_no_lead [0] ["one", "poly", "other"]) (nVE : mg "ValueError" = none) (fU : ∀ c ∈ Us, ExcT K mg c) (fUE : ∀ c ∈ Us, ∀ c' ∈ Us, ExcE K mg c c') : FnK P w K mg base "_law_astray" 3 46 m__law_astray [] ["one", "poly_so", "two"] :=
  fnk_mk F.fn F.mgf sc__law_astray (bi__law_astray F.fn) (fun j (hj : j ∈ ([] : List Nat)) => nomatch hj) (fun cdv A outer s H E hr tk hp => by
    have nd := sc__law_astray.nd
    exact (gss_cons (gs_asg (al := []) (gg_tup rfl (ggs_cons (gg_name (i := 3) nd rfl (by first | exact .inl rfl | exact .inr rfl)) (ggs_cons (gg_name (i := 4) nd rfl (by first | exact .inl rfl | exact .inr rfl)) ggs_nil))) (ge_tup (ga_cons (al := []) ge_non (ga_cons (al := []) ge_non ga_nil)))) (gss_cons (gs_tryU (n := 5) (l := [("CanNot", (sAsg (bName 3) [] (dL (dLst (aCons (dC (.str "can not")) aNil)))))]) (U := Us) rfl rfl rfl tk (fun pn xe E tk hp => (gss_one (gs_set (i := 4) (al := [0, 1, 2]) nd rfl (by first | exact .inl rfl | exact .inr rfl) (ge_callK0 (f_why_no_lead.mono (by decide)) (by decide) rfl hr tk (gkw_cons (al := [0, 1, 2]) (ge_var (pv 0)) (gkw_cons (al := [1, 2]) (ge_var (pv 1)) (gkw_cons (al := [2]) (ge_var (pv 2)) gkw_nil))))))) (.cons (c := "CanNot") rfl rfl (by decide) (fun a oe pn => (gss_one (gs_set (i := 3) (al := []) nd rfl (by first | exact .inl rfl | exact .inr rfl) (GF.ge (gf_lst (ga_cons (al := []) ge_str ga_nil)))))) .nil) fU (fun c hc p hp => fUE c hc _ ((by decide : ∀ p ∈ ([("CanNot", (sAsg (bName 3) [] (dL (dLst (aCons (dC (.str "can not")) aNil)))))] : List (String × SM)), p.1 ∈ Us) p hp)) (by decide)) (gss_one (gs_ret (ge_if (ar := [3, 4]) (ac := []) (gt_cmp op_isD (fun _ => og_is) (nomark _) (ac := []) (ge_var (pv 3)) ge_non) (ge_var (pv 4)) (ge_var (pv 3)))))))) rfl rfl

def s__law_fits : SM := (sSeq (sAsg (bTup 2 (bCons (bName 3) (bCons (bName 4) bNil))) [0, 1] (dCall 2 m__law_value (aCons (dVar 0) (aCons (dVar 1) aNil)))) (sRet (dAnd (dBin eqD (dVar 4) (dC (.int 1))) (dCall 2 m__law_has (aCons (dVar 2) (aCons (dVar 3) aNil))))))
def m__law_fits : List D → M D := bodyD 5 s__law_fits

theorem sc__law_fits : FnScope ["poly_so", "number_so", "two", "over", "under"] ["poly_so", "number_so", "two"] (defScope (topS 72)) := ⟨rfl, rfl, rfl, by decide +kernel, rfl, by decide +kernel, by decide +kernel⟩

theorem bi__law_fits {K : PySem.W.Frag} {qual : Str} {f : Addr} {fd : FuncData} (F : Fun K "_law_fits" qual (topS 72) f fd) : Binds K fd ["poly_so", "number_so", "two"] [] := (F.binds (ps := ["poly_so", "number_so", "two"]) fun _ _ _ _ _ _ us hl => match us, hl with | [_, _, _], _ => rfl)

theorem ok__law_fits {P : Program} {w : World} {K : PySem.W.Frag} {mg : Mg} {base : Heap} {f : Addr} {fd : FuncData} (F : DefAt K mg "_law_fits" (topS 72) f fd) (nb : Nb mg) (f__law_has : FnK P w K mg base "_law_has" 2 1 m__law_has [] ["set_so", "number_so"]) (f__law_value : FnK P w K mg base "_law_value" 2 4 m__law_value [] ["poly_so", "number_so"]) : FnK P w K mg base "_law_fits" 3 5 m__law_fits [] ["poly_so", "number_so", "two"] :=
  fnk_mk F.fn F.mgf sc__law_fits (bi__law_fits F.fn) (fun j (hj : j ∈ ([] : List Nat)) => nomatch hj) (fun cdv A outer s H E hr tk hp => by
    have nd := sc__law_fits.nd
    exact (gss_cons (gs_asg (al := [0, 1]) (gg_tup rfl (ggs_cons (gg_name (i := 3) nd rfl (by first | exact .inl rfl | exact .inr rfl)) (ggs_cons (gg_name (i := 4) nd rfl (by first | exact .inl rfl | exact .inr rfl)) ggs_nil))) (ge_call (f__law_value.mono (by decide)).d rfl hr tk (ga_cons (al := [0, 1]) (ge_var (pv 0)) (ga_cons (al := [1]) (ge_var (pv 1)) ga_nil)))) (gss_one (gs_ret (ge_and (ar := [2, 3]) (ac := [2, 3]) (ge_cmp (op_eqD hr.units) og_eq (nomark _) (ac := []) (ge_var (pv 4)) ge_int) (ge_one (ge_call (f__law_has.mono (by decide)).d rfl hr tk (ga_cons (al := [2, 3]) (ge_var (pv 2)) (ga_cons (al := [3]) (ge_var (pv 3)) ga_nil))))))))) rfl rfl

def s__law_right : SM := (sSeq (sAsg (bTup 2 (bCons (bName 9) (bCons (bName 10) bNil))) [0] (dTup (aCons (dCall 2 m__law_some_set (aCons (dVar 0) (aCons (dC (.int 6)) aNil))) (aCons (dCall 2 m__law_some_set (aCons (dVar 0) (aCons (dC (.int 8)) aNil))) aNil)))) (sSeq (sAsg (bName 1) [0] (dCall 2 m__law_of (aCons (dVar 0) (aCons (dL (dLst (aCons (dCall 4 m__law_some_poly (aCons (dVar 0) (aCons (dC (.int 3)) (aCons (dC (.int 6)) (aCons (dC (.int 1)) aNil))))) (aCons (dCall 4 m__law_some_poly (aCons (dVar 0) (aCons (dC (.int 2)) (aCons (dC (.int 4)) (aCons (dC (.int 2)) aNil))))) (aCons (dCall 1 m__law_chosen (aCons (dC (.int 2)) aNil)) (aCons (dTup (aCons (dTup (aCons (dC (.int 0)) (aCons (dC (.int 1)) aNil))) (aCons (dTup (aCons (dC (.int 0)) (aCons (dC (.int 1)) aNil))) (aCons (dTup (aCons (dC (.int 1)) (aCons (dC (.int 1)) aNil))) aNil)))) (aCons (dTup (aCons (dTup (aCons (dCall 2 m__law_take (aCons (dVar 0) (aCons (dC (.int 9)) aNil))) (aCons (dC (.int 1)) aNil))) (aCons (dTup (aCons (dBin ixD (dVar 10) (dC (.int 0))) (aCons (dC (.int 1)) aNil))) aNil))) aNil))))))) aNil)))) (sSeq (sAsg (bName 2) [] (dC (.int 1))) (sSeq (sFor [1] (dUn seqM (dVar 1)) (bName 3) (sAsg (bName 2) [] (dBin mulD (dBin divD (dVar 2) (dCall 2 m__law_gcd (aCons (dVar 2) (aCons (dBin ixD (dVar 3) (dC (.int 1))) aNil)))) (dBin ixD (dVar 3) (dC (.int 1)))))) (sSeq (sAsg (bName 4) [] (dBin mulD (dBin ixD (dVar 10) (dC (.int 0))) (dVar 2))) (sSeq (sAsg (bName 5) [] (dBin mulD (dBin divD (dBin ixD (dVar 9) (dC (.int 0))) (dCall 2 m__law_gcd (aCons (dBin ixD (dVar 9) (dC (.int 0))) (aCons (dVar 4) aNil)))) (dVar 4))) (sSeq (sIf (dNotT (dTru (dCall 2 (m__law_same 40) (aCons (dCall 3 m_lead_round (aCons (dCall 2 (m__law_mixed 40) (aCons (dVar 0) (aCons (dVar 9) aNil))) (aCons (dVar 1) (aCons (dVar 10) aNil)))) (aCons (dVar 5) aNil))))) (sRet (dC (.bl false))) sNil) (sSeq (sAsg (bName 6) [9] (dL (dBinF addF (dSl slD (dCall 3 m__law_members (aCons (dVar 9) (aCons (dC (.int 0)) (aCons (dBin mulD (dVar 5) (dBin addD (dC (.int 2)) (dBin mulD (dUn lenD (dBin ixD (dVar 10) (dC (.int 2)))) (dBin maxD (dUn lenD (dVar 1)) (dC (.int 1)))))) aNil)))) oNo (oSo (dC (.int 3000)))) (dL (dUn listF (dBin ixD (dVar 9) (dC (.int 2)))))))) (sSeq (sAsg (bName 7) [] (dBin eqD (dL (dComp3 [] [3] [3] (dUn seqM (dVar 6)) (bName 3) (dNotT (dTru (dCall 3 m__law_fits (aCons (dVar 1) (aCons (dVar 3) (aCons (dVar 10) aNil)))))) (dVar 3))) (dL (dLst aNil)))) (sSeq (sIf (dNotT (dTru (dCall 2 (m__law_same 40) (aCons (dCall 3 m_leads_into (aCons (dVar 9) (aCons (dCall 1 (m__law_lists 40) (aCons (dVar 1) aNil)) (aCons (dVar 10) aNil)))) (aCons (dVar 7) aNil))))) (sRet (dC (.bl false))) sNil) (sSeq (sAsg (bName 8) [0, 1, 9, 10] (dCall 3 m__law_astray (aCons (dVar 9) (aCons (dVar 1) (aCons (dCall 2 (m__law_mixed 40) (aCons (dVar 0) (aCons (dVar 10) aNil))) aNil))))) (sSeq (sIf (dTru (dVar 7)) (sRet (dAnd (dBin eqD (dVar 8) (dL (dLst (aCons (dC (.str "can not")) aNil)))) (dBin isD (dCall 4 m_is_why_no_lead (aCons (dVar 9) (aCons (dVar 1) (aCons (dVar 10) (aCons (dCall 2 m__law_of (aCons (dVar 0) (aCons (dVar 6) aNil))) aNil))))) (dC (.bl false))))) sNil) (sRet (dAnd (dCall 1 m__law_is_int (aCons (dVar 8) aNil)) (dAnd (dCall 2 m__law_has (aCons (dVar 9) (aCons (dVar 8) aNil))) (dAnd (dNot (dCall 3 m__law_fits (aCons (dVar 1) (aCons (dVar 8) (aCons (dVar 10) aNil))))) (dBin isD (dCall 4 m_is_why_no_lead (aCons (dVar 9) (aCons (dVar 1) (aCons (dVar 10) (aCons (dVar 8) aNil))))) (dC (.bl true)))))))))))))))))))
def m__law_right : List D → M D := bodyD 11 s__law_right

theorem sc__law_right : FnScope ["tin", "poly_so", "under_so", "own", "goal_so", "round_so", "wide_so", "fine", "told_so", "one", "two"] ["tin"] (defScope (topS 73)) := ⟨rfl, rfl, rfl, by decide +kernel, rfl, by decide +kernel, by decide +kernel⟩

theorem bi__law_right {K : PySem.W.Frag} {qual : Str} {f : Addr} {fd : FuncData} (F : Fun K "_law_right" qual (topS 73) f fd) : Binds K fd ["tin"] [] := (F.binds (ps := ["tin"]) fun _ _ _ _ _ _ us hl => match us, hl with | [_], _ => rfl)

theorem ok__law_right {P : Program} {w : World} {K : PySem.W.Frag} {mg : Mg} {base : Heap} {f : Addr} {fd : FuncData} (F : DefAt K mg "_law_right" (topS 73) f fd) (nb : Nb mg) (f__law_astray : FnK P w K mg base "_law_astray" 3 46 m__law_astray [] ["one", "poly_so", "two"]) (f__law_chosen : FnK P w K mg base "_law_chosen" 1 6 m__law_chosen [] ["many_so"]) (f__law_fits : FnK P w K mg base "_law_fits" 3 5 m__law_fits [] ["poly_so", "number_so", "two"]) (f__law_gcd : FnK P w K mg base "_law_gcd" 2 1 m__law_gcd [] ["one", "two"]) (f__law_has : FnK P w K mg base "_law_has" 2 1 m__law_has [] ["set_so", "number_so"]) (f__law_is_int : FnK P w K mg base "_law_is_int" 1 1 m__law_is_int [] ["k"]) (f__law_lists : FnK P w K mg base "_law_lists" 1 41 (m__law_lists 40) [] ["matter"]) (f__law_members : FnK P w K mg base "_law_members" 3 2 m__law_members [] ["set_so", "low_so", "high_so"]) (f__law_mixed : FnK P w K mg base "_law_mixed" 2 42 (m__law_mixed 40) [] ["tin", "matter"]) (f__law_of : FnK P w K mg base "_law_of" 2 2 m__law_of [] ["tin", "goods_so"]) (f__law_same : FnK P w K mg base "_law_same" 2 41 (m__law_same 40) [] ["got", "due"]) (f__law_some_poly : FnK P w K mg base "_law_some_poly" 4 4 m__law_some_poly [] ["tin", "degree_so", "top_so", "low_so"]) (f__law_some_set : FnK P w K mg base "_law_some_set" 2 3 m__law_some_set [] ["tin", "by_so"]) (f__law_take : FnK P w K mg base "_law_take" 2 1 m__law_take [] ["tin", "below_so"]) (f_is_why_no_lead : FnK P w K mg base "is_why_no_lead" 4 45 m_is_why_no_lead [] ["one", "poly", "other", "thing"]) (f_lead_round : FnK P w K mg base "lead_round" 3 45 m_lead_round [0] ["one", "poly", "other"]) (f_leads_into : FnK P w K mg base "leads_into" 3 45 m_leads_into [0] ["one", "poly", "other"]) : FnK P w K mg base "_law_right" 1 47 m__law_right [] ["tin"] :=
  fnk_mk F.fn F.mgf sc__law_right (bi__law_right F.fn) (fun j (hj : j ∈ ([] : List Nat)) => nomatch hj) (fun cdv A outer s H E hr tk hp => by
    have nd := sc__law_right.nd
    exact (gss_cons (gs_asg (al := [0]) (gg_tup rfl (ggs_cons (gg_name (i := 9) nd rfl (by first | exact .inl rfl | exact .inr rfl)) (ggs_cons (gg_name (i := 10) nd rfl (by first | exact .inl rfl | exact .inr rfl)) ggs_nil))) (ge_tup (ga_cons (al := [0]) (ge_call (f__law_some_set.mono (by decide)).d rfl hr tk (ga_cons (al := [0]) (ge_var (pv 0)) (ga_cons (al := []) ge_int ga_nil))) (ga_cons (al := [0]) (ge_call (f__law_some_set.mono (by decide)).d rfl hr tk (ga_cons (al := [0]) (ge_var (pv 0)) (ga_cons (al := []) ge_int ga_nil))) ga_nil)))) (gss_cons (gs_set (i := 1) (al := [0]) nd rfl (by first | exact .inl rfl | exact .inr rfl) (ge_call (f__law_of.mono (by decide)).d rfl hr tk (ga_cons (al := [0]) (ge_var (pv 0)) (ga_cons (al := [0]) (GF.ge (gf_lst (ga_cons (al := [0]) (ge_call (f__law_some_poly.mono (by decide)).d rfl hr tk (ga_cons (al := [0]) (ge_var (pv 0)) (ga_cons (al := []) ge_int (ga_cons (al := []) ge_int (ga_cons (al := []) ge_int ga_nil))))) (ga_cons (al := [0]) (ge_call (f__law_some_poly.mono (by decide)).d rfl hr tk (ga_cons (al := [0]) (ge_var (pv 0)) (ga_cons (al := []) ge_int (ga_cons (al := []) ge_int (ga_cons (al := []) ge_int ga_nil))))) (ga_cons (al := [0]) (ge_call (f__law_chosen.mono (by decide)).d rfl hr tk (ga_cons (al := []) ge_int ga_nil)) (ga_cons (al := [0]) (ge_tup (ga_cons (al := []) (ge_tup (ga_cons (al := []) ge_int (ga_cons (al := []) ge_int ga_nil))) (ga_cons (al := []) (ge_tup (ga_cons (al := []) ge_int (ga_cons (al := []) ge_int ga_nil))) (ga_cons (al := []) (ge_tup (ga_cons (al := []) ge_int (ga_cons (al := []) ge_int ga_nil))) ga_nil)))) (ga_cons (al := [0]) (ge_tup (ga_cons (al := [0]) (ge_tup (ga_cons (al := [0]) (ge_call (f__law_take.mono (by decide)).d rfl hr tk (ga_cons (al := [0]) (ge_var (pv 0)) (ga_cons (al := []) ge_int ga_nil))) (ga_cons (al := []) ge_int ga_nil))) (ga_cons (al := []) (ge_tup (ga_cons (al := []) (ge_ix (ac := []) (ge_var (pv 10)) ge_int) (ga_cons (al := []) ge_int ga_nil))) ga_nil))) ga_nil))))))) ga_nil)))) (gss_cons (gs_set (i := 2) (al := []) nd rfl (by first | exact .inl rfl | exact .inr rfl) ge_int) (gss_cons (gs_for hp rfl (gi_seq (al := [1]) (ge_var (pv 1))) (gg_name (i := 3) nd rfl (by first | exact .inl rfl | exact .inr rfl)) (gss_one (gs_set (i := 2) (al := []) nd rfl (by first | exact .inl rfl | exact .inr rfl) (ge_bin op_mulDi og_mul (ar3 := []) (ac3 := []) (ac := []) (ge_bin op_divD og_div (ar3 := []) (ac3 := []) (ac := [2]) (ge_var (pv 2)) (ge_call (f__law_gcd.mono (by decide)).d rfl hr tk (ga_cons (al := [2]) (ge_var (pv 2)) (ga_cons (al := []) (ge_ix (ac := []) (ge_var (pv 3)) ge_int) ga_nil)))) (ge_ix (ac := []) (ge_var (pv 3)) ge_int))))) (gss_cons (gs_set (i := 4) (al := []) nd rfl (by first | exact .inl rfl | exact .inr rfl) (ge_bin op_mulDi og_mul (ar3 := []) (ac3 := []) (ac := []) (ge_ix (ac := []) (ge_var (pv 10)) ge_int) (ge_var (pv 2)))) (gss_cons (gs_set (i := 5) (al := []) nd rfl (by first | exact .inl rfl | exact .inr rfl) (ge_bin op_mulDi og_mul (ar3 := []) (ac3 := []) (ac := []) (ge_bin op_divD og_div (ar3 := []) (ac3 := []) (ac := [4]) (ge_ix (ac := []) (ge_var (pv 9)) ge_int) (ge_call (f__law_gcd.mono (by decide)).d rfl hr tk (ga_cons (al := [4]) (ge_ix (ac := []) (ge_var (pv 9)) ge_int) (ga_cons (al := [4]) (ge_var (pv 4)) ga_nil)))) (ge_var (pv 4)))) (gss_cons (gs_if (gt_not (gt_val (ge_call (f__law_same.mono (by decide)).d rfl hr tk (ga_cons (al := [0, 1, 5, 9, 10]) (ge_callK0 (f_lead_round.mono (by decide)) (by decide) rfl hr tk (gkw_cons (al := [0, 1, 9, 10]) (ge_call (f__law_mixed.mono (by decide)).d rfl hr tk (ga_cons (al := [0, 9]) (ge_var (pv 0)) (ga_cons (al := [9]) (ge_var (pv 9)) ga_nil))) (gkw_cons (al := [1, 10]) (ge_var (pv 1)) (gkw_cons (al := [10]) (ge_var (pv 10)) gkw_nil)))) (ga_cons (al := [5]) (ge_var (pv 5)) ga_nil))))) (gss_one (gs_ret ge_bl)) gss_nil) (gss_cons (gs_set (i := 6) (al := [9]) nd rfl (by first | exact .inl rfl | exact .inr rfl) (GF.ge (gf_bin op_cat og_addF (ac := [9]) (ge_slice (ge_call (f__law_members.mono (by decide)).d rfl hr tk (ga_cons (al := [9]) (ge_var (pv 9)) (ga_cons (al := []) ge_int (ga_cons (al := []) (ge_bin op_mulDi og_mul (ar3 := []) (ac3 := []) (ac := []) (ge_var (pv 5)) (ge_bin op_addD og_add (ac := []) ge_int (ge_bin op_mulDi og_mul (ar3 := []) (ac3 := []) (ac := []) (geLen nb (ge_ix (ac := []) (ge_var (pv 10)) ge_int)) (geMax2 rfl nb (geLen nb (ge_var (pv 1))) ge_int)))) ga_nil)))) go_none (go_some ge_int)) (GF.ge (gfList nb (ge_ix (ac := []) (ge_var (pv 9)) ge_int)))))) (gss_cons (gs_set (i := 7) (al := []) nd rfl (by first | exact .inl rfl | exact .inr rfl) (ge_cmp (op_eqD hr.units) og_eq (nomark _) (ac := [3]) (GF.ge (gf_comp (own := [("own", 3)]) (ac3 := [3]) rfl nd (gi_seq (al := [6]) (ge_var (pv 6))) (blkOk_by (N := ["tin", "poly_so", "under_so", "own", "goal_so", "round_so", "wide_so", "fine", "told_so", "one", "two"]) (sc := defScope (topS 73)) (by decide +kernel)) (fun _ _ _ _ _ => (gg_name (i := 3) nd rfl (by first | exact .inl rfl | exact .inr rfl))) (fun _ _ _ _ _ => (gts_one (gt_not (gt_val (ge_call (f__law_fits.mono (by decide)).d rfl hr takesN (ga_cons (al := [1, 3, 10]) (ge_var (pv 1)) (ga_cons (al := [3, 10]) (ge_var (pv 3)) (ga_cons (al := [10]) (ge_var (pv 10)) ga_nil)))))))) (fun _ _ _ _ _ => (ge_var (pv 3))))) (GF.ge (gf_lst ga_nil)))) (gss_cons (gs_if (gt_not (gt_val (ge_call (f__law_same.mono (by decide)).d rfl hr tk (ga_cons (al := [1, 7, 9, 10]) (ge_callK0 (f_leads_into.mono (by decide)) (by decide) rfl hr tk (gkw_cons (al := [1, 9, 10]) (ge_var (pv 9)) (gkw_cons (al := [1, 10]) (ge_call (f__law_lists.mono (by decide)).d rfl hr tk (ga_cons (al := [1]) (ge_var (pv 1)) ga_nil)) (gkw_cons (al := [10]) (ge_var (pv 10)) gkw_nil)))) (ga_cons (al := [7]) (ge_var (pv 7)) ga_nil))))) (gss_one (gs_ret ge_bl)) gss_nil) (gss_cons (gs_set (i := 8) (al := [0, 1, 9, 10]) nd rfl (by first | exact .inl rfl | exact .inr rfl) (ge_call (f__law_astray.mono (by decide)).d rfl hr tk (ga_cons (al := [0, 1, 9, 10]) (ge_var (pv 9)) (ga_cons (al := [0, 1, 10]) (ge_var (pv 1)) (ga_cons (al := [0, 10]) (ge_call (f__law_mixed.mono (by decide)).d rfl hr tk (ga_cons (al := [0, 10]) (ge_var (pv 0)) (ga_cons (al := [10]) (ge_var (pv 10)) ga_nil))) ga_nil))))) (gss_cons (gs_if (gt_val (ge_var (pv 7))) (gss_one (gs_ret (ge_and (ar := []) (ac := []) (ge_cmp (op_eqD hr.units) og_eq (nomark _) (ac := []) (ge_var (pv 8)) (GF.ge (gf_lst (ga_cons (al := []) ge_str ga_nil)))) (ge_one (ge_cmp op_isD og_is (nomark _) (ac := [0, 1, 6, 9, 10]) (ge_call (f_is_why_no_lead.mono (by decide)).d rfl hr tk (ga_cons (al := [0, 1, 6, 9, 10]) (ge_var (pv 9)) (ga_cons (al := [0, 1, 6, 10]) (ge_var (pv 1)) (ga_cons (al := [0, 6, 10]) (ge_var (pv 10)) (ga_cons (al := [0, 6]) (ge_call (f__law_of.mono (by decide)).d rfl hr tk (ga_cons (al := [0, 6]) (ge_var (pv 0)) (ga_cons (al := [6]) (ge_var (pv 6)) ga_nil))) ga_nil))))) ge_bl))))) gss_nil) (gss_one (gs_ret (ge_and (ar := [8, 9]) (ac := [8, 9]) (ge_call (f__law_is_int.mono (by decide)).d rfl hr tk (ga_cons (al := [8]) (ge_var (pv 8)) ga_nil)) (ge_and (ar := [8, 9]) (ac := [8, 9]) (ge_call (f__law_has.mono (by decide)).d rfl hr tk (ga_cons (al := [8, 9]) (ge_var (pv 9)) (ga_cons (al := [8]) (ge_var (pv 8)) ga_nil))) (ge_and (ar := []) (ac := []) (ge_not (ge_call (f__law_fits.mono (by decide)).d rfl hr tk (ga_cons (al := [1, 8, 10]) (ge_var (pv 1)) (ga_cons (al := [8, 10]) (ge_var (pv 8)) (ga_cons (al := [10]) (ge_var (pv 10)) ga_nil))))) (ge_one (ge_cmp op_isD og_is (nomark _) (ac := [1, 8, 9, 10]) (ge_call (f_is_why_no_lead.mono (by decide)).d rfl hr tk (ga_cons (al := [1, 8, 9, 10]) (ge_var (pv 9)) (ga_cons (al := [1, 8, 10]) (ge_var (pv 1)) (ga_cons (al := [8, 10]) (ge_var (pv 10)) (ga_cons (al := [8]) (ge_var (pv 8)) ga_nil))))) ge_bl)))))))))))))))))))) rfl rfl

def s_law : SM := (sSeq (sAsg (bName 1) [0] (dCall 2 m__law_box (aCons (dCall 2 m__law_cells (aCons (dVar 0) (aCons (dC (.int 1)) aNil))) (aCons (dC (.int 0)) aNil)))) (sSeq (sAsg (bTup 2 (bCons (bName 3) (bCons (bName 4) bNil))) [] (dTup (aCons (dTup (aCons (dC (.int 1)) (aCons (dTup (aCons (dC (.int 0)) aNil)) (aCons (dTup aNil) aNil)))) (aCons (dTup (aCons (dTup (aCons (dC (.int 0)) (aCons (dC (.int 1)) aNil))) (aCons (dTup (aCons (dC (.int 0)) (aCons (dC (.int 1)) aNil))) (aCons (dTup (aCons (dC (.int 1)) (aCons (dC (.int 1)) aNil))) aNil)))) aNil)))) (sSeq (sAsg (bName 2) [3, 4] (dL (dLst (aCons (dCall 3 m_leads_into (aCons (dVar 3) (aCons (dVar 4) (aCons (dTup (aCons (dC (.int 8)) (aCons (dTup (aCons (dC (.int 0)) (aCons (dC (.int 1)) (aCons (dC (.int 4)) aNil)))) (aCons (dTup aNil) aNil)))) aNil)))) (aCons (dCall 3 m_leads_into (aCons (dVar 3) (aCons (dVar 4) (aCons (dTup (aCons (dC (.int 8)) (aCons (dTup (aCons (dC (.int 0)) (aCons (dC (.int 1)) aNil))) (aCons (dTup aNil) aNil)))) aNil)))) (aCons (dCall 3 m_leads_into (aCons (dVar 3) (aCons (dTup (aCons (dTup (aCons (dC (.int 7)) (aCons (dC (.int 1)) aNil))) aNil)) (aCons (dTup (aCons (dC (.int 1)) (aCons (dTup aNil) (aCons (dTup (aCons (dC (.int 7)) aNil)) aNil)))) aNil)))) (aCons (dCall 3 m_leads_into (aCons (dVar 3) (aCons (dTup (aCons (dTup (aCons (dC (.int 0)) (aCons (dC (.int 1)) aNil))) (aCons (dTup (aCons (dC (.int 1)) (aCons (dC (.int 1)) aNil))) aNil))) (aCons (dTup (aCons (dC (.int 2)) (aCons (dTup (aCons (dC (.int 0)) aNil)) (aCons (dTup (aCons (dC (.int 1)) (aCons (dC (.int 3)) (aCons (dC (.int 5)) aNil)))) aNil)))) aNil)))) (aCons (dCall 3 m_leads_into (aCons (dTup (aCons (dC (.int 1)) (aCons (dTup aNil) (aCons (dTup (aCons (dC (.int 1)) (aCons (dC (.int 3)) aNil))) aNil)))) (aCons (dTup (aCons (dTup (aCons (dC (.int 0)) (aCons (dC (.int 1)) aNil))) (aCons (dTup (aCons (dC (.int 1)) (aCons (dC (.int 1)) aNil))) aNil))) (aCons (dTup (aCons (dC (.int 2)) (aCons (dTup (aCons (dC (.int 0)) aNil)) (aCons (dTup (aCons (dC (.int 1)) (aCons (dC (.int 3)) (aCons (dC (.int 5)) aNil)))) aNil)))) aNil)))) aNil)))))))) (sRet (dAnd (dCall 2 (m__law_same 40) (aCons (dVar 2) (aCons (dL (dLst (aCons (dC (.bl true)) (aCons (dC (.bl false)) (aCons (dC (.bl true)) (aCons (dC (.bl false)) (aCons (dC (.bl true)) aNil))))))) aNil))) (dUn allD (dL (dComp3 [] [1] [5] (dUn rng1 (dC (.int 6))) (bName 5) tYesM (dCall 1 m__law_right (aCons (dVar 1) aNil))))))))))
def m_law : List D → M D := bodyD 6 s_law

theorem sc_law : FnScope ["script", "tin", "got", "every", "square", "lap"] ["script"] (defScope (topS 74)) := ⟨rfl, rfl, rfl, by decide +kernel, rfl, by decide +kernel, by decide +kernel⟩

theorem bi_law {K : PySem.W.Frag} {qual : Str} {f : Addr} {fd : FuncData} (F : Fun K "law" qual (topS 74) f fd) : Binds K fd ["script"] [] := (F.binds (ps := ["script"]) fun _ _ _ _ _ _ us hl => match us, hl with | [_], _ => rfl)

theorem bt_law {K : PySem.W.Frag} {f : Addr} {fd : FuncData} (F : Fun K "law" "law" (topS 74) f fd) (s : Shared) (u : Value) : BindsTo s fd ⟨[u], []⟩ [("script", u)] := by
  obtain ⟨oc, od, kV, doc, pm, an, cdv, ct, osl, rfl, lk, hcd⟩ := F.ex
  exact .of_eq rfl

theorem ok_law {P : Program} {w : World} {K : PySem.W.Frag} {mg : Mg} {base : Heap} {f : Addr} {fd : FuncData} (F : DefAt K mg "law" (topS 74) f fd) (nb : Nb mg) (f__law_box : FnK P w K mg base "_law_box" 2 1 m__law_box [] ["script", "k"]) (f__law_cells : FnK P w K mg base "_law_cells" 2 1 m__law_cells [] ["script", "most_so"]) (f__law_right : FnK P w K mg base "_law_right" 1 47 m__law_right [] ["tin"]) (f__law_same : FnK P w K mg base "_law_same" 2 41 (m__law_same 40) [] ["got", "due"]) (f_leads_into : FnK P w K mg base "leads_into" 3 45 m_leads_into [0] ["one", "poly", "other"]) : FnOk P w K mg base (L2.CX P w) 48 f fd ["script"] (spD K mg 1 m_law) :=
  fok_mk F.fn sc_law (fun cdv A outer s H E hr tk hp => by
    have nd := sc_law.nd
    exact (gss_cons (gs_set (i := 1) (al := [0]) nd rfl (by first | exact .inl rfl | exact .inr rfl) (ge_call (f__law_box.mono (by decide)).d rfl hr tk (ga_cons (al := [0]) (ge_call (f__law_cells.mono (by decide)).d rfl hr tk (ga_cons (al := [0]) (ge_var (pv 0)) (ga_cons (al := []) ge_int ga_nil))) (ga_cons (al := []) ge_int ga_nil)))) (gss_cons (gs_asg (al := []) (gg_tup rfl (ggs_cons (gg_name (i := 3) nd rfl (by first | exact .inl rfl | exact .inr rfl)) (ggs_cons (gg_name (i := 4) nd rfl (by first | exact .inl rfl | exact .inr rfl)) ggs_nil))) (ge_tup (ga_cons (al := []) (ge_tup (ga_cons (al := []) ge_int (ga_cons (al := []) (ge_tup (ga_cons (al := []) ge_int ga_nil)) (ga_cons (al := []) (ge_tup ga_nil) ga_nil)))) (ga_cons (al := []) (ge_tup (ga_cons (al := []) (ge_tup (ga_cons (al := []) ge_int (ga_cons (al := []) ge_int ga_nil))) (ga_cons (al := []) (ge_tup (ga_cons (al := []) ge_int (ga_cons (al := []) ge_int ga_nil))) (ga_cons (al := []) (ge_tup (ga_cons (al := []) ge_int (ga_cons (al := []) ge_int ga_nil))) ga_nil)))) ga_nil)))) (gss_cons (gs_set (i := 2) (al := [3, 4]) nd rfl (by first | exact .inl rfl | exact .inr rfl) (GF.ge (gf_lst (ga_cons (al := [3, 4]) (ge_call (f_leads_into.mono (by decide)).d rfl hr tk (ga_cons (al := [3, 4]) (ge_var (pv 3)) (ga_cons (al := [4]) (ge_var (pv 4)) (ga_cons (al := []) (ge_tup (ga_cons (al := []) ge_int (ga_cons (al := []) (ge_tup (ga_cons (al := []) ge_int (ga_cons (al := []) ge_int (ga_cons (al := []) ge_int ga_nil)))) (ga_cons (al := []) (ge_tup ga_nil) ga_nil)))) ga_nil)))) (ga_cons (al := [3, 4]) (ge_call (f_leads_into.mono (by decide)).d rfl hr tk (ga_cons (al := [3, 4]) (ge_var (pv 3)) (ga_cons (al := [4]) (ge_var (pv 4)) (ga_cons (al := []) (ge_tup (ga_cons (al := []) ge_int (ga_cons (al := []) (ge_tup (ga_cons (al := []) ge_int (ga_cons (al := []) ge_int ga_nil))) (ga_cons (al := []) (ge_tup ga_nil) ga_nil)))) ga_nil)))) (ga_cons (al := [3]) (ge_call (f_leads_into.mono (by decide)).d rfl hr tk (ga_cons (al := [3]) (ge_var (pv 3)) (ga_cons (al := []) (ge_tup (ga_cons (al := []) (ge_tup (ga_cons (al := []) ge_int (ga_cons (al := []) ge_int ga_nil))) ga_nil)) (ga_cons (al := []) (ge_tup (ga_cons (al := []) ge_int (ga_cons (al := []) (ge_tup ga_nil) (ga_cons (al := []) (ge_tup (ga_cons (al := []) ge_int ga_nil)) ga_nil)))) ga_nil)))) (ga_cons (al := [3]) (ge_call (f_leads_into.mono (by decide)).d rfl hr tk (ga_cons (al := [3]) (ge_var (pv 3)) (ga_cons (al := []) (ge_tup (ga_cons (al := []) (ge_tup (ga_cons (al := []) ge_int (ga_cons (al := []) ge_int ga_nil))) (ga_cons (al := []) (ge_tup (ga_cons (al := []) ge_int (ga_cons (al := []) ge_int ga_nil))) ga_nil))) (ga_cons (al := []) (ge_tup (ga_cons (al := []) ge_int (ga_cons (al := []) (ge_tup (ga_cons (al := []) ge_int ga_nil)) (ga_cons (al := []) (ge_tup (ga_cons (al := []) ge_int (ga_cons (al := []) ge_int (ga_cons (al := []) ge_int ga_nil)))) ga_nil)))) ga_nil)))) (ga_cons (al := []) (ge_call (f_leads_into.mono (by decide)).d rfl hr tk (ga_cons (al := []) (ge_tup (ga_cons (al := []) ge_int (ga_cons (al := []) (ge_tup ga_nil) (ga_cons (al := []) (ge_tup (ga_cons (al := []) ge_int (ga_cons (al := []) ge_int ga_nil))) ga_nil)))) (ga_cons (al := []) (ge_tup (ga_cons (al := []) (ge_tup (ga_cons (al := []) ge_int (ga_cons (al := []) ge_int ga_nil))) (ga_cons (al := []) (ge_tup (ga_cons (al := []) ge_int (ga_cons (al := []) ge_int ga_nil))) ga_nil))) (ga_cons (al := []) (ge_tup (ga_cons (al := []) ge_int (ga_cons (al := []) (ge_tup (ga_cons (al := []) ge_int ga_nil)) (ga_cons (al := []) (ge_tup (ga_cons (al := []) ge_int (ga_cons (al := []) ge_int (ga_cons (al := []) ge_int ga_nil)))) ga_nil)))) ga_nil)))) ga_nil)))))))) (gss_one (gs_ret (ge_and (ar := [2]) (ac := [2]) (ge_call (f__law_same.mono (by decide)).d rfl hr tk (ga_cons (al := [2]) (ge_var (pv 2)) (ga_cons (al := []) (GF.ge (gf_lst (ga_cons (al := []) ge_bl (ga_cons (al := []) ge_bl (ga_cons (al := []) ge_bl (ga_cons (al := []) ge_bl (ga_cons (al := []) ge_bl ga_nil))))))) ga_nil))) (ge_one (geAll rfl nb (GF.ge (gf_comp (own := [("lap", 5)]) (ac3 := [1]) rfl nd (gi_range1 nb.range ge_int) (blkOk_by (N := ["script", "tin", "got", "every", "square", "lap"]) (sc := defScope (topS 74)) (by decide +kernel)) (fun _ _ _ _ _ => (gg_name (i := 5) nd rfl (by first | exact .inl rfl | exact .inr rfl))) (fun _ _ _ _ _ => gts_nil) (fun _ _ _ _ _ => (ge_call (f__law_right.mono (by decide)).d rfl hr takesN (ga_cons (al := [1]) (ge_var (pv 1)) ga_nil)))))))))))))) rfl rfl

--TOP
theorem all_mk {l : PySem.W.OpenLaw} {w : World} {K : PySem.W.Frag} {h : Heap} {mg : Mg} {fa : Addr} (X : K.In h) (G : h.Ns mainGlobals mg) (hfa : mg "law" = some (.ref fa)) (nb : Nb mg)
    (c_MOST_BY : Cst K mg "MOST_BY" k_MOST_BY)
    (c_MOST_MADE : Cst K mg "MOST_MADE" k_MOST_MADE)
    (c_MOST_MORE : Cst K mg "MOST_MORE" k_MOST_MORE)
    (c_MOST_MEMBER : Cst K mg "MOST_MEMBER" k_MOST_MEMBER)
    (c_MOST_DEGREE : Cst K mg "MOST_DEGREE" k_MOST_DEGREE)
    (c_MOST_ENTRY : Cst K mg "MOST_ENTRY" k_MOST_ENTRY)
    (c_NOUGHT : Cst K mg "NOUGHT" k_NOUGHT)
    (c_MOST_BASE : Cst K mg "MOST_BASE" k_MOST_BASE)
    (c_MOST_STEPS : Cst K mg "MOST_STEPS" k_MOST_STEPS)
    (e_CanNot : ExcN K mg "CanNot")
    (e_TooMany : ExcN K mg "TooMany")
    (e_Unfit : ExcN K mg "Unfit")
    (nVE : mg "ValueError" = none) (fU : ∀ c ∈ Us, ExcT K mg c) (fUE : ∀ c ∈ Us, ∀ c' ∈ Us, ExcE K mg c c')
    (d_is_number : ∃ f fd, DefAt K mg "is_number" (topS 5) f fd)
    (d_is_long : ∃ f fd, DefAt K mg "is_long" (topS 6) f fd)
    (d_are_numbers : ∃ f fd, DefAt K mg "are_numbers" (topS 7) f fd)
    (d_ascends : ∃ f fd, DefAt K mg "ascends" (topS 8) f fd)
    (d_tupled : ∃ f fd, DefAt K mg "tupled" (topS 9) f fd)
    (d_common_of : ∃ f fd, DefAt K mg "common_of" (topS 10) f fd)
    (d_least_of : ∃ f fd, DefAt K mg "least_of" (topS 11) f fd)
    (d_slim : ∃ f fd, DefAt K mg "slim" (topS 12) f fd)
    (d_is_fraction : ∃ f fd, DefAt K mg "is_fraction" (topS 13) f fd)
    (d_told_set : ∃ f fd, DefAt K mg "told_set" (topS 19) f fd)
    (d_is_told : ∃ f fd, DefAt K mg "is_told" (topS 20) f fd)
    (d_is_set : ∃ f fd, DefAt K mg "is_set" (topS 21) f fd)
    (d_sure_set : ∃ f fd, DefAt K mg "sure_set" (topS 22) f fd)
    (d_has_member : ∃ f fd, DefAt K mg "has_member" (topS 23) f fd)
    (d_is_poly : ∃ f fd, DefAt K mg "is_poly" (topS 28) f fd)
    (d_sure_poly : ∃ f fd, DefAt K mg "sure_poly" (topS 29) f fd)
    (d_whole_row : ∃ f fd, DefAt K mg "whole_row" (topS 30) f fd)
    (d_value_in : ∃ f fd, DefAt K mg "value_in" (topS 31) f fd)
    (d_sure_low : ∃ f fd, DefAt K mg "sure_low" (topS 34) f fd)
    (d_round_in : ∃ f fd, DefAt K mg "round_in" (topS 37) f fd)
    (d_is_led_at : ∃ f fd, DefAt K mg "is_led_at" (topS 38) f fd)
    (d_out_in : ∃ f fd, DefAt K mg "out_in" (topS 39) f fd)
    (d_sure_lead : ∃ f fd, DefAt K mg "sure_lead" (topS 40) f fd)
    (d_leads_into : ∃ f fd, DefAt K mg "leads_into" (topS 41) f fd)
    (d_why_no_lead : ∃ f fd, DefAt K mg "why_no_lead" (topS 42) f fd)
    (d_is_why_no_lead : ∃ f fd, DefAt K mg "is_why_no_lead" (topS 43) f fd)
    (d_lead_round : ∃ f fd, DefAt K mg "lead_round" (topS 44) f fd)
    (d__law_box : ∃ f fd, DefAt K mg "_law_box" (topS 46) f fd)
    (d__law_take : ∃ f fd, DefAt K mg "_law_take" (topS 47) f fd)
    (d__law_cells : ∃ f fd, DefAt K mg "_law_cells" (topS 48) f fd)
    (d__law_of : ∃ f fd, DefAt K mg "_law_of" (topS 49) f fd)
    (d__law_pick : ∃ f fd, DefAt K mg "_law_pick" (topS 50) f fd)
    (d__law_lists : ∃ f fd, DefAt K mg "_law_lists" (topS 51) f fd)
    (d__law_mixed : ∃ f fd, DefAt K mg "_law_mixed" (topS 52) f fd)
    (d__law_same : ∃ f fd, DefAt K mg "_law_same" (topS 53) f fd)
    (d__law_is_int : ∃ f fd, DefAt K mg "_law_is_int" (topS 54) f fd)
    (d__law_gcd : ∃ f fd, DefAt K mg "_law_gcd" (topS 55) f fd)
    (d__law_slim : ∃ f fd, DefAt K mg "_law_slim" (topS 56) f fd)
    (d__law_plus : ∃ f fd, DefAt K mg "_law_plus" (topS 57) f fd)
    (d__law_times : ∃ f fd, DefAt K mg "_law_times" (topS 58) f fd)
    (d__law_thin : ∃ f fd, DefAt K mg "_law_thin" (topS 59) f fd)
    (d__law_scale : ∃ f fd, DefAt K mg "_law_scale" (topS 60) f fd)
    (d__law_mul : ∃ f fd, DefAt K mg "_law_mul" (topS 61) f fd)
    (d__law_value : ∃ f fd, DefAt K mg "_law_value" (topS 62) f fd)
    (d__law_roots : ∃ f fd, DefAt K mg "_law_roots" (topS 63) f fd)
    (d__law_chosen : ∃ f fd, DefAt K mg "_law_chosen" (topS 64) f fd)
    (d__law_some_fraction : ∃ f fd, DefAt K mg "_law_some_fraction" (topS 65) f fd)
    (d__law_some_poly : ∃ f fd, DefAt K mg "_law_some_poly" (topS 66) f fd)
    (d__law_told : ∃ f fd, DefAt K mg "_law_told" (topS 67) f fd)
    (d__law_has : ∃ f fd, DefAt K mg "_law_has" (topS 68) f fd)
    (d__law_some_set : ∃ f fd, DefAt K mg "_law_some_set" (topS 69) f fd)
    (d__law_members : ∃ f fd, DefAt K mg "_law_members" (topS 70) f fd)
    (d__law_astray : ∃ f fd, DefAt K mg "_law_astray" (topS 71) f fd)
    (d__law_fits : ∃ f fd, DefAt K mg "_law_fits" (topS 72) f fd)
    (d__law_right : ∃ f fd, DefAt K mg "_law_right" (topS 73) f fd)
    (d_law : ∃ f fd, DefAt K mg "law" (topS 74) f fd)
    (law : ∀ ns : List Int, ns.length ≤ 63 → ∃ w', m_law [.scr ns] [] = .ok (.bl true) w') :
    ∃ fd : FuncData, (∀ (s : Shared) (u : Value), BindsTo s fd ⟨[u], []⟩ [("script", u)]) ∧ ∀ base : Heap, K.In base → base.Ns mainGlobals mg → FnOk l.prog w K mg base (L2.CX l.prog w) 48 fa fd ["script"] (spS K) := by
  obtain ⟨a_is_number, fd_is_number, d_is_number⟩ := d_is_number
  obtain ⟨a_is_long, fd_is_long, d_is_long⟩ := d_is_long
  obtain ⟨a_are_numbers, fd_are_numbers, d_are_numbers⟩ := d_are_numbers
  obtain ⟨a_ascends, fd_ascends, d_ascends⟩ := d_ascends
  obtain ⟨a_tupled, fd_tupled, d_tupled⟩ := d_tupled
  obtain ⟨a_common_of, fd_common_of, d_common_of⟩ := d_common_of
  obtain ⟨a_least_of, fd_least_of, d_least_of⟩ := d_least_of
  obtain ⟨a_slim, fd_slim, d_slim⟩ := d_slim
  obtain ⟨a_is_fraction, fd_is_fraction, d_is_fraction⟩ := d_is_fraction
  obtain ⟨a_told_set, fd_told_set, d_told_set⟩ := d_told_set
  obtain ⟨a_is_told, fd_is_told, d_is_told⟩ := d_is_told
  obtain ⟨a_is_set, fd_is_set, d_is_set⟩ := d_is_set
  obtain ⟨a_sure_set, fd_sure_set, d_sure_set⟩ := d_sure_set
  obtain ⟨a_has_member, fd_has_member, d_has_member⟩ := d_has_member
  obtain ⟨a_is_poly, fd_is_poly, d_is_poly⟩ := d_is_poly
  obtain ⟨a_sure_poly, fd_sure_poly, d_sure_poly⟩ := d_sure_poly
  obtain ⟨a_whole_row, fd_whole_row, d_whole_row⟩ := d_whole_row
  obtain ⟨a_value_in, fd_value_in, d_value_in⟩ := d_value_in
  obtain ⟨a_sure_low, fd_sure_low, d_sure_low⟩ := d_sure_low
  obtain ⟨a_round_in, fd_round_in, d_round_in⟩ := d_round_in
  obtain ⟨a_is_led_at, fd_is_led_at, d_is_led_at⟩ := d_is_led_at
  obtain ⟨a_out_in, fd_out_in, d_out_in⟩ := d_out_in
  obtain ⟨a_sure_lead, fd_sure_lead, d_sure_lead⟩ := d_sure_lead
  obtain ⟨a_leads_into, fd_leads_into, d_leads_into⟩ := d_leads_into
  obtain ⟨a_why_no_lead, fd_why_no_lead, d_why_no_lead⟩ := d_why_no_lead
  obtain ⟨a_is_why_no_lead, fd_is_why_no_lead, d_is_why_no_lead⟩ := d_is_why_no_lead
  obtain ⟨a_lead_round, fd_lead_round, d_lead_round⟩ := d_lead_round
  obtain ⟨a__law_box, fd__law_box, d__law_box⟩ := d__law_box
  obtain ⟨a__law_take, fd__law_take, d__law_take⟩ := d__law_take
  obtain ⟨a__law_cells, fd__law_cells, d__law_cells⟩ := d__law_cells
  obtain ⟨a__law_of, fd__law_of, d__law_of⟩ := d__law_of
  obtain ⟨a__law_pick, fd__law_pick, d__law_pick⟩ := d__law_pick
  obtain ⟨a__law_lists, fd__law_lists, d__law_lists⟩ := d__law_lists
  obtain ⟨a__law_mixed, fd__law_mixed, d__law_mixed⟩ := d__law_mixed
  obtain ⟨a__law_same, fd__law_same, d__law_same⟩ := d__law_same
  obtain ⟨a__law_is_int, fd__law_is_int, d__law_is_int⟩ := d__law_is_int
  obtain ⟨a__law_gcd, fd__law_gcd, d__law_gcd⟩ := d__law_gcd
  obtain ⟨a__law_slim, fd__law_slim, d__law_slim⟩ := d__law_slim
  obtain ⟨a__law_plus, fd__law_plus, d__law_plus⟩ := d__law_plus
  obtain ⟨a__law_times, fd__law_times, d__law_times⟩ := d__law_times
  obtain ⟨a__law_thin, fd__law_thin, d__law_thin⟩ := d__law_thin
  obtain ⟨a__law_scale, fd__law_scale, d__law_scale⟩ := d__law_scale
  obtain ⟨a__law_mul, fd__law_mul, d__law_mul⟩ := d__law_mul
  obtain ⟨a__law_value, fd__law_value, d__law_value⟩ := d__law_value
  obtain ⟨a__law_roots, fd__law_roots, d__law_roots⟩ := d__law_roots
  obtain ⟨a__law_chosen, fd__law_chosen, d__law_chosen⟩ := d__law_chosen
  obtain ⟨a__law_some_fraction, fd__law_some_fraction, d__law_some_fraction⟩ := d__law_some_fraction
  obtain ⟨a__law_some_poly, fd__law_some_poly, d__law_some_poly⟩ := d__law_some_poly
  obtain ⟨a__law_told, fd__law_told, d__law_told⟩ := d__law_told
  obtain ⟨a__law_has, fd__law_has, d__law_has⟩ := d__law_has
  obtain ⟨a__law_some_set, fd__law_some_set, d__law_some_set⟩ := d__law_some_set
  obtain ⟨a__law_members, fd__law_members, d__law_members⟩ := d__law_members
  obtain ⟨a__law_astray, fd__law_astray, d__law_astray⟩ := d__law_astray
  obtain ⟨a__law_fits, fd__law_fits, d__law_fits⟩ := d__law_fits
  obtain ⟨a__law_right, fd__law_right, d__law_right⟩ := d__law_right
  obtain ⟨a_law, fd_law, d_law⟩ := d_law
  have e : a_law = fa := by
    have z := d_law.mgf.symm.trans hfa
    cases z; rfl
  subst e
  refine ⟨fd_law, bt_law d_law.fn, fun base _ _ => ?_⟩
  have f_is_number := ok_is_number (P := l.prog) (w := w) (base := base) d_is_number nb 
  have f_is_long := ok_is_long (P := l.prog) (w := w) (base := base) d_is_long nb 
  have f_are_numbers := ok_are_numbers (P := l.prog) (w := w) (base := base) d_are_numbers nb f_is_number
  have f_ascends := ok_ascends (P := l.prog) (w := w) (base := base) d_ascends nb 
  have f_tupled := ok_tupled (P := l.prog) (w := w) (base := base) d_tupled nb  40
  have f_common_of := ok_common_of (P := l.prog) (w := w) (base := base) d_common_of nb 
  have f_least_of := ok_least_of (P := l.prog) (w := w) (base := base) d_least_of nb f_common_of
  have f_slim := ok_slim (P := l.prog) (w := w) (base := base) d_slim nb f_common_of
  have f_is_fraction := ok_is_fraction (P := l.prog) (w := w) (base := base) d_is_fraction nb f_are_numbers f_common_of f_is_long
  have f_told_set := ok_told_set (P := l.prog) (w := w) (base := base) d_told_set nb 
  have f_is_told := ok_is_told (P := l.prog) (w := w) (base := base) d_is_told nb f_are_numbers f_is_long
  have f_is_set := ok_is_set (P := l.prog) (w := w) (base := base) d_is_set nb c_MOST_MADE f_ascends f_is_told f_told_set
  have f_sure_set := ok_sure_set (P := l.prog) (w := w) (base := base) d_sure_set nb c_MOST_BY c_MOST_MEMBER c_MOST_MORE e_Unfit f_is_set f_tupled
  have f_has_member := ok_has_member (P := l.prog) (w := w) (base := base) d_has_member nb 
  have f_is_poly := ok_is_poly (P := l.prog) (w := w) (base := base) d_is_poly nb c_NOUGHT f_is_fraction
  have f_sure_poly := ok_sure_poly (P := l.prog) (w := w) (base := base) d_sure_poly nb c_MOST_DEGREE c_MOST_ENTRY e_Unfit f_is_poly f_tupled
  have f_whole_row := ok_whole_row (P := l.prog) (w := w) (base := base) d_whole_row nb f_least_of
  have f_value_in := ok_value_in (P := l.prog) (w := w) (base := base) d_value_in nb f_slim f_whole_row
  have f_sure_low := ok_sure_low (P := l.prog) (w := w) (base := base) d_sure_low nb c_MOST_BASE e_Unfit f_sure_poly
  have f_round_in := ok_round_in (P := l.prog) (w := w) (base := base) d_round_in nb c_MOST_STEPS e_TooMany f_least_of f_whole_row
  have f_is_led_at := ok_is_led_at (P := l.prog) (w := w) (base := base) d_is_led_at nb f_has_member f_value_in
  have f_out_in := ok_out_in (P := l.prog) (w := w) (base := base) d_out_in nb f_is_led_at f_round_in f_value_in
  have f_sure_lead := ok_sure_lead (P := l.prog) (w := w) (base := base) d_sure_lead nb f_sure_low f_sure_set
  have f_leads_into := ok_leads_into (P := l.prog) (w := w) (base := base) d_leads_into nb f_out_in f_sure_lead
  have f_why_no_lead := ok_why_no_lead (P := l.prog) (w := w) (base := base) d_why_no_lead nb e_CanNot f_out_in f_sure_lead
  have f_is_why_no_lead := ok_is_why_no_lead (P := l.prog) (w := w) (base := base) d_is_why_no_lead nb f_has_member f_is_led_at f_is_number f_sure_lead
  have f_lead_round := ok_lead_round (P := l.prog) (w := w) (base := base) d_lead_round nb f_round_in f_sure_lead
  have f__law_box := ok__law_box (P := l.prog) (w := w) (base := base) d__law_box nb 
  have f__law_take := ok__law_take (P := l.prog) (w := w) (base := base) d__law_take nb 
  have f__law_cells := ok__law_cells (P := l.prog) (w := w) (base := base) d__law_cells nb 
  have f__law_of := ok__law_of (P := l.prog) (w := w) (base := base) d__law_of nb f__law_take
  have f__law_pick := ok__law_pick (P := l.prog) (w := w) (base := base) d__law_pick nb f__law_take
  have f__law_lists := ok__law_lists (P := l.prog) (w := w) (base := base) d__law_lists nb  40
  have f__law_mixed := ok__law_mixed (P := l.prog) (w := w) (base := base) d__law_mixed nb f__law_take 40
  have f__law_same := ok__law_same (P := l.prog) (w := w) (base := base) d__law_same nb  40
  have f__law_is_int := ok__law_is_int (P := l.prog) (w := w) (base := base) d__law_is_int nb 
  have f__law_gcd := ok__law_gcd (P := l.prog) (w := w) (base := base) d__law_gcd nb 
  have f__law_slim := ok__law_slim (P := l.prog) (w := w) (base := base) d__law_slim nb f__law_gcd
  have f__law_plus := ok__law_plus (P := l.prog) (w := w) (base := base) d__law_plus nb f__law_slim
  have f__law_times := ok__law_times (P := l.prog) (w := w) (base := base) d__law_times nb f__law_slim
  have f__law_thin := ok__law_thin (P := l.prog) (w := w) (base := base) d__law_thin nb 
  have f__law_scale := ok__law_scale (P := l.prog) (w := w) (base := base) d__law_scale nb f__law_thin f__law_times
  have f__law_mul := ok__law_mul (P := l.prog) (w := w) (base := base) d__law_mul nb f__law_plus f__law_thin f__law_times
  have f__law_value := ok__law_value (P := l.prog) (w := w) (base := base) d__law_value nb f__law_plus f__law_times
  have f__law_roots := ok__law_roots (P := l.prog) (w := w) (base := base) d__law_roots nb f__law_mul
  have f__law_chosen := ok__law_chosen (P := l.prog) (w := w) (base := base) d__law_chosen nb f__law_roots f__law_scale
  have f__law_some_fraction := ok__law_some_fraction (P := l.prog) (w := w) (base := base) d__law_some_fraction nb f__law_slim f__law_take
  have f__law_some_poly := ok__law_some_poly (P := l.prog) (w := w) (base := base) d__law_some_poly nb f__law_some_fraction f__law_take f__law_thin
  have f__law_told := ok__law_told (P := l.prog) (w := w) (base := base) d__law_told nb 
  have f__law_has := ok__law_has (P := l.prog) (w := w) (base := base) d__law_has nb 
  have f__law_some_set := ok__law_some_set (P := l.prog) (w := w) (base := base) d__law_some_set nb f__law_pick f__law_take f__law_told
  have f__law_members := ok__law_members (P := l.prog) (w := w) (base := base) d__law_members nb f__law_has
  have f__law_astray := ok__law_astray (P := l.prog) (w := w) (base := base) d__law_astray nb f_why_no_lead nVE fU fUE
  have f__law_fits := ok__law_fits (P := l.prog) (w := w) (base := base) d__law_fits nb f__law_has f__law_value
  have f__law_right := ok__law_right (P := l.prog) (w := w) (base := base) d__law_right nb f__law_astray f__law_chosen f__law_fits f__law_gcd f__law_has f__law_is_int f__law_lists f__law_members f__law_mixed f__law_of f__law_same f__law_some_poly f__law_some_set f__law_take f_is_why_no_lead f_lead_round f_leads_into
  exact law_ok (ok_law d_law nb f__law_box f__law_cells f__law_right f__law_same f_leads_into) law

end K18


namespace K18
open PySem DL
/-! greatest common divisors -/
def comK : EM Bool := (dB (dBin neD (dVar 1) (dC (.int 0))))
def comT : SM := (sPar [0, 1] [1] (kVal (dVar 1) (kVal (dBin modD (dVar 0) (dVar 1)) kNil)))
theorem com_while {w : W} : ∀ (n : Nat) (a b : Int), b.natAbs < n → ∃ c : Int, whileM comK comT n [.fz (.int a), .fz (.int b)] w = .nx [.fz (.int c), .fz (.int 0)] w ∧ c.natAbs = Int.gcd a b
  | 0, _, _, h => absurd h (by omega)
  | n + 1, a, b, h => by
    by_cases hb : b = 0
    · subst hb
      have e : comK [.fz (.int a), .fz (.int 0)] w = .ok false w := by
        unfold comK; simp
      refine ⟨a, ?_, by simp⟩
      unfold whileM
      rw [e]; rfl
    · have e : comK [.fz (.int a), .fz (.int b)] w = .ok true w := by
        unfold comK; simp [hb]
      have e2 : comT [.fz (.int a), .fz (.int b)] w = .nx [.fz (.int b), .fz (.int (a.fmod b))] w := by
        unfold comT; simp [e_mod hb]
      have l := fmod_natAbs_lt (a := a) hb
      obtain ⟨c, h1, h2⟩ := com_while (w := w) n b (a.fmod b) (by omega)
      refine ⟨c, ?_, by rw [h2, gcd_fmod]⟩
      conv => lhs; unfold whileM
      rw [e]
      simp only [obind_ok, if_true, e2, h1]
theorem common_ok {a b : Int} {w : W} (h : b.natAbs < 2 ^ 63) : m_common_of [.int a, .int b] w = .ok (.int (Int.gcd a b)) w := by
  obtain ⟨c, h1, h2⟩ := com_while (w := w) 18446744073709551616 a b (by omega)
  show endO (seqO (sWhile 18446744073709551616 comK comT [.fz (.int a), .fz (.int b)] w) (sRet (dUn absD (dVar 0)))) = _
  have g : dVar 0 [.fz (.int c), .fz (.int 0)] w = .ok (.int c) w := rfl
  rw [e_sWhile, h1, e_sqn, e_sRet, e_dUn, g, bind_ok, e_abs, obind_ok, e_endr, ← h2]
  congr 2
  split <;> omega
def lgT : SM := (sSeq (sIf (dB (dBin eqD (dVar 1) (dC (.int 0)))) sBreak sNil) (sPar [0, 1] [1] (kVal (dVar 1) (kVal (dBin modD (dVar 0) (dVar 1)) kNil))))
theorem lg0 {a : Int} {s : Slot} {w : W} : lgT [.fz (.int a), .fz (.int 0), s] w = .bk [.fz (.int a), .fz (.int 0), s] w := by
  unfold lgT; simp
theorem lg1 {a b : Int} {s : Slot} {w : W} (h : 0 < b) : lgT [.fz (.int a), .fz (.int b), s] w = .nx [.fz (.int b), .fz (.int (a % b)), s] w := by
  have : ¬ b = 0 := by omega
  unfold lgT; simp [this, e_modp h]
theorem lg_for {w : W} : ∀ (k : Nat) (ds : List D) (a b : Int) (s : Slot), 2 * k + 1 ≤ ds.length → 0 ≤ a → 0 ≤ b → b < 2 ^ k → ∃ s', DL.forM (bName 2) lgT ds [.fz (.int a), .fz (.int b), s] w = .nx [.fz (.int (Int.gcd a b)), .fz (.int 0), s'] w
  | 0, ds, a, b, s, hl, ha, hb, hk => by
    obtain rfl : b = 0 := by omega
    cases ds with
    | nil => simp at hl
    | cons d ds =>
      refine ⟨.fz d, ?_⟩
      rw [for_bk (env1 := [.fz (.int a), .fz (.int 0), .fz d]) rfl lg0]
      simp [Int.natAbs_of_nonneg ha]
  | k + 1, ds, a, b, s, hl, ha, hb, hk => by
    match ds, hl with
    | [], hl => simp at hl
    | [d], hl => simp at hl
    | d :: d2 :: ds, hl =>
      by_cases h0 : b = 0
      · subst h0
        refine ⟨.fz d, ?_⟩
        rw [for_bk (env1 := [.fz (.int a), .fz (.int 0), .fz d]) rfl lg0]
        simp [Int.natAbs_of_nonneg ha]
      · have hb0 : 0 < b := by omega
        rw [for_nx (env1 := [.fz (.int a), .fz (.int b), .fz d]) rfl (lg1 hb0)]
        have r0 := Int.emod_nonneg a h0
        have r1 := Int.emod_lt_of_pos a hb0
        show ∃ s', DL.forM (bName 2) lgT (d2 :: ds) [.fz (.int b), .fz (.int (a % b)), .fz d] w = _
        by_cases h2 : a % b = 0
        · refine ⟨.fz d2, ?_⟩
          rw [h2, for_bk (env1 := [.fz (.int b), .fz (.int 0), .fz d2]) rfl lg0]
          have : Int.gcd a b = b := by
            rw [← gcd_emod, h2]; simp [Int.natAbs_of_nonneg hb]
          rw [this]
        · have hr : 0 < a % b := by omega
          rw [for_nx (env1 := [.fz (.int b), .fz (.int (a % b)), .fz d2]) rfl (lg1 hr)]
          have r2 := Int.emod_nonneg b h2
          have r3 := half_lt hr r1
          have hk2 : (2 : Int) ^ (k + 1) = 2 * 2 ^ k := by rw [Int.pow_succ]; omega
          obtain ⟨s', e⟩ := lg_for (w := w) k ds (a % b) (b % (a % b)) (.fz d2) (by simp at hl; omega) r0 r2 (by omega)
          refine ⟨s', ?_⟩
          show DL.forM (bName 2) lgT ds [.fz (.int (a % b)), .fz (.int (b % (a % b))), .fz d2] w = _
          rw [e, gcd_emod, gcd_emod]
theorem lgcd_ok {a b : Int} {w : W} (h : b.natAbs < 2 ^ 4000) : m__law_gcd [.int a, .int b] w = .ok (.int (Int.gcd a b)) w := by
  have r : (dUn rng1 (dC (.int 9000))) [.fz (.int a.natAbs), .fz (.int b.natAbs), .un] w = .ok (rngL 0 1 9000) w := by
    have := DL.e_rng1 (j := 9000) (w := w) (by omega) (by omega)
    rw [e_dUn, e_dC, bind_ok, this]; rfl
  have hb : ((b.natAbs : Int)) < 2 ^ 4000 := by
    have : ((b.natAbs : Nat) : Int) < ((2 ^ 4000 : Nat) : Int) := Int.ofNat_lt.mpr h
    rw [Int.natCast_pow] at this
    exact this
  have hb : ((b.natAbs : Int)) < 2 ^ 4000 := hb
  obtain ⟨s', e⟩ := lg_for (w := w) 4000 (rngL 0 1 9000) a.natAbs b.natAbs .un (by rw [len_rng]; omega) (by omega) (by omega) hb
  have e0 : (sPar [0, 1] [] (kVal (dUn absD (dVar 0)) (kVal (dUn absD (dVar 1)) kNil))) [.fz (.int a), .fz (.int b), .un] w = .nx [.fz (.int a.natAbs), .fz (.int b.natAbs), .un] w := by
    have e1 : ∀ i : Int, (if i < 0 then -i else i) = (i.natAbs : Int) := fun i => by split <;> omega
    simp [e1]
  show endO (seqO ((sPar [0, 1] [] (kVal (dUn absD (dVar 0)) (kVal (dUn absD (dVar 1)) kNil))) [.fz (.int a), .fz (.int b), .un] w) (sSeq (sFor [] (dUn rng1 (dC (.int 9000))) (bName 2) lgT) (sRet (dVar 0)))) = _
  rw [e0, e_sqn, e_sSeq, e_sFor, r, obind_ok, e_frzs0, e, e_sqn]
  show Res.ok (D.int (Int.gcd a.natAbs b.natAbs)) w = _
  congr 2
end K18
namespace K18
open PySem DL
/-! fractions, own and the law's -/
theorem gcd_pos {n : Int} {d : Nat} (h : d ≠ 0) : 0 < Int.gcd n d := by
  have : 0 < Nat.gcd n.natAbs d := Nat.gcd_pos_of_pos_right _ (Nat.pos_of_ne_zero h)
  exact this
theorem gcd_le {n : Int} {d : Nat} (h : d ≠ 0) : Int.gcd n d ≤ d := by
  have : Nat.gcd n.natAbs d ≤ d := Nat.gcd_le_right _ (Nat.pos_of_ne_zero h)
  exact this
theorem lslim_ok {n : Int} {d : Nat} {w : W} (h : d ≠ 0) (h2 : d < 2 ^ 4000) : m__law_slim [.int n, .int d] w = .ok (fq (mkRat n d)) w := by
  have g := lgcd_ok (a := n) (b := d) (w := w) (by simpa using h2)
  have g0 := gcd_pos (n := n) h
  have g1 := gcd_le (n := n) h
  rw [fq_mk h]
  generalize Int.gcd n d = G at *
  have hG : (G : Int) < 2 ^ 9000 := by
    have : G < 2 ^ 9000 := Nat.lt_of_le_of_lt g1 (Nat.lt_trans h2 (Nat.pow_lt_pow_right (by omega) (by omega)))
    have : ((G : Nat) : Int) < ((2 ^ 9000 : Nat) : Int) := Int.ofNat_lt.mpr this
    rwa [Int.natCast_pow] at this
  have d1 : ∀ i : Int, divD (.int i) (.int (G : Int)) w = .ok (.int (i / (G : Int))) w := fun i => e_divp (by omega) hG
  have dp : (0 : Int) < d := by omega
  generalize hD : (d : Int) = E at *
  clear hD h2 hG
  unfold m__law_slim s__law_slim
  rw [e_body]
  generalize m__law_gcd = Q at *
  simp [g, dp, d1]
theorem slim_ok {n : Int} {d : Nat} {w : W} (h : d ≠ 0) (h2 : d < 2 ^ 63) : m_slim [.int n, .int d] w = .ok (fq (mkRat n d)) w := by
  have g := common_ok (a := n) (b := d) (w := w) (by simpa using h2)
  have g0 := gcd_pos (n := n) h
  have g1 := gcd_le (n := n) h
  rw [fq_mk h]
  generalize Int.gcd n d = G at *
  have hG : (G : Int) < 2 ^ 9000 := by
    have : G < 2 ^ 9000 := Nat.lt_of_le_of_lt g1 (Nat.lt_trans h2 (Nat.pow_lt_pow_right (by omega) (by omega)))
    have : ((G : Nat) : Int) < ((2 ^ 9000 : Nat) : Int) := Int.ofNat_lt.mpr this
    rwa [Int.natCast_pow] at this
  have d1 : ∀ i : Int, divD (.int i) (.int (G : Int)) w = .ok (.int (i / (G : Int))) w := fun i => e_divp (by omega) hG
  have dp : (0 : Int) < d := by omega
  generalize hD : (d : Int) = E at *
  clear hD h2 hG
  unfold m_slim s_slim
  rw [e_body]
  generalize m_common_of = Q at *
  simp [g, dp, d1]
theorem i64 {n : Nat} (h : n < 2 ^ 63) : -(2 ^ 64) < (n : Int) ∧ (n : Int) < 2 ^ 64 := by omega
theorem log2_le' {n k : Nat} (h : n < 2 ^ k) (hk : 0 < k) : n.log2 < k := by
  by_cases e : n = 0
  · subst e; simpa using hk
  · exact (Nat.log2_lt e).mpr h
def BIG : Nat := 2 ^ 1000
theorem big_log {n : Nat} (h : n < BIG) : n.log2 < 1000 := by
  unfold BIG at h
  exact log2_le' h (by omega)
theorem lt_big {n k : Nat} (h : n < 2 ^ k) (hk : k ≤ 1000) : n < BIG := by
  unfold BIG
  exact Nat.lt_of_lt_of_le h (Nat.pow_le_pow_right (by omega) hk)
theorem mul_big {i j : Int} (h1 : i.natAbs < BIG) (h2 : j.natAbs < BIG) {w : W} : mulD (.int i) (.int j) w = .ok (.int (i * j)) w := by
  have c : CMulD i j := .inr (.inr (by
    have a := big_log h1
    have b := big_log h2
    unfold L2.CMulW
    omega))
  simp only [mulD, intG, c, if_true]
theorem nat_abs_lt {n : Nat} (h : n < BIG) : ((n : Nat) : Int).natAbs < BIG := by
  rw [Int.natAbs_natCast]; exact h
theorem p1000 {n : Nat} (h : n < BIG) {m : Nat} (h2 : m < BIG) : n * m < 2 ^ 4000 := by
  unfold BIG at h h2
  have h3 := Nat.mul_lt_mul'' h h2
  rw [← Nat.pow_add] at h3
  exact Nat.lt_trans h3 (Nat.pow_lt_pow_right (by omega) (by omega))
theorem ltimes_ok {p q : Rat} {w : W} (hp : p.den < BIG) (hq : q.den < BIG) (hp2 : p.num.natAbs < BIG) (hq2 : q.num.natAbs < BIG) : m__law_times [fq p, fq q] w = .ok (fq (p * q)) w := by
  have h0 : p.den * q.den ≠ 0 := Nat.mul_ne_zero p.den_nz q.den_nz
  have s := lslim_ok (n := p.num * q.num) (w := w) h0 (p1000 hp hq)
  rw [← Rat.mul_def'] at s
  have m1 : mulD (.int p.num) (.int q.num) w = .ok (.int (p.num * q.num)) w := mul_big hp2 hq2
  have m2 : mulD (.int (p.den : Int)) (.int (q.den : Int)) w = .ok (.int ((p.den * q.den : Nat) : Int)) w := by
    rw [mul_big (nat_abs_lt hp) (nat_abs_lt hq), Int.natCast_mul]
  have e : m__law_times [fq p, fq q] w = m__law_times [.tup [.int p.num, .int p.den], .tup [.int q.num, .int q.den]] w := rfl
  rw [e]
  generalize fq (p * q) = R at *
  unfold m__law_times s__law_times
  rw [e_body]
  generalize m__law_slim = Q at *
  generalize p.num = a1 at *
  generalize q.num = a2 at *
  generalize (p.den : Int) = b1 at *
  generalize (q.den : Int) = b2 at *
  have g0 : dVar 0 [.fz (.tup [.int a1, .int b1]), .fz (.tup [.int a2, .int b2])] w = .ok (.tup [.int a1, .int b1]) w := rfl
  have g1 : dVar 1 [.fz (.tup [.int a1, .int b1]), .fz (.tup [.int a2, .int b2])] w = .ok (.tup [.int a2, .int b2]) w := rfl
  show endO (sRet _ [.fz (.tup [.int a1, .int b1]), .fz (.tup [.int a2, .int b2])] w) = _
  rw [e_sRet]
  repeat first | rw [bind_ok] | rw [g0] | rw [g1] | rw [e_dC] | rw [ix_t0] | rw [ix_t1] | rw [m1] | rw [m2] | rw [e_dBin] | rw [dc2]
  rw [s, obind_ok, e_endr]
theorem lplus_ok {p q : Rat} {w : W} (hp : p.den < BIG) (hq : q.den < BIG) (hp2 : p.num.natAbs < BIG) (hq2 : q.num.natAbs < BIG) : m__law_plus [fq p, fq q] w = .ok (fq (p + q)) w := by
  have h0 : p.den * q.den ≠ 0 := Nat.mul_ne_zero p.den_nz q.den_nz
  have s := lslim_ok (n := p.num * q.den + q.num * p.den) (w := w) h0 (p1000 hp hq)
  rw [← Rat.add_def'] at s
  have m1 : mulD (.int p.num) (.int (q.den : Int)) w = .ok (.int (p.num * q.den)) w := mul_big hp2 (nat_abs_lt hq)
  have m3 : mulD (.int q.num) (.int (p.den : Int)) w = .ok (.int (q.num * p.den)) w := mul_big hq2 (nat_abs_lt hp)
  have m2 : mulD (.int (p.den : Int)) (.int (q.den : Int)) w = .ok (.int ((p.den * q.den : Nat) : Int)) w := by
    rw [mul_big (nat_abs_lt hp) (nat_abs_lt hq), Int.natCast_mul]
  have e : m__law_plus [fq p, fq q] w = m__law_plus [.tup [.int p.num, .int p.den], .tup [.int q.num, .int q.den]] w := rfl
  rw [e]
  generalize fq (p + q) = R at *
  unfold m__law_plus s__law_plus
  rw [e_body]
  generalize m__law_slim = Q at *
  generalize p.num = a1 at *
  generalize q.num = a2 at *
  generalize (p.den : Int) = b1 at *
  generalize (q.den : Int) = b2 at *
  have g0 : dVar 0 [.fz (.tup [.int a1, .int b1]), .fz (.tup [.int a2, .int b2])] w = .ok (.tup [.int a1, .int b1]) w := rfl
  have g1 : dVar 1 [.fz (.tup [.int a1, .int b1]), .fz (.tup [.int a2, .int b2])] w = .ok (.tup [.int a2, .int b2]) w := rfl
  show endO (sRet _ [.fz (.tup [.int a1, .int b1]), .fz (.tup [.int a2, .int b2])] w) = _
  rw [e_sRet]
  repeat first | rw [bind_ok] | rw [g0] | rw [g1] | rw [e_dC] | rw [ix_t0] | rw [ix_t1] | rw [m1] | rw [m2] | rw [m3] | rw [e_add] | rw [e_dBin] | rw [dc2]
  rw [s, obind_ok, e_endr]
end K18
namespace K18
open PySem DL
/-! worths of POLYS, whatever they are -/
def horZ (j : Int) : Int → List Int → Int
  | t, [] => t
  | t, r :: rs => horZ j (t * j + r) rs
theorem hor_step {t j r : Int} {u : Nat} (hu : u ≠ 0) : mkRat t u * (j : Rat) + mkRat r u = mkRat (t * j + r) u := by
  rw [← Rat.mkRat_one j, Rat.mkRat_mul_mkRat, Nat.mul_one, Rat.mkRat_add_mkRat _ _ hu hu, Rat.mkRat_eq_iff (Nat.mul_ne_zero hu hu) hu, ← Int.add_mul, Int.natCast_mul, Int.mul_assoc]
theorem hor_mul {t j : Int} {u : Nat} : mkRat t u * (j : Rat) = mkRat (t * j) u := by
  rw [← Rat.mkRat_one j, Rat.mkRat_mul_mkRat, Nat.mul_one]
/-- bounds: what a worth may come to -/
theorem grow0 {t tj r A B C R M : Nat} (h1 : tj ≤ t * A) (hr : r < B) (hB : B ≤ A) (hC : A ≤ C) (hR : 1 ≤ R) (h : (t + 1) * (C * R) < M) : (tj + r + 1) * R < M ∧ tj < M ∧ t < M := by
  have a1 : (t + 1) * A ≤ (t + 1) * C := Nat.mul_le_mul_left _ hC
  have a2 : (t + 1) * A = t * A + A := Nat.succ_mul _ _
  have a3 : tj + r + 1 ≤ (t + 1) * C := by omega
  have a4 : (tj + r + 1) * R ≤ (t + 1) * C * R := Nat.mul_le_mul_right _ a3
  rw [Nat.mul_assoc] at a4
  have a5 : (t + 1) * C * 1 ≤ (t + 1) * C * R := Nat.mul_le_mul_left _ hR
  rw [Nat.mul_assoc _ C R] at a5
  have a6 : (t + 1) * 1 ≤ (t + 1) * C := Nat.mul_le_mul_left _ (by omega)
  omega
def JB : Nat := 2 ^ 140
def RB : Nat := 2 ^ 100
def SB (n : Nat) : Nat := 2 ^ (141 * n)
theorem SB_succ (n : Nat) : SB (n + 1) = 2 ^ 141 * SB n := by
  unfold SB
  rw [show 141 * (n + 1) = 141 + 141 * n by omega, Nat.pow_add]
theorem grow {t j r : Int} {n : Nat} (hj : j.natAbs < JB) (hr : r.natAbs < RB) (h : (t.natAbs + 1) * SB (n + 1) < BIG) : ((t * j + r).natAbs + 1) * SB n < BIG ∧ (t * j).natAbs < BIG ∧ t.natAbs < BIG := by
  have b1 := Int.natAbs_add_le (t * j) r
  have b2 : (t * j).natAbs ≤ t.natAbs * JB := by
    rw [Int.natAbs_mul]; exact Nat.mul_le_mul_left _ (Nat.le_of_lt hj)
  rw [SB_succ] at h
  obtain ⟨c1, c2, c3⟩ := grow0 (R := SB n) b2 hr (by decide) (by decide) Nat.one_le_two_pow h
  exact ⟨Nat.lt_of_le_of_lt (Nat.mul_le_mul_right _ (by omega)) c1, c2, c3⟩
theorem j_big {j : Int} (hj : j.natAbs < JB) : j.natAbs < BIG := lt_big (k := 140) hj (by omega)
theorem mk_num {n : Int} {d : Nat} (h : d ≠ 0) : (mkRat n d).num.natAbs ≤ n.natAbs ∧ (mkRat n d).den ≤ d := by
  obtain ⟨h1, h2⟩ := normal_num (n := n) h
  rw [h1, h2]
  refine ⟨?_, Nat.div_le_self _ _⟩
  have : ((Nat.gcd n.natAbs d : Nat) : Int) ∣ n := Int.ofNat_dvd_left.mpr (Nat.gcd_dvd_left _ _)
  rw [Int.natAbs_ediv_of_dvd this]
  exact Nat.div_le_self _ _
/-! the program's -/
def valT : SM := (sAsg (bName 2) [] (dBin addD (dBin mulD (dVar 2) (dVar 1)) (dVar 3)))
theorem val_for {j : Int} {s0 s4 s5 : Slot} {w : W} (hj : j.natAbs < JB) : ∀ (l : List Int) (t : Int) (s3 : Slot), (∀ r ∈ l, r.natAbs < RB) → (t.natAbs + 1) * SB l.length < BIG → ∃ s3', DL.forM (bName 3) valT (l.map .int) [s0, .fz (.int j), .fz (.int t), s3, s4, s5] w = .nx [s0, .fz (.int j), .fz (.int (horZ j t l)), s3', s4, s5] w := by
  intro l
  induction l with
  | nil => intro t s3 _ _; exact ⟨s3, rfl⟩
  | cons r l ih =>
    intro t s3 hr ht
    rw [List.length_cons] at ht
    obtain ⟨g1, g2, g3⟩ := grow hj (hr r List.mem_cons_self) ht
    have m : mulD (.int t) (.int j) w = .ok (.int (t * j)) w := mul_big g3 (j_big hj)
    have e : valT [s0, .fz (.int j), .fz (.int t), .fz (.int r), s4, s5] w = .nx [s0, .fz (.int j), .fz (.int (t * j + r)), .fz (.int r), s4, s5] w := by
      unfold valT; simp [m]
    obtain ⟨s3', ih⟩ := ih (t * j + r) (.fz (.int r)) (fun q h => hr q (List.mem_cons_of_mem _ h)) g1
    refine ⟨s3', ?_⟩
    rw [List.map_cons, for_nx (env1 := [s0, .fz (.int j), .fz (.int t), .fz (.int r), s4, s5]) rfl e, ih]; rfl
theorem least_ok {a b : Nat} {w : W} (ha : a ≠ 0) (hb : b ≠ 0) (ha2 : a < 2 ^ 60) (hb2 : b < 2 ^ 60) : m_least_of [.int a, .int b] w = .ok (.int (Nat.lcm a b)) w := by
  have c := common_ok (a := a) (b := b) (w := w) (by simp; omega)
  have gp : 0 < Nat.gcd a b := Nat.gcd_pos_of_pos_left _ (Nat.pos_of_ne_zero ha)
  have gl : Nat.gcd a b ≤ a := Nat.gcd_le_left _ (Nat.pos_of_ne_zero ha)
  have hg : Int.gcd a b = Nat.gcd a b := rfl
  have hG : ((Nat.gcd a b : Nat) : Int) < 2 ^ 9000 := Int.lt_trans (show ((Nat.gcd a b : Nat) : Int) < 2 ^ 60 by omega) (by decide)
  have dv : divD (.int (a : Int)) (.int ((Nat.gcd a b : Nat) : Int)) w = .ok (.int ((a / Nat.gcd a b : Nat) : Int)) w := by
    rw [e_divp (by omega) hG, Int.natCast_ediv]
  have ml : mulD (.int ((a / Nat.gcd a b : Nat) : Int)) (.int (b : Int)) w = .ok (.int (Nat.lcm a b)) w := by
    rw [e_mulr (by omega) (by omega)]
    congr 2
    rw [← Int.natCast_mul]
    congr 1
    unfold Nat.lcm
    rw [Nat.div_mul_right_comm (Nat.gcd_dvd_left a b)]
  rw [hg] at c
  clear hG gl gp hg
  generalize (a : Int) = A at *
  generalize (b : Int) = B at *
  generalize ((Nat.gcd a b : Nat) : Int) = G at *
  have g0 : dVar 0 [.fz (.int A), .fz (.int B)] w = .ok (.int A) w := rfl
  have g1 : dVar 1 [.fz (.int A), .fz (.int B)] w = .ok (.int B) w := rfl
  show endO (sRet (dBin mulD (dBin divD (dVar 0) (dCall 2 m_common_of (aCons (dVar 0) (aCons (dVar 1) aNil)))) (dVar 1)) [.fz (.int A), .fz (.int B)] w) = _
  generalize m_common_of = F at *
  rw [e_sRet, e_dBin, e_dBin, g0, bind_ok, dc2, g0, bind_ok, g1, bind_ok, c, bind_ok, dv, bind_ok, g1, bind_ok, ml, obind_ok, e_endr]
/-! POLYS as rows of fractions -/
def polyQ (qs : List Rat) : D := .tup (qs.map fq)
def rowU (u : Nat) (qs : List Rat) : Nat := qs.foldl (fun u q => Nat.lcm u q.den) u
def rowL (u : Nat) (qs : List Rat) : List Int := qs.map fun q => q.num * ((u / q.den : Nat) : Int)
def OkQ (qs : List Rat) : Prop := qs.length ≤ 6 ∧ ∀ q ∈ qs, q.den ≤ 12 ∧ q.num.natAbs ≤ 100
theorem rowU_dvd : ∀ (qs : List Rat) (u : Nat), u ∣ rowU u qs ∧ ∀ q ∈ qs, q.den ∣ rowU u qs
  | [], u => ⟨Nat.dvd_refl _, by simp⟩
  | q :: qs, u => by
    obtain ⟨h1, h2⟩ := rowU_dvd qs (Nat.lcm u q.den)
    refine ⟨Nat.dvd_trans (Nat.dvd_lcm_left _ _) h1, fun r hr => ?_⟩
    rcases List.mem_cons.mp hr with e | e
    · rw [e]; exact Nat.dvd_trans (Nat.dvd_lcm_right _ _) h1
    · exact h2 r e
theorem lcm_le {a b : Nat} (ha : a ≠ 0) (hb : b ≠ 0) : Nat.lcm a b ≤ a * b := Nat.le_of_dvd (Nat.mul_pos (Nat.pos_of_ne_zero ha) (Nat.pos_of_ne_zero hb)) (Nat.lcm_dvd (Nat.dvd_mul_right _ _) (Nat.dvd_mul_left _ _))
theorem rowU_pos : ∀ (qs : List Rat) (u : Nat), u ≠ 0 → (∀ q ∈ qs, q.den ≤ 12) → rowU u qs ≠ 0 ∧ rowU u qs ≤ u * 12 ^ qs.length
  | [], u, h, _ => ⟨h, by simp [rowU]⟩
  | q :: qs, u, h, hq => by
    have l0 : Nat.lcm u q.den ≠ 0 := Nat.lcm_ne_zero h q.den_nz
    obtain ⟨h1, h2⟩ := rowU_pos qs (Nat.lcm u q.den) l0 fun r hr => hq r (List.mem_cons_of_mem _ hr)
    refine ⟨h1, Nat.le_trans h2 ?_⟩
    rw [List.length_cons, Nat.pow_succ, Nat.mul_comm (12 ^ _) 12, ← Nat.mul_assoc]
    exact Nat.mul_le_mul_right _ (Nat.le_trans (lcm_le h q.den_nz) (Nat.mul_le_mul_left _ (hq q List.mem_cons_self)))
theorem okQ_U {qs : List Rat} (h : OkQ qs) : rowU 1 qs ≠ 0 ∧ rowU 1 qs < 2 ^ 22 := by
  obtain ⟨h1, h2⟩ := rowU_pos qs 1 (by omega) fun q hq => (h.2 q hq).1
  refine ⟨h1, ?_⟩
  have : 12 ^ qs.length ≤ 12 ^ 6 := Nat.pow_le_pow_right (by omega) h.1
  omega
theorem rowL_mk {qs : List Rat} {u : Nat} (hu : u ≠ 0) (hd : ∀ q ∈ qs, q.den ∣ u) : (rowL u qs).map (fun r => mkRat r u) = qs := by
  unfold rowL
  rw [List.map_map]
  conv => rhs; rw [← List.map_id qs]
  refine List.map_congr_left fun q hq => ?_
  obtain ⟨m, hm⟩ := hd q hq
  have m0 : m ≠ 0 := fun e => hu (by rw [hm, e, Nat.mul_zero])
  show mkRat (q.num * ((u / q.den : Nat) : Int)) u = q
  have hdv : u / q.den = m := by rw [hm, Nat.mul_div_cancel_left _ q.den_pos]
  rw [hdv, hm, Int.mul_comm, Nat.mul_comm, Rat.mkRat_mul_left m0, Rat.mkRat_self]
theorem rowL_le {qs : List Rat} (h : OkQ qs) : ∀ r ∈ rowL (rowU 1 qs) qs, r.natAbs < RB := by
  intro r hr
  obtain ⟨q, hq, rfl⟩ := List.mem_map.mp hr
  rw [Int.natAbs_mul, Int.natAbs_natCast]
  have h1 := (h.2 q hq).2
  have h2 := (okQ_U h).2
  have h3 := Nat.div_le_self (rowU 1 qs) q.den
  have := Nat.mul_le_mul h1 (Nat.le_trans h3 (Nat.le_of_lt h2))
  unfold RB
  omega
def isF (s : Slot) : Prop := s = .un ∨ ∃ d, s = .fz d
def rwT : SM := (sAsg (bName 1) [1] (dCall 2 m_least_of (aCons (dVar 1) (aCons (dBin ixD (dVar 2) (dC (.int 1))) aNil))))
theorem rw_for {s0 : Slot} {w : W} : ∀ (qs : List Rat) (u : Nat) (s2 : Slot), u ≠ 0 → (∀ q ∈ qs, q.den ≤ 12) → u * 12 ^ qs.length < 2 ^ 60 → isF s2 → ∃ s2', isF s2' ∧ DL.forM (bName 2) rwT (qs.map fq) [s0, .fz (.int u), s2] w = .nx [s0, .fz (.int (rowU u qs)), s2'] w
  | [], u, s2, _, _, _, hs => ⟨s2, hs, rfl⟩
  | q :: qs, u, s2, hu, hq, hb, _ => by
    have q1 := hq q List.mem_cons_self
    have e12 : 12 ^ (q :: qs).length = 12 * 12 ^ qs.length := by rw [List.length_cons, Nat.pow_succ, Nat.mul_comm]
    rw [e12, ← Nat.mul_assoc] at hb
    have p1 : 1 ≤ 12 ^ qs.length := Nat.one_le_pow _ _ (by omega)
    have hu2 : u * 12 * 1 ≤ u * 12 * 12 ^ qs.length := Nat.mul_le_mul_left _ p1
    have l := least_ok (w := w) hu q.den_nz (by omega) (by omega)
    have e : rwT [s0, .fz (.int u), .fz (fq q)] w = .nx [s0, .fz (.int (Nat.lcm u q.den)), .fz (fq q)] w := by
      unfold fq rwT
      generalize m_least_of = F at *
      have g1 : dVar 1 [s0, .fz (.int u), .fz (.tup [.int q.num, .int q.den])] w = .ok (.int u) w := rfl
      have g2 : dVar 2 [s0, .fz (.int u), .fz (.tup [.int q.num, .int q.den])] w = .ok (.tup [.int q.num, .int q.den]) w := rfl
      rw [e_sAsg, dc2, g1, bind_ok, e_dBin, g2, bind_ok, e_dC, bind_ok, ix_t1, bind_ok, l, obind_ok]
      rfl
    obtain ⟨s2', hs, ih⟩ := rw_for (s0 := s0) (w := w) qs (Nat.lcm u q.den) (.fz (fq q)) (Nat.lcm_ne_zero hu q.den_nz) (fun r hr => hq r (List.mem_cons_of_mem _ hr)) (Nat.lt_of_le_of_lt (Nat.mul_le_mul_right _ (Nat.le_trans (lcm_le hu q.den_nz) (Nat.mul_le_mul_left _ q1))) hb) (.inr ⟨_, rfl⟩)
    refine ⟨s2', hs, ?_⟩
    rw [List.map_cons, for_nx (env1 := [s0, .fz (.int u), .fz (fq q)]) rfl e, ih]; rfl
theorem row_ok {qs : List Rat} (h : OkQ qs) {w : W} : m_whole_row [polyQ qs] w = .ok (.tup [.int (rowU 1 qs), .lst ((rowL (rowU 1 qs) qs).map .int)]) w := by
  have hd : ∀ q ∈ qs, q.den ≤ 12 := fun q hq => (h.2 q hq).1
  obtain ⟨u0, u22⟩ := okQ_U h
  obtain ⟨s2', hs2, f⟩ := rw_for (s0 := .fz (polyQ qs)) (w := w) qs 1 .un (by omega) hd (by
    have : 12 ^ qs.length ≤ 12 ^ 6 := Nat.pow_le_pow_right (by omega) h.1
    omega) (.inl rfl)
  have z2 : (2 : Nat) ≤ sizeLine := sl_of (by omega)
  have hsz : (qs.map fq).length ≤ sizeLine := by rw [List.length_map]; exact sl_of (by have := h.1; omega)
  have c := comp3_map (ac := []) (ac3 := []) (vs := [2]) (it := dUn seqM (dVar 0)) (b := bName 2) (κ := tYesM) (e := (dBin mulD (dBin ixD (dVar 2) (dC (.int 0))) (dBin divD (dVar 1) (dBin ixD (dVar 2) (dC (.int 1)))))) (env := [.fz (polyQ qs), .fz (.int (rowU 1 qs)), s2']) (w := w) (ds := qs.map fq) (fun d => match d with | .tup [.int n, .int d] => .int (n * (((rowU 1 qs : Nat) : Int) / d)) | _ => .non) rfl rfl hsz (by rcases hs2 with rfl | ⟨d, rfl⟩ <;> rfl) fun d hd => by
    obtain ⟨q, hq, rfl⟩ := List.mem_map.mp hd
    refine ⟨[.fz (polyQ qs), .fz (.int (rowU 1 qs)), .fz (fq q)], rfl, rfl, ?_⟩
    have q1 := h.2 q hq
    have dp := q.den_pos
    have hD : (q.den : Int) < 2 ^ 9000 := Int.lt_trans (show (q.den : Int) < 2 ^ 60 by omega) (by decide)
    have dv : divD (.int ((rowU 1 qs : Nat) : Int)) (.int (q.den : Int)) w = .ok (.int (((rowU 1 qs : Nat) : Int) / (q.den : Int))) w := e_divp (by omega) hD
    have ml : mulD (.int q.num) (.int (((rowU 1 qs : Nat) : Int) / (q.den : Int))) w = .ok (.int (q.num * (((rowU 1 qs : Nat) : Int) / (q.den : Int)))) w := e_mull (by omega) (by omega)
    show _ = Res.ok (D.int (q.num * (((rowU 1 qs : Nat) : Int) / (q.den : Int)))) w
    clear hD
    unfold fq
    generalize polyQ qs = P at *
    generalize ((rowU 1 qs : Nat) : Int) = UU at *
    generalize (q.den : Int) = DD at *
    generalize q.num = NN at *
    have g1 : dVar 1 [.fz P, .fz (.int UU), .fz (.tup [.int NN, .int DD])] w = .ok (.int UU) w := rfl
    have g2 : dVar 2 [.fz P, .fz (.int UU), .fz (.tup [.int NN, .int DD])] w = .ok (.tup [.int NN, .int DD]) w := rfl
    rw [e_dBin, e_dBin, g2, bind_ok, e_dC, bind_ok, ix_t0, bind_ok, e_dBin, g1, bind_ok, e_dBin, g2, bind_ok, e_dC, bind_ok, ix_t1, bind_ok, dv, bind_ok, ml]
  have cl : (qs.map fq).map (fun d => match d with | .tup [.int n, .int d] => D.int (n * (((rowU 1 qs : Nat) : Int) / d)) | _ => D.non) = (rowL (rowU 1 qs) qs).map D.int := by
    unfold rowL
    rw [List.map_map, List.map_map]
    refine List.map_congr_left fun q hq => ?_
    show D.int (q.num * (((rowU 1 qs : Nat) : Int) / (q.den : Int))) = D.int (q.num * ((rowU 1 qs / q.den : Nat) : Int))
    rw [Int.natCast_ediv]
  rw [cl] at c
  show endO (seqO (sFor [0] (dUn seqM (dVar 0)) (bName 2) rwT [.fz (polyQ qs), .fz (.int 1), .un] w) (sRet (dTup (aCons (dVar 1) (aCons (dL (dComp3 [] [] [2] (dUn seqM (dVar 0)) (bName 2) tYesM (dBin mulD (dBin ixD (dVar 2) (dC (.int 0))) (dBin divD (dVar 1) (dBin ixD (dVar 2) (dC (.int 1))))))) aNil))))) = _
  have g0 : (dUn seqM (dVar 0)) [.fz (polyQ qs), .fz (.int 1), .un] w = .ok (qs.map fq) w := rfl
  rw [e_sFor, g0, obind_ok]
  show endO (seqO (DL.forM (bName 2) rwT (qs.map fq) [.fz (polyQ qs), .fz (.int ((1 : Nat) : Int)), .un] w) _) = _
  rw [f, e_sqn]
  have g1 : dVar 1 [.fz (polyQ qs), .fz (.int (rowU 1 qs)), s2'] w = .ok (.int (rowU 1 qs)) w := rfl
  rw [e_sRet, dt2, g1, bind_ok, e_dL, c, bind_ok, bind_ok, obind_ok, e_endr]
end K18
namespace K18
open PySem DL
def wv (qs : List Rat) (j : Int) : Rat := mkRat (horZ j 0 (rowL (rowU 1 qs) qs).reverse) (rowU 1 qs)
theorem SB_small {n : Nat} (h : n ≤ 6) : ((0 : Int).natAbs + 1) * SB n < BIG := by
  have : SB n ≤ SB 6 := Nat.pow_le_pow_right (by omega) (by omega)
  have h2 : SB 6 < BIG := by decide +kernel
  rw [Int.natAbs_zero, Nat.zero_add, Nat.one_mul]
  exact Nat.lt_of_le_of_lt this h2
theorem RB_big {n : Nat} (h : n < RB) : n < BIG := lt_big (k := 100) h (by omega)
theorem lenL {u : Nat} {qs : List Rat} : (rowL u qs).length = qs.length := by unfold rowL; rw [List.length_map]
theorem rowL_le2 {qs : List Rat} (h : OkQ qs) : ∀ r ∈ (rowL (rowU 1 qs) qs).reverse, r.natAbs < RB := fun r hr => rowL_le h r (List.mem_reverse.mp hr)
theorem value_ok {qs : List Rat} (h : OkQ qs) {j : Int} (hj : j.natAbs < JB) {w : W} : m_value_in [polyQ qs, .int j] w = .ok (fq (wv qs j)) w := by
  have r := row_ok h (w := w)
  obtain ⟨u0, u22⟩ := okQ_U h
  have s := slim_ok (n := horZ j 0 (rowL (rowU 1 qs) qs).reverse) (w := w) u0 (by omega)
  obtain ⟨s3', f⟩ := val_for (s0 := .fz (polyQ qs)) (s4 := .fz (.int (rowU 1 qs))) (s5 := .fz (.lst ((rowL (rowU 1 qs) qs).map .int))) (w := w) hj (rowL (rowU 1 qs) qs).reverse 0 .un (rowL_le2 h) (by rw [List.length_reverse, lenL]; exact SB_small h.1)
  rw [List.map_reverse] at f
  have s : m_slim [.int (horZ j 0 (rowL (rowU 1 qs) qs).reverse), .int ((rowU 1 qs : Nat) : Int)] w = .ok (fq (wv qs j)) w := s
  clear u0 u22
  generalize fq (wv qs j) = V at *
  generalize (horZ j 0 (rowL (rowU 1 qs) qs).reverse) = Z at *
  generalize ((rowL (rowU 1 qs) qs).map D.int) = L at *
  generalize ((rowU 1 qs : Nat) : Int) = U at *
  generalize polyQ qs = P at *
  show endO (seqO (sAsg (bTup 2 (bCons (bName 4) (bCons (bName 5) bNil))) [0] (dCall 1 m_whole_row (aCons (dVar 0) aNil)) [.fz P, .fz (.int j), .un, .un, .un, .un] w) (sSeq (sAsg (bName 2) [] (dC (.int 0))) (sSeq (sFor [5] (dUn revM (dVar 5)) (bName 3) valT) (sRet (dCall 2 m_slim (aCons (dVar 2) (aCons (dVar 4) aNil))))))) = _
  have g0 : dVar 0 [.fz P, .fz (.int j), .un, .un, .un, .un] w = .ok P w := rfl
  generalize m_whole_row = F1 at *
  generalize m_slim = F2 at *
  rw [e_sAsg, dc1, g0, bind_ok, r, obind_ok]
  show endO (seqO (sFor [5] (dUn revM (dVar 5)) (bName 3) valT [.fz P, .fz (.int j), .fz (.int 0), .un, .fz (.int U), .fz (.lst L)] w) (sRet (dCall 2 F2 (aCons (dVar 2) (aCons (dVar 4) aNil))))) = _
  have g5 : dVar 5 [.fz P, .fz (.int j), .fz (.int 0), .un, .fz (.int U), .fz (.lst L)] w = .ok (.lst L) w := rfl
  rw [e_sFor, e_dUn, g5, bind_ok, e_revL, obind_ok]
  show endO (seqO (DL.forM (bName 3) valT L.reverse [.fz P, .fz (.int j), .fz (.int 0), .un, .fz (.int U), .fz (.lst L)] w) (sRet (dCall 2 F2 (aCons (dVar 2) (aCons (dVar 4) aNil))))) = _
  rw [f, e_sqn, e_sRet, dc2]
  have k2 : dVar 2 [.fz P, .fz (.int j), .fz (.int Z), s3', .fz (.int U), .fz (.lst L)] w = .ok (.int Z) w := rfl
  have k4 : dVar 4 [.fz P, .fz (.int j), .fz (.int Z), s3', .fz (.int U), .fz (.lst L)] w = .ok (.int U) w := rfl
  rw [k2, bind_ok, k4, bind_ok, s, obind_ok, e_endr]
/-! the law's own worths -/
def lvT : SM := (sAsg (bName 2) [1, 2, 3] (dCall 2 m__law_plus (aCons (dCall 2 m__law_times (aCons (dVar 2) (aCons (dTup (aCons (dVar 1) (aCons (dC (.int 1)) aNil))) aNil))) (aCons (dVar 3) aNil))))
theorem lv_for {u : Nat} (hu : u ≠ 0) (hu2 : u < BIG) {j : Int} {s0 : Slot} {w : W} (hj : j.natAbs < JB) : ∀ (l : List Int) (t : Int) (s3 : Slot), (∀ r ∈ l, r.natAbs < RB) → (t.natAbs + 1) * SB l.length < BIG → ∃ s3', DL.forM (bName 3) lvT ((l.map fun r => mkRat r u).map fq) [s0, .fz (.int j), .fz (fq (mkRat t u)), s3] w = .nx [s0, .fz (.int j), .fz (fq (mkRat (horZ j t l) u)), s3'] w := by
  intro l
  induction l with
  | nil => intro t s3 _ _; exact ⟨s3, rfl⟩
  | cons r l ih =>
    intro t s3 hr ht
    rw [List.length_cons] at ht
    have hr1 := hr r List.mem_cons_self
    obtain ⟨g1, g2, g3⟩ := grow hj hr1 ht
    obtain ⟨a1, a2⟩ := mk_num (n := t) hu
    obtain ⟨b1, b2⟩ := mk_num (n := t * j) hu
    obtain ⟨c1, c2⟩ := mk_num (n := r) hu
    have one : (1 : Nat) < BIG := lt_big (k := 1) (by omega) (by omega)
    have m : m__law_times [fq (mkRat t u), .tup [.int j, .int 1]] w = .ok (fq (mkRat t u * (j : Rat))) w := ltimes_ok (p := mkRat t u) (q := (j : Rat)) (Nat.lt_of_le_of_lt a2 hu2) one (Nat.lt_of_le_of_lt a1 g3) (j_big hj)
    rw [hor_mul] at m
    have p : m__law_plus [fq (mkRat (t * j) u), fq (mkRat r u)] w = .ok (fq (mkRat (t * j) u + mkRat r u)) w := lplus_ok (Nat.lt_of_le_of_lt b2 hu2) (Nat.lt_of_le_of_lt c2 hu2) (Nat.lt_of_le_of_lt b1 g2) (Nat.lt_of_le_of_lt c1 (RB_big hr1))
    rw [← hor_mul, hor_step hu, hor_mul] at p
    have e : lvT [s0, .fz (.int j), .fz (fq (mkRat t u)), .fz (fq (mkRat r u))] w = .nx [s0, .fz (.int j), .fz (fq (mkRat (t * j + r) u)), .fz (fq (mkRat r u))] w := by
      clear ih
      generalize fq (mkRat (t * j + r) u) = R at *
      generalize fq (mkRat (t * j) u) = R2 at *
      generalize fq (mkRat t u) = R3 at *
      generalize fq (mkRat r u) = R4 at *
      unfold lvT
      generalize m__law_times = F1 at *
      generalize m__law_plus = F2 at *
      have g1 : dVar 1 [s0, .fz (.int j), .fz R3, .fz R4] w = .ok (.int j) w := rfl
      have g2 : dVar 2 [s0, .fz (.int j), .fz R3, .fz R4] w = .ok R3 w := rfl
      have g3 : dVar 3 [s0, .fz (.int j), .fz R3, .fz R4] w = .ok R4 w := rfl
      rw [e_sAsg, dc2, dc2, g2, bind_ok, dt2, g1, bind_ok, e_dC, bind_ok, bind_ok, m, bind_ok, g3, bind_ok, p, obind_ok]
      rfl
    obtain ⟨s3', ih⟩ := ih (t * j + r) (.fz (fq (mkRat r u))) (fun q h => hr q (List.mem_cons_of_mem _ h)) g1
    refine ⟨s3', ?_⟩
    rw [List.map_cons, List.map_cons, for_nx (env1 := [s0, .fz (.int j), .fz (fq (mkRat t u)), .fz (fq (mkRat r u))]) rfl e, ih]; rfl
theorem lvalue_ok {qs : List Rat} (h : OkQ qs) {j : Int} (hj : j.natAbs < JB) {w : W} : m__law_value [polyQ qs, .int j] w = .ok (fq (wv qs j)) w := by
  obtain ⟨u0, u22⟩ := okQ_U h
  obtain ⟨s3', f⟩ := lv_for (s0 := .fz (polyQ qs)) (w := w) u0 (lt_big u22 (by omega)) hj (rowL (rowU 1 qs) qs).reverse 0 .un (rowL_le2 h) (by rw [List.length_reverse, lenL]; exact SB_small h.1)
  have z : fq (mkRat 0 (rowU 1 qs)) = .tup [.int 0, .int 1] := by
    rw [Rat.zero_mkRat]; rfl
  rw [z] at f
  have e0 : ((rowL (rowU 1 qs) qs).reverse.map fun r => mkRat r (rowU 1 qs)) = qs.reverse := by
    rw [List.map_reverse, rowL_mk u0 (rowU_dvd qs 1).2]
  rw [e0] at f
  have rv : (dUn seqM (dUn revT (dVar 0))) [.fz (polyQ qs), .fz (.int j), .fz (.tup [.int 0, .int 1]), .un] w = .ok (qs.reverse.map fq) w := by
    have g0 : dVar 0 [.fz (polyQ qs), .fz (.int j), .fz (.tup [.int 0, .int 1]), .un] w = .ok (polyQ qs) w := rfl
    rw [e_dUn, e_dUn, g0, bind_ok, List.map_reverse]; rfl
  show endO (seqO (sFor [] (dUn seqM (dUn revT (dVar 0))) (bName 3) lvT [.fz (polyQ qs), .fz (.int j), .fz (.tup [.int 0, .int 1]), .un] w) (sRet (dVar 2))) = _
  rw [e_sFor, rv, obind_ok, e_frzs0, f]
  rfl
/-! what stands of a row without noughts at its end -/
def Ends0 (qs : List Rat) : Prop := qs = [] ∨ ∃ pre q, qs = pre ++ [q] ∧ q ≠ 0
theorem ix_last {pre : List D} {d : D} {w : W} : ixD (.lst (pre ++ [d])) (.int (-1)) w = .ok d w := by
  have : L2.atI (pre ++ [d]) (-1) = some d := by
    unfold L2.atI L2.ixN
    have h : (1 : Int) ≤ (pre.length : Int) + 1 := by omega
    simp
    rw [if_pos h]
    show (pre ++ [d])[(-1 + ((pre.length : Int) + 1)).toNat]? = some d
    rw [show (-1 + ((pre.length : Int) + 1)).toNat = pre.length by omega]
    simp
  simp only [ixD, this]
theorem ix_lastT {pre : List D} {d : D} {w : W} : ixD (.tup (pre ++ [d])) (.int (-1)) w = .ok d w := by
  have : L2.atI (pre ++ [d]) (-1) = some d := by
    unfold L2.atI L2.ixN
    have h : (1 : Int) ≤ (pre.length : Int) + 1 := by omega
    simp
    rw [if_pos h]
    show (pre ++ [d])[(-1 + ((pre.length : Int) + 1)).toNat]? = some d
    rw [show (-1 + ((pre.length : Int) + 1)).toNat = pre.length by omega]
    simp
  simp only [ixD, this]
theorem fq_ne {q : Rat} {w : W} : neD (fq q) (.tup [.int 0, .int 1]) w = .ok (.bl (decide (q ≠ 0))) w := by
  have := e_neTI (l := [q.num, (q.den : Int)]) (m := [0, 1]) (w := w)
  show neD (.tup ([q.num, (q.den : Int)].map .int)) (.tup ([0, 1].map .int)) w = _
  rw [this]
  congr 2
  rw [decide_eq_decide]
  constructor
  · intro h e
    exact h (by rw [e]; rfl)
  · intro h e
    simp only [List.cons.injEq, and_true] at e
    exact h (Rat.ext e.1 (by rw [show (0 : Rat).den = 1 from rfl]; omega))
def thB : SM := (sSeq (sIf (dB (dBin neD (dBin ixD (dVar 1) (dNeg (dC (.int 1)))) (dTup (aCons (dC (.int 0)) (aCons (dC (.int 1)) aNil))))) sBreak sNil) (sPop 1))
theorem thB_at {pre : List Rat} {q : Rat} {s0 s2 : Slot} {w : W} : thB [s0, .ow (.lst ((pre ++ [q]).map fq)), s2] w = if q ≠ 0 then .bk [s0, .ow (.lst ((pre ++ [q]).map fq)), s2] w else .nx [s0, .ow (.lst (pre.map fq)), s2] w := by
  have m : (pre ++ [q]).map fq = pre.map fq ++ [fq q] := by rw [List.map_append]; rfl
  rw [m]
  have n := fq_ne (q := q) (w := w)
  have i := ix_last (pre := pre.map fq) (d := fq q) (w := w)
  generalize fq q = Q at *
  generalize pre.map fq = PR at *
  have g1 : dVar 1 [s0, .ow (.lst (PR ++ [Q])), s2] w = .ok (.lst (PR ++ [Q])) w := rfl
  have c : (dB (dBin neD (dBin ixD (dVar 1) (dNeg (dC (.int 1)))) (dTup (aCons (dC (.int 0)) (aCons (dC (.int 1)) aNil))))) [s0, .ow (.lst (PR ++ [Q])), s2] w = .ok (decide (q ≠ 0)) w := by
    rw [e_dB, e_dBin, e_dBin, g1, bind_ok, e_dNeg, e_dC, bind_ok, e_neg, bind_ok, i, bind_ok, dt2, e_dC, bind_ok, e_dC, bind_ok, bind_ok, n, bind_ok, e_boolM]
  have pp : sPop 1 [s0, .ow (.lst (PR ++ [Q])), s2] w = .nx [s0, .ow (.lst PR), s2] w := by
    show (match some (PR ++ [Q]) with | some ds => if ds.isEmpty then Out.st else .nx (List.set [s0, .ow (.lst (PR ++ [Q])), s2] 1 (.ow (.lst ds.dropLast))) w | none => .st) = _
    have : (PR ++ [Q]).isEmpty = false := by cases PR <;> rfl
    simp only [this, List.dropLast_concat]
    rfl
  unfold thB
  rw [e_sSeq, e_sIf, c, obind_ok]
  by_cases hq : q = 0
  · rw [decide_eq_false (by simpa using hq), if_neg (by simp), e_sNil, e_sqn, if_neg (by simpa using hq), pp]
  · rw [decide_eq_true hq, if_pos rfl, e_sBreak, e_sqb, if_pos hq]
theorem th_for {s0 : Slot} {w : W} : ∀ (n : Nat) (ds : List D) (qs : List Rat) (s2 : Slot), ds.length = n → qs.length = n → ∃ (qs' : List Rat) (s2' : Slot), DL.forM (bName 2) thB ds [s0, .ow (.lst (qs.map fq)), s2] w = .nx [s0, .ow (.lst (qs'.map fq)), s2'] w ∧ (∀ q ∈ qs', q ∈ qs) ∧ qs'.length ≤ qs.length ∧ Ends0 qs' := by
  intro n
  induction n with
  | zero =>
    intro ds qs s2 hd hq
    obtain rfl := List.eq_nil_of_length_eq_zero hd
    obtain rfl := List.eq_nil_of_length_eq_zero hq
    exact ⟨[], s2, rfl, fun q h => h, Nat.le_refl _, .inl rfl⟩
  | succ n ih =>
    intro ds qs s2 hd hq
    obtain ⟨d, ds, rfl⟩ : ∃ d r, ds = d :: r := by
      cases ds with
      | nil => simp at hd
      | cons d r => exact ⟨d, r, rfl⟩
    obtain ⟨pre, q, rfl⟩ : ∃ pre q, qs = pre ++ [q] := by
      rcases List.eq_nil_or_concat qs with e | ⟨pre, q, e⟩
      · rw [e] at hq; simp at hq
      · exact ⟨pre, q, by rw [e, List.concat_eq_append]⟩
    have t := thB_at (pre := pre) (q := q) (s0 := s0) (s2 := .fz d) (w := w)
    by_cases hq0 : q = 0
    · rw [if_neg (by simpa using hq0)] at t
      obtain ⟨qs', s2', h1, h2, h3, h4⟩ := ih ds pre (.fz d) (by simpa using hd) (by simpa using hq)
      refine ⟨qs', s2', ?_, fun r hr => List.mem_append_left _ (h2 r hr), by simp; omega, h4⟩
      rw [for_nx (env1 := [s0, .ow (.lst ((pre ++ [q]).map fq)), .fz d]) rfl t, h1]
    · rw [if_pos hq0] at t
      refine ⟨pre ++ [q], .fz d, ?_, fun r hr => hr, Nat.le_refl _, .inr ⟨pre, q, rfl, hq0⟩⟩
      rw [for_bk (env1 := [s0, .ow (.lst ((pre ++ [q]).map fq)), .fz d]) rfl t]
theorem thin_eq : s__law_thin = sSeq (sOwn 1 [] (dUn listF (dVar 0))) (sSeq (sFor [] (dUn rng1 (dUn lenD (dVar 0))) (bName 2) thB) (sRet (dUn tupleD (dVar 1)))) := rfl
theorem thin_ok {qs : List Rat} (hz : qs.length ≤ 1000) {w : W} : ∃ qs', m__law_thin [.lst (qs.map fq)] w = .ok (polyQ qs') w ∧ (∀ q ∈ qs', q ∈ qs) ∧ qs'.length ≤ qs.length ∧ Ends0 qs' := by
  have r := DL.e_rng1 (j := (qs.map fq).length) (w := w) (by omega) (by rw [List.length_map]; omega)
  obtain ⟨qs', s2', h1, h2, h3, h4⟩ := th_for (s0 := .fz (.lst (qs.map fq))) (w := w) qs.length (rngL 0 1 ((qs.map fq).length : Int).toNat) qs .un (by rw [len_rng, List.length_map]; rfl) rfl
  refine ⟨qs', ?_, h2, h3, h4⟩
  generalize qs.map fq = L at *
  have e1 : sOwn 1 [] (dUn listF (dVar 0)) [.fz (.lst L), .un, .un] w = .nx [.fz (.lst L), .ow (.lst L), .un] w := rfl
  have e2 : (dUn rng1 (dUn lenD (dVar 0))) [.fz (.lst L), .ow (.lst L), .un] w = .ok (rngL 0 1 (L.length : Int).toNat) w := by
    have g0 : dVar 0 [.fz (.lst L), .ow (.lst L), .un] w = .ok (.lst L) w := rfl
    rw [e_dUn, e_dUn, g0, bind_ok, e_lenL, bind_ok, r]
  have e0 : m__law_thin [.lst L] w = endO (s__law_thin [.fz (.lst L), .un, .un] w) := by
    unfold m__law_thin
    rw [e_body]; rfl
  have e3 : sRet (dUn tupleD (dVar 1)) [.fz (.lst L), .ow (.lst (qs'.map fq)), s2'] w = .rt (polyQ qs') w := rfl
  rw [e0, thin_eq, e_sSeq, e1, e_sqn, e_sSeq, e_sFor, e2, obind_ok, e_frzs0, h1, e_sqn, e3, e_endr]
end K18
namespace K18
open PySem DL
theorem take1 (a b c n : Int) (hn : 0 < n) (hn2 : n < 2 ^ 60) (ha : 0 < a) : m__law_take [.box 0, .int n] [(a, b, c)] = .ok (.int (a % n)) [(a / n, b, c)] := by
  unfold m__law_take s__law_take
  rw [e_body]
  have h9 : n < 2 ^ 9000 := Int.lt_trans hn2 (by decide)
  simp (disch := first | assumption | omega) [ha, e_modp, e_divp]
theorem take0 (b c n : Int) (hn : 0 < n) (hn2 : n < 2 ^ 60) (hc : 0 ≤ c) (hc2 : c < 2 ^ 40) : ∃ x, m__law_take [.box 0, .int n] [(0, b, c)] = .ok (.int x) [(0, b, c + 1)] ∧ 0 ≤ x ∧ x < n := by
  unfold m__law_take s__law_take
  rw [e_body]
  have h9 : n < 2 ^ 9000 := Int.lt_trans hn2 (by decide)
  simp (disch := first | assumption | omega) [e_modp, e_divp, e_mull, e_mulr]
  exact ⟨Int.emod_nonneg _ (by omega), Int.emod_lt_of_pos _ hn⟩
theorem take_ok {w : W} {m n : Int} (h : BI w m) (hm : m < 2 ^ 40) (hn : 0 < n) (hn2 : n < 2 ^ 60) : ∃ x w', m__law_take [.box 0, .int n] w = .ok (.int x) w' ∧ 0 ≤ x ∧ x < n ∧ BI w' (m + 1) := by
  obtain ⟨a, b, c, rfl, h1, h2, h3⟩ := h
  by_cases ha : 0 < a
  · exact ⟨a % n, _, take1 a b c n hn hn2 ha, Int.emod_nonneg _ (by omega), Int.emod_lt_of_pos _ hn, a / n, b, c, rfl, Int.ediv_nonneg h1 (by omega), h2, by omega⟩
  · obtain rfl : a = 0 := by omega
    obtain ⟨x, e, h4, h5⟩ := take0 b c n hn hn2 h2 (by omega)
    exact ⟨x, _, e, h4, h5, 0, b, c + 1, rfl, by omega, by omega, by omega⟩
/-! lists of truths -/
theorem same_bl {k : Nat} {g h : Bool} {w : W} : m__law_same (k + 1) [.bl g, .bl h] w = .ok (.bl (decide (g = h))) w := by
  cases g <;> cases h <;> kernel_rfl
theorem zip_bls : ∀ l : List Bool, zipD (l.map .bl) (l.map .bl) = l.map fun b => .tup [.bl b, .bl b]
  | [] => rfl
  | b :: l => by simp only [List.map_cons, zipD, zip_bls l]
theorem same_bls {l : List Bool} {w : W} (h : l.length ≤ sizeLine) : m__law_same 40 [.lst (l.map .bl), .lst (l.map .bl)] w = .ok (.bl true) w := by
  show bodyD 4 (s__law_same (m__law_same 39)) _ w = _
  unfold s__law_same
  rw [e_body]
  have c := comp3_map (ac := []) (ac3 := [2, 3]) (vs := [2, 3]) (it := dBinF zipM (dVar 0) (dVar 1)) (b := bTup 2 (bCons (bName 2) (bCons (bName 3) bNil))) (κ := tYesM) (e := dCall 2 (m__law_same 39) (aCons (dVar 2) (aCons (dVar 3) aNil))) (env := [.fz (.lst (l.map .bl)), .fz (.lst (l.map .bl)), .un, .un]) (w := w) (ds := l.map fun b => .tup [.bl b, .bl b]) (fun _ => .bl true) rfl (by
      show Res.ok (zipD _ _) w = _
      rw [zip_bls]) (by simpa using h) rfl fun d hd => by
    obtain ⟨g, _, rfl⟩ := List.mem_map.mp hd
    refine ⟨[.fz (.lst (l.map .bl)), .fz (.lst (l.map .bl)), .fz (.bl g), .fz (.bl g)], rfl, rfl, ?_⟩
    simp only [dc2, e_dVar, g_0, g_s, e_getS, bind_ok]
    rw [same_bl]; simp
  have eq1 : eqD (.int (l.map D.bl).length) (.int (l.map D.bl).length) w = .ok (.bl true) w := by rw [e_eqI]; simp
  have nb : neD (.bl true) (.bl true) w = .ok (.bl false) w := by kernel_rfl
  have nb2 : neD (.bl false) (.bl false) w = .ok (.bl false) w := by kernel_rfl
  simp [-List.map_map, tyD, subTy, c, nb, nb2, e_allm (g := fun _ => true)]
def cellB : SM := (sSeq (sAsg (bName 5) [] (dBin modD (dUn toIntD (dVar 3)) (dVar 1))) (sSet 2 [] (dVar 5) (dBin addD (dBin ixD (dVar 2) (dVar 5)) (dBin mulD (dVar 4) (dBin addD (dVar 3) (dC (.int 2)))))))
theorem cellB_ok {s0 s5 : Slot} {c x : Int} {i : Nat} {w : W} (hi : i < 100) : cellB [s0, .fz (.int 1), .ow (.lst [.int c]), .fz (.int i), .fz (.int x), s5] w = .nx [s0, .fz (.int 1), .ow (.lst [.int (c + x * (i + 2))]), .fz (.int i), .fz (.int x), .fz (.int 0)] w := by
  have e1 : modD (.int (i : Int)) (.int 1) w = .ok (.int 0) w := by rw [e_modp (by omega), Int.emod_one]
  have e2 : ixD (.lst [.int c]) (.int 0) w = .ok (.int c) w := ix_l (by omega) rfl
  have e3 : mulD (.int x) (.int ((i : Int) + 2)) w = .ok (.int (x * ((i : Int) + 2))) w := e_mulr (by omega) (by omega)
  unfold cellB
  simp [sSet, e1, e2, e3, L2.ixN]
theorem cells_ok {ns : List Int} {w : W} (h : ns.length ≤ 63) : ∃ c : Int, m__law_cells [.scr ns, .int 1] w = .ok (.lst [.int c]) w := by
  have hs : ns.length ≤ sizeLine := sl_of (by omega)
  have z : ∀ k : Nat, k ≤ 16 → k ≤ sizeLine := fun k h => sl_of (by omega)
  obtain ⟨c0, hc⟩ : ∃ c0 : Int, (dOrF (dUn listF (dL (dSl slF (dVar 0) oNo (oSo (dVar 1))))) (dLst (aCons (dC (.int 0)) aNil))) [.fz (.scr ns), .fz (.int 1), .un, .un, .un, .un] w = .ok [.int c0] w := by
    cases ns with
    | nil => exact ⟨0, by kernel_rfl⟩
    | cons n ns =>
      refine ⟨n, ?_⟩
      have : slF (.scr (n :: ns)) none (some 1) w = .ok [.int n] w := by
        simp only [slF, hs, if_true, cut1_cons]
      simp [this, listF]
  obtain ⟨env', w', h1, c, s3, s4, s5, h2, h3⟩ := for_inv (b := bTup 2 (bCons (bName 3) (bCons (bName 4) bNil))) (τ := cellB) (fun _ env w' => ∃ (c : Int) (s3 s4 s5 : Slot), env = [.fz (.scr ns), .fz (.int 1), .ow (.lst [.int c]), s3, s4, s5] ∧ w' = w) (enumD 0 (cutG (ns.map D.int) (some 1) (some 63))) [] [.fz (.scr ns), .fz (.int 1), .ow (.lst [.int c0]), .un, .un, .un] w ⟨c0, .un, .un, .un, rfl, rfl⟩ (by
    rintro d hd acc env w' ⟨c, s3, s4, s5, rfl, rfl⟩
    obtain ⟨i, x, hi, hx, rfl⟩ := mem_enumD hd
    obtain ⟨x, -, rfl⟩ := List.mem_map.mp (cut_mem hx)
    have l := cutR_len (ds := ns.map D.int) (lo := some 1) (m := 63)
    have hi : i < (cutG (ns.map D.int) (some 1) (some ((63 : Nat) : Int))).length := hi
    refine ⟨[.fz (.scr ns), .fz (.int 1), .ow (.lst [.int c]), .fz (.int ((0 + i : Nat))), .fz (.int x), s5], _, w', rfl, .inl (cellB_ok (by omega)), _, _, _, _, rfl, rfl⟩)
  subst h2 h3
  refine ⟨c, ?_⟩
  have g : (dUn enumM (dL (dSl slF (dVar 0) (oSo (dVar 1)) (oSo (dC (.int 63)))))) [.fz (.scr ns), .fz (.int 1), .ow (.lst [.int c0]), .un, .un, .un] w' = .ok (enumD 0 (cutG (ns.map D.int) (some 1) (some 63))) w' := by
    have : slF (.scr ns) (some 1) (some 63) w' = .ok (cutG (ns.map D.int) (some 1) (some 63)) w' := by
      simp only [slF, hs, if_true]
    simp [this]
  show endO (seqO (sOwn 2 [] (dOrF (dUn listF (dL (dSl slF (dVar 0) oNo (oSo (dVar 1))))) (dLst (aCons (dC (.int 0)) aNil))) [.fz (.scr ns), .fz (.int 1), .un, .un, .un, .un] w') (sSeq (sFor [] (dUn enumM (dL (dSl slF (dVar 0) (oSo (dVar 1)) (oSo (dC (.int 63)))))) (bTup 2 (bCons (bName 3) (bCons (bName 4) bNil))) cellB) (sRet (dVar 2)))) = _
  rw [e_sOwn, hc, obind_ok, e_sqn]
  show endO (seqO (sFor [] (dUn enumM (dL (dSl slF (dVar 0) (oSo (dVar 1)) (oSo (dC (.int 63)))))) (bTup 2 (bCons (bName 3) (bCons (bName 4) bNil))) cellB [.fz (.scr ns), .fz (.int 1), .ow (.lst [.int c0]), .un, .un, .un] w') (sRet (dVar 2))) = _
  rw [e_sFor, g, obind_ok, e_frzs0, h1]
  rfl
theorem box_ok {c : Int} : ∃ w', m__law_box [.lst [.int c], .int 0] [] = .ok (.box 0) w' ∧ BI w' 0 := by
  have e2 : ∀ w, ixD (.lst [.int c]) (.int 0) w = .ok (.int c) w := fun w => ix_l (by omega) rfl
  have e3 : ∀ w, powD (.int 10) (.int 18) w = .ok (.int 1000000000000000000) w := fun w => by kernel_rfl
  have e4 : ∀ (i : Int) w, modD (.int i) (.int 2305843009213693951) w = .ok (.int (i % 2305843009213693951)) w := fun i w => e_modp (by omega)
  have e5 : ∀ (i : Int) (p : Prop) [Decidable p] w, mulD (.int i) (.int (if p then 1 else 0)) w = .ok (.int (i * (if p then 1 else 0))) w := fun i p _ w => e_mulr (by split <;> omega) (by split <;> omega)
  have e6 : ∀ w, mulD (.int 39373) (.int 0) w = .ok (.int 0) w := fun w => by kernel_rfl
  have z : ∀ k : Nat, k ≤ 16 → k ≤ sizeLine := fun k h => sl_of (by omega)
  have a := abs_nn c
  generalize hA : (if c < 0 then -c else c) = A at *
  refine ⟨[(A * (if 1000000000000000000 ≤ A then 1 else 0), c % 2305843009213693951 + 0 + 25155018, 0)], ?_, _, _, _, rfl, ?_, by omega, by omega⟩
  · unfold m__law_box s__law_box
    rw [e_body]
    have ab : ∀ w, absD (.int c) w = .ok (.int A) w := fun w => by rw [e_abs, hA]
    simp [ab, e2, e3, e4, e5, e6, z, -e_abs]
  · split <;> omega
end K18
namespace K18
open PySem DL
/-! drawn POLYS -/
theorem frac_ok {w : W} {m top : Int} {low : Nat} (h : BI w m) (hm : m < 2 ^ 39) (ht : 0 ≤ top) (ht2 : top ≤ 100) (hl : 1 ≤ low) (hl2 : low ≤ 12) : ∃ q w', m__law_some_fraction [.box 0, .int top, .int low] w = .ok (fq q) w' ∧ q.den ≤ 12 ∧ q.num.natAbs ≤ 100 ∧ q.den ≤ low ∧ BI w' (m + 2) := by
  obtain ⟨x, w1, e1, x0, x1, b1⟩ := take_ok (n := 2 * top + 1) h (by omega) (by omega) (by omega)
  obtain ⟨y, w2, e2, y0, y1, b2⟩ := take_ok (n := (low : Int)) b1 (by omega) (by omega) (by omega)
  obtain ⟨k, hk⟩ := Int.eq_ofNat_of_zero_le (show 0 ≤ 1 + y by omega)
  have k0 : k ≠ 0 := by omega
  have s := lslim_ok (n := x - top) (w := w2) k0 (Nat.lt_of_lt_of_le (show k < 2 ^ 10 by omega) (Nat.pow_le_pow_right (by omega) (by omega)))
  obtain ⟨a1, a2⟩ := mk_num (n := x - top) k0
  refine ⟨mkRat (x - top) k, w2, ?_, by omega, by omega, by omega, b2.mono (by omega)⟩
  have mm : mulD (.int 2) (.int top) w = .ok (.int (2 * top)) w := e_mull (by omega) (by omega)
  rw [← hk] at s
  clear a1 a2 b1 b2 h
  generalize fq (mkRat (x - top) k) = R at *
  generalize (low : Int) = LO at *
  have g0 : ∀ w, dVar 0 [.fz (.box 0), .fz (.int top), .fz (.int LO)] w = .ok (.box 0) w := fun _ => rfl
  have g1 : ∀ w, dVar 1 [.fz (.box 0), .fz (.int top), .fz (.int LO)] w = .ok (.int top) w := fun _ => rfl
  have g2 : ∀ w, dVar 2 [.fz (.box 0), .fz (.int top), .fz (.int LO)] w = .ok (.int LO) w := fun _ => rfl
  show endO (sRet (dCall 2 m__law_slim (aCons (dBin subD (dCall 2 m__law_take (aCons (dVar 0) (aCons (dBin addD (dBin mulD (dC (.int 2)) (dVar 1)) (dC (.int 1))) aNil))) (dVar 1)) (aCons (dBin addD (dC (.int 1)) (dCall 2 m__law_take (aCons (dVar 0) (aCons (dVar 2) aNil)))) aNil))) [.fz (.box 0), .fz (.int top), .fz (.int LO)] w) = _
  generalize m__law_slim = F1 at *
  generalize m__law_take = F2 at *
  rw [e_sRet, dc2, e_dBin, dc2, g0, bind_ok, e_dBin, e_dBin, e_dC, bind_ok, g1, bind_ok, mm, bind_ok, e_dC, bind_ok, e_add, bind_ok, e1, bind_ok, g1, bind_ok, e_sub, bind_ok, e_dBin, e_dC, bind_ok, dc2, g0, bind_ok, g2, bind_ok, e2, bind_ok, e_add, bind_ok, s, obind_ok, e_endr]
theorem poly_draw {w : W} {m deg top : Int} {low : Nat} (h : BI w m) (hm : m < 2 ^ 38) (hd : 0 ≤ deg) (hd2 : deg ≤ 5) (ht : 0 ≤ top) (ht2 : top ≤ 100) (hl : 1 ≤ low) (hl2 : low ≤ 12) : ∃ qs w', m__law_some_poly [.box 0, .int deg, .int top, .int low] w = .ok (polyQ qs) w' ∧ OkQ qs ∧ Ends0 qs ∧ BI w' (m + 20) ∧ (∀ q ∈ qs, q.den ≤ low) ∧ (qs.length : Int) ≤ deg + 1 := by
  obtain ⟨x, w1, e1, x0, x1, b1⟩ := take_ok (n := deg + 2) h (by omega) (by omega) (by omega)
  have r := DL.e_rng1 (j := x) (w := w1) (by omega) (by omega)
  have hr : (dUn rng1 (dCall 2 m__law_take (aCons (dVar 0) (aCons (dBin addD (dVar 1) (dC (.int 2))) aNil)))) [.fz (.box 0), .fz (.int deg), .fz (.int top), .fz (.int low), .un] w = .ok (rngL 0 1 x.toNat) w1 := by
    have g0 : dVar 0 [.fz (.box 0), .fz (.int deg), .fz (.int top), .fz (.int low), .un] w = .ok (.box 0) w := rfl
    have g1 : dVar 1 [.fz (.box 0), .fz (.int deg), .fz (.int top), .fz (.int low), .un] w = .ok (.int deg) w := rfl
    generalize m__law_take = F at *
    rw [e_dUn, dc2, g0, bind_ok, e_dBin, g1, bind_ok, e_dC, bind_ok, e_add, bind_ok, e1, bind_ok, r]
  obtain ⟨ys, w', h1, h2, qs, h3, h4, h5⟩ := comp3_inv3 (ac := []) (ac3 := [0, 2, 3]) (vs := [4]) (b := bName 4) (κ := tYesM) (e := dCall 3 m__law_some_fraction (aCons (dVar 0) (aCons (dVar 2) (aCons (dVar 3) aNil)))) (fun acc w => ∃ qs : List Rat, acc = qs.map fq ∧ (∀ q ∈ qs, (q.den ≤ 12 ∧ q.num.natAbs ≤ 100) ∧ q.den ≤ low) ∧ BI w (m + 1 + 2 * acc.length)) rfl hr (by rw [len_rng]; exact sl_of (by omega)) rfl ⟨[], rfl, by simp, by simpa using b1⟩ (by
    rintro d hd acc w ha ⟨qs, rfl, h4, h5⟩
    rw [len_rng] at ha
    rw [List.length_map] at h5 ha
    obtain ⟨q, w', e, q1, q2, q3, bi⟩ := frac_ok (top := top) h5 (by omega) ht ht2 hl hl2
    refine ⟨[.fz (.box 0), .fz (.int deg), .fz (.int top), .fz (.int low), .fz d], fq q, w', rfl, rfl, ?_, qs ++ [q], by simp, fun p hp => ?_, bi.mono (by simp; omega)⟩
    · have g0 : dVar 0 [.fz (.box 0), .fz (.int deg), .fz (.int top), .fz (.int low), .fz d] w = .ok (.box 0) w := rfl
      have g2 : dVar 2 [.fz (.box 0), .fz (.int deg), .fz (.int top), .fz (.int low), .fz d] w = .ok (.int top) w := rfl
      have g3 : dVar 3 [.fz (.box 0), .fz (.int deg), .fz (.int top), .fz (.int low), .fz d] w = .ok (.int low) w := rfl
      rw [dc3, g0, bind_ok, g2, bind_ok, g3, bind_ok, e]
    · rcases List.mem_append.mp hp with hp | hp
      · exact h4 p hp
      · rw [List.mem_singleton.mp hp]; exact ⟨⟨q1, q2⟩, q3⟩)
  subst h3
  rw [List.length_map] at h2 h5
  rw [len_rng] at h2
  obtain ⟨qs', t1, t2, t3, t4⟩ := thin_ok (qs := qs) (by omega) (w := w')
  refine ⟨qs', w', ?_, ⟨by omega, fun q hq => (h4 q (t2 q hq)).1⟩, t4, h5.mono (by omega), fun q hq => (h4 q (t2 q hq)).2, by omega⟩
  have e0 : m__law_some_poly [.box 0, .int deg, .int top, .int low] w = endO (s__law_some_poly [.fz (.box 0), .fz (.int deg), .fz (.int top), .fz (.int low), .un] w) := by
    unfold m__law_some_poly
    rw [e_body]; rfl
  have e2 : s__law_some_poly = sRet (dCall 1 m__law_thin (aCons (dL (dComp3 [] [0, 2, 3] [4] (dUn rng1 (dCall 2 m__law_take (aCons (dVar 0) (aCons (dBin addD (dVar 1) (dC (.int 2))) aNil)))) (bName 4) tYesM (dCall 3 m__law_some_fraction (aCons (dVar 0) (aCons (dVar 2) (aCons (dVar 3) aNil)))))) aNil)) := rfl
  rw [e0, e2, e_sRet, dc1, e_dL, h1, bind_ok, bind_ok, t1, obind_ok, e_endr]
/-! the program takes them -/
theorem is_number_ok {d : D} {t : String} {w : W} (h : tyD d = some t) : m_is_number [d] w = .ok (.bl (decide (t = "int"))) w := by
  unfold m_is_number s_is_number
  rw [e_body]
  cases d <;> cases h <;> rfl
theorem are_numbers_ok {l : List Int} {w : W} (h : l.length ≤ sizeLine) : m_are_numbers [.tup (l.map .int)] w = .ok (.bl true) w := by
  unfold m_are_numbers s_are_numbers
  rw [e_body]
  have c := comp3_map (ac := []) (ac3 := [1]) (vs := [1]) (it := dUn seqM (dVar 0)) (b := bName 1) (κ := tYesM) (e := dCall 1 m_is_number (aCons (dVar 1) aNil)) (env := [.fz (.tup (l.map .int)), .un]) (w := w) (fun _ => .bl true) rfl rfl (by simpa using h) rfl fun d hd => by
    obtain ⟨i, _, rfl⟩ := List.mem_map.mp hd
    refine ⟨[.fz (.tup (l.map .int)), .fz (.int i)], rfl, rfl, ?_⟩
    simp only [dc1, e_dVar, g_0, g_s, e_getS, bind_ok]
    exact is_number_ok (d := .int i) rfl
  show endO (sRet _ [.fz (.tup (l.map .int)), .un] w) = _
  simp [-List.map_map, tyD, subTy, c, e_allm (g := fun _ => true)]
theorem tupled_int {k : Nat} {i : Int} {w : W} : m_tupled (k + 1) [.int i] w = .ok (.int i) w := rfl
theorem tupled_of {k : Nat} {ds : List D} {w : W} (hz : ds.length ≤ sizeLine) (ht : ∀ d ∈ ds, m_tupled k [d] w = .ok d w) : m_tupled (k + 1) [.tup ds] w = .ok (.tup ds) w := by
  show bodyD 2 (s_tupled (m_tupled k)) _ w = _
  generalize m_tupled k = T at *
  unfold s_tupled
  rw [e_body]
  have c := comp3_map (ac := []) (ac3 := [1]) (vs := [1]) (it := dUn seqM (dVar 0)) (b := bName 1) (κ := tYesM) (e := dCall 1 T (aCons (dVar 1) aNil)) (env := [.fz (.tup ds), .un]) (w := w) id rfl rfl hz rfl fun d hd => by
    refine ⟨[.fz (.tup ds), .fz d], rfl, rfl, ?_⟩
    simp only [dc1, e_dVar, g_0, g_s, e_getS, bind_ok]
    exact ht d hd
  simp [-List.map_map, tyD, subTy, c]
theorem tupled_ints {k : Nat} {l : List Int} {w : W} (h : l.length ≤ sizeLine) : m_tupled (k + 2) [.tup (l.map .int)] w = .ok (.tup (l.map .int)) w :=
  tupled_of (by simpa using h) fun d hd => by
    obtain ⟨i, _, rfl⟩ := List.mem_map.mp hd
    exact tupled_int
theorem is_long_ok {ds : List D} {n : Int} {w : W} : m_is_long [.tup ds, .int n] w = .ok (.bl (decide ((ds.length : Int) = n))) w := by
  unfold m_is_long s_is_long
  rw [e_body]
  simp [tyD, subTy]
theorem is_frac_ok {q : Rat} (h : q.den < 2 ^ 60) {w : W} : m_is_fraction [fq q] w = .ok (.bl true) w := by
  have l : m_is_long [.tup [.int q.num, .int q.den], .int 2] w = .ok (.bl true) w := is_long_ok (ds := [.int q.num, .int q.den]) (n := 2) (w := w)
  have a : m_are_numbers [.tup [.int q.num, .int q.den]] w = .ok (.bl true) w := are_numbers_ok (l := [q.num, (q.den : Int)]) (sl_of (by simp))
  have c := common_ok (a := q.num) (b := q.den) (w := w) (by simp; omega)
  have g1 : Int.gcd q.num q.den = 1 := q.reduced
  rw [g1] at c
  have dp : (0 : Int) < q.den := by have := q.den_pos; omega
  unfold fq
  have gt : gtD (.int (q.den : Int)) (.int 0) w = .ok (.bl true) w := by rw [e_gt, decide_eq_true dp]
  clear g1 dp
  generalize (q.den : Int) = B at *
  generalize q.num = A at *
  have g0 : dVar 0 [.fz (.tup [.int A, .int B])] w = .ok (.tup [.int A, .int B]) w := rfl
  show endO (sRet (dAnd (dCall 2 m_is_long (aCons (dVar 0) (aCons (dC (.int 2)) aNil))) (dAnd (dCall 1 m_are_numbers (aCons (dVar 0) aNil)) (dAnd (dBin gtD (dBin ixD (dVar 0) (dC (.int 1))) (dC (.int 0))) (dBin eqD (dCall 2 m_common_of (aCons (dBin ixD (dVar 0) (dC (.int 0))) (aCons (dBin ixD (dVar 0) (dC (.int 1))) aNil))) (dC (.int 1)))))) [.fz (.tup [.int A, .int B])] w) = _
  generalize m_is_long = F1 at *
  generalize m_are_numbers = F2 at *
  generalize m_common_of = F3 at *
  rw [e_sRet, e_dAnd, dc2, g0, bind_ok, e_dC, bind_ok, l, bind_ok, e_truB, bind_ok, if_pos rfl, e_dAnd, dc1, g0, bind_ok, a, bind_ok, e_truB, bind_ok, if_pos rfl, e_dAnd, e_dBin, e_dBin, g0, bind_ok, e_dC, bind_ok, ix_t1, bind_ok, e_dC, bind_ok, gt, bind_ok, e_truB, bind_ok, if_pos rfl, e_dBin, dc2, e_dBin, g0, bind_ok, e_dC, bind_ok, ix_t0, bind_ok, e_dBin, g0, bind_ok, e_dC, bind_ok, ix_t1, bind_ok, c, bind_ok, e_dC, bind_ok, e_eqI, obind_ok, e_endr]
  rfl
theorem is_poly_ok {qs : List Rat} (h : OkQ qs) (he : Ends0 qs) {w : W} : m_is_poly [polyQ qs] w = .ok (.bl true) w := by
  have hz : (qs.map fq).length ≤ sizeLine := by rw [List.length_map]; exact sl_of (by have := h.1; omega)
  have c := comp3_map (ac := []) (ac3 := [1]) (vs := [1]) (it := dUn seqM (dVar 0)) (b := bName 1) (κ := tYesM) (e := dCall 1 m_is_fraction (aCons (dVar 1) aNil)) (env := [.fz (polyQ qs), .un]) (w := w) (fun _ => .bl true) rfl rfl hz rfl fun d hd => by
    obtain ⟨q, hq, rfl⟩ := List.mem_map.mp hd
    refine ⟨[.fz (polyQ qs), .fz (fq q)], rfl, rfl, ?_⟩
    simp only [dc1, e_dVar, g_0, g_s, e_getS, bind_ok]
    exact is_frac_ok (by have := (h.2 q hq).1; omega)
  have en : eqD (polyQ qs) (.tup []) w = .ok (.bl qs.isEmpty) w := by
    have := eq_noneT (l := qs.map fq) (fun d hd => by
      obtain ⟨q, hq, rfl⟩ := List.mem_map.mp hd
      exact plain_fq q) (w := w)
    rw [List.isEmpty_map] at this
    exact this
  have al : allD (.lst ((qs.map fq).map fun _ => D.bl true)) w = .ok (.bl true) w := by
    rw [e_allm (g := fun _ => true)]; simp
  have g0 : dVar 0 [.fz (polyQ qs), .un] w = .ok (polyQ qs) w := rfl
  have ty : isiD ["tuple"] (polyQ qs) w = .ok (.bl true) w := by simp [polyQ, tyD, subTy]
  have last : qs.isEmpty = false → (dBin neD (dBin ixD (dVar 0) (dNeg (dC (.int 1)))) (dC k_NOUGHT)) [.fz (polyQ qs), .un] w = .ok (.bl true) w := by
    intro hne
    rcases he with e | ⟨pre, q, e, hq⟩
    · rw [e] at hne; simp at hne
    · have i : ixD (polyQ qs) (.int (-1)) w = .ok (fq q) w := by
        unfold polyQ
        rw [e, List.map_append]
        exact ix_lastT
      have n := fq_ne (q := q) (w := w)
      rw [decide_eq_true hq] at n
      rw [e_dBin, e_dBin, g0, bind_ok, e_dNeg, e_dC, bind_ok, e_neg, bind_ok, i, bind_ok, e_dC, bind_ok]
      exact n
  have e0 : m_is_poly [polyQ qs] w = endO (s_is_poly [.fz (polyQ qs), .un] w) := by
    unfold m_is_poly
    rw [e_body]; rfl
  have e1 : s_is_poly = sSeq (sIf (dOrT (dNotT (dTru (dUn (isiD ["tuple"]) (dVar 0)))) (dNotT (dTru (dUn allD (dL (dComp3 [] [1] [1] (dUn seqM (dVar 0)) (bName 1) tYesM (dCall 1 m_is_fraction (aCons (dVar 1) aNil)))))))) (sRet (dC (.bl false))) sNil) (sRet (dOr (dBin eqD (dVar 0) (dTup aNil)) (dBin neD (dBin ixD (dVar 0) (dNeg (dC (.int 1)))) (dC k_NOUGHT)))) := rfl
  rw [e0, e1, e_sSeq, e_sIf, e_dOrT, e_dNotT, e_dTru, e_dUn, g0, bind_ok, ty, bind_ok, e_truB, bind_ok, bind_ok]
  show endO (seqO (Out.bind (dNotT (dTru (dUn allD (dL _))) _ _) _) _) = _
  rw [e_dNotT, e_dTru, e_dUn, e_dL, c, bind_ok, bind_ok, al, bind_ok, e_truB, bind_ok, obind_ok]
  show endO (sRet (dOr _ _) [.fz (polyQ qs), .un] w) = _
  rw [e_sRet, e_dOr, e_dBin, g0, bind_ok, dt0, bind_ok, en, bind_ok, e_truB, bind_ok]
  cases hq : qs.isEmpty with
  | true => rfl
  | false =>
    show endO (Out.bind (dBin neD (dBin ixD (dVar 0) (dNeg (dC (.int 1)))) (dC k_NOUGHT) [.fz (polyQ qs), .un] w) _) = _
    rw [last hq]; rfl
theorem sure_poly_ok {qs : List Rat} (h : OkQ qs) (he : Ends0 qs) {w : W} : m_sure_poly [polyQ qs] w = .ok (polyQ qs) w := by
  have hz : (qs.map fq).length ≤ sizeLine := by rw [List.length_map]; exact sl_of (by have := h.1; omega)
  have t : m_tupled 40 [polyQ qs] w = .ok (polyQ qs) w := tupled_of hz fun d hd => by
    obtain ⟨q, hq, rfl⟩ := List.mem_map.mp hd
    exact tupled_ints (k := 37) (l := [q.num, (q.den : Int)]) (sl_of (by simp))
  have ip := is_poly_ok h he (w := w)
  have c := comp3_map (ac := []) (ac3 := []) (vs := [2]) (it := dUn seqM (dVar 1)) (b := bName 2) (κ := tYesM) (e := (dOr (dBin gtD (dUn absD (dBin ixD (dVar 2) (dC (.int 0)))) (dC k_MOST_ENTRY)) (dBin gtD (dBin ixD (dVar 2) (dC (.int 1))) (dC k_MOST_ENTRY)))) (env := [.fz (polyQ qs), .fz (polyQ qs), .un]) (w := w) (fun _ => .bl false) rfl rfl hz rfl fun d hd => by
    obtain ⟨q, hq, rfl⟩ := List.mem_map.mp hd
    refine ⟨[.fz (polyQ qs), .fz (polyQ qs), .fz (fq q)], rfl, rfl, ?_⟩
    obtain ⟨b1, b2⟩ := h.2 q hq
    have x1 : ¬ (1000000000000000000000000000000 < (if q.num < 0 then -q.num else q.num)) := by split <;> omega
    have x2 : ¬ ((1000000000000000000000000000000 : Int) < (q.den : Int)) := by omega
    unfold fq
    generalize polyQ qs = P at *
    generalize (q.den : Int) = B at *
    generalize q.num = A at *
    have g2 : dVar 2 [.fz P, .fz P, .fz (.tup [.int A, .int B])] w = .ok (.tup [.int A, .int B]) w := rfl
    rw [e_dOr, e_dBin, e_dUn, e_dBin, g2, bind_ok, e_dC, bind_ok, ix_t0, bind_ok, e_abs, bind_ok, e_dC, bind_ok, k_MOST_ENTRY, e_gt, decide_eq_false x1, bind_ok, e_truB, bind_ok, if_neg (by simp), e_dBin, e_dBin, g2, bind_ok, e_dC, bind_ok, ix_t1, bind_ok, e_dC, bind_ok, e_gt, decide_eq_false x2]
  have an : anyD (.lst ((qs.map fq).map fun _ => D.bl false)) w = .ok (.bl false) w := by
    rw [e_anym (g := fun _ => false)]; simp
  have gtl : gtD (.int ((qs.map fq).length : Int)) (.int 41) w = .ok (.bl false) w := by
    rw [e_gt, decide_eq_false (by rw [List.length_map]; have := h.1; omega)]
  have ln : lenD (polyQ qs) w = .ok (.int ((qs.map fq).length : Int)) w := rfl
  have g0 : dVar 0 [.fz (polyQ qs), .un, .un] w = .ok (polyQ qs) w := rfl
  have e0 : m_sure_poly [polyQ qs] w = endO (s_sure_poly [.fz (polyQ qs), .un, .un] w) := by
    unfold m_sure_poly
    rw [e_body]; rfl
  generalize polyQ qs = P at *
  generalize ((qs.map fq).map fun _ => D.bl false) = FL at *
  generalize ((qs.map fq).length : Int) = LN at *
  have g1 : dVar 1 [.fz P, .fz P, .un] w = .ok P w := rfl
  have e1 : s_sure_poly = sSeq (sAsg (bName 1) [0] (dCall 1 (m_tupled 40) (aCons (dVar 0) aNil))) (sSeq (sIf (dOrT (dNotT (dTru (dCall 1 m_is_poly (aCons (dVar 1) aNil)))) (dB (dBin gtD (dUn lenD (dVar 1)) (dBin addD (dC k_MOST_DEGREE) (dC (.int 1)))))) (sRaise ⟨"Unfit", none⟩) sNil) (sSeq (sIf (dTru (dUn anyD (dL (dComp3 [] [] [2] (dUn seqM (dVar 1)) (bName 2) tYesM (dOr (dBin gtD (dUn absD (dBin ixD (dVar 2) (dC (.int 0)))) (dC k_MOST_ENTRY)) (dBin gtD (dBin ixD (dVar 2) (dC (.int 1))) (dC k_MOST_ENTRY))))))) (sRaise ⟨"Unfit", none⟩) sNil) (sRet (dVar 1)))) := rfl
  have s1 : (sAsg (bName 1) [0] (dCall 1 (m_tupled 40) (aCons (dVar 0) aNil))) [.fz P, .un, .un] w = .nx [.fz P, .fz P, .un] w := by
    generalize m_tupled 40 = T at *
    rw [e_sAsg, dc1, g0, bind_ok, t, obind_ok]; rfl
  have s2 : (sIf (dOrT (dNotT (dTru (dCall 1 m_is_poly (aCons (dVar 1) aNil)))) (dB (dBin gtD (dUn lenD (dVar 1)) (dBin addD (dC k_MOST_DEGREE) (dC (.int 1)))))) (sRaise ⟨"Unfit", none⟩) sNil) [.fz P, .fz P, .un] w = .nx [.fz P, .fz P, .un] w := by
    generalize m_is_poly = F at *
    rw [e_sIf, e_dOrT, e_dNotT, e_dTru, dc1, g1, bind_ok, ip, bind_ok, e_truB, bind_ok, bind_ok]
    show Out.bind (dB (dBin gtD (dUn lenD (dVar 1)) (dBin addD (dC k_MOST_DEGREE) (dC (.int 1)))) [.fz P, .fz P, .un] w) _ = _
    rw [e_dB, e_dBin, e_dUn, g1, bind_ok, ln, bind_ok, e_dBin, e_dC, bind_ok, e_dC, bind_ok, k_MOST_DEGREE, e_add, bind_ok]
    show Out.bind ((gtD (.int LN) (.int 41) w).bind boolM) _ = _
    rw [gtl]; rfl
  have s3 : (sIf (dTru (dUn anyD (dL (dComp3 [] [] [2] (dUn seqM (dVar 1)) (bName 2) tYesM (dOr (dBin gtD (dUn absD (dBin ixD (dVar 2) (dC (.int 0)))) (dC k_MOST_ENTRY)) (dBin gtD (dBin ixD (dVar 2) (dC (.int 1))) (dC k_MOST_ENTRY))))))) (sRaise ⟨"Unfit", none⟩) sNil) [.fz P, .fz P, .un] w = .nx [.fz P, .fz P, .un] w := by
    rw [e_sIf, e_dTru, e_dUn, e_dL, c, bind_ok, bind_ok, an, bind_ok, e_truB, obind_ok]; rfl
  rw [e0, e1, e_sSeq, s1, e_sqn, e_sSeq, s2, e_sqn, e_sSeq, s3, e_sqn, e_sRet, g1, obind_ok, e_endr]
theorem sure_low_ok {qs : List Rat} (h : OkQ qs) (he : Ends0 qs) {w : W} : m_sure_low [polyQ qs] w = .ok (polyQ qs) w := by
  have s := sure_poly_ok h he (w := w)
  have gtl : gtD (.int ((qs.map fq).length : Int)) (.int 25) w = .ok (.bl false) w := by
    rw [e_gt, decide_eq_false (by rw [List.length_map]; have := h.1; omega)]
  have ln : lenD (polyQ qs) w = .ok (.int ((qs.map fq).length : Int)) w := rfl
  have e0 : m_sure_low [polyQ qs] w = endO (s_sure_low [.fz (polyQ qs), .un] w) := by
    unfold m_sure_low
    rw [e_body]; rfl
  generalize polyQ qs = P at *
  generalize ((qs.map fq).length : Int) = LN at *
  have g0 : dVar 0 [.fz P, .un] w = .ok P w := rfl
  have g1 : dVar 1 [.fz P, .fz P] w = .ok P w := rfl
  have e1 : s_sure_low = sSeq (sAsg (bName 1) [0] (dCall 1 m_sure_poly (aCons (dVar 0) aNil))) (sSeq (sIf (dB (dBin gtD (dUn lenD (dVar 1)) (dBin addD (dC k_MOST_BASE) (dC (.int 1))))) (sRaise ⟨"Unfit", none⟩) sNil) (sRet (dVar 1))) := rfl
  have s1 : (sAsg (bName 1) [0] (dCall 1 m_sure_poly (aCons (dVar 0) aNil))) [.fz P, .un] w = .nx [.fz P, .fz P] w := by
    rw [e_sAsg, dc1, g0, bind_ok, s, obind_ok]; rfl
  have s2 : (sIf (dB (dBin gtD (dUn lenD (dVar 1)) (dBin addD (dC k_MOST_BASE) (dC (.int 1))))) (sRaise ⟨"Unfit", none⟩) sNil) [.fz P, .fz P] w = .nx [.fz P, .fz P] w := by
    rw [e_sIf, e_dB, e_dBin, e_dUn, g1, bind_ok, ln, bind_ok, e_dBin, e_dC, bind_ok, e_dC, bind_ok, k_MOST_BASE, e_add, bind_ok]
    show Out.bind ((gtD (.int LN) (.int 25) w).bind boolM) _ = _
    rw [gtl]; rfl
  rw [e0, e1, e_sSeq, s1, e_sqn, e_sSeq, s2, e_sqn, e_sRet, g1, obind_ok, e_endr]
end K18
namespace K18
open PySem DL
/-! SETS -/
def setD (b : Int) (rs ms : List Int) : D := .tup [.int b, .tup (rs.map .int), .tup (ms.map .int)]
structure GoodS (b : Int) (rs ms : List Int) : Prop where
  b1 : 1 ≤ b
  b2 : b ≤ 16
  rr : ∀ r ∈ rs, 0 ≤ r ∧ r < b
  ra : rs.Pairwise (· < ·)
  rn : rs = [] → b = 1
  mn : ∀ small, 1 ≤ small → small < b → b % small = 0 → sset (rs.map fun r => (r + small) % b) ≠ rs
  ma : ms.Pairwise (· < ·)
  ml : ms.length ≤ 30
  rl : rs.length ≤ 30
  mb : ∀ m ∈ ms, m.natAbs ≤ 1000
  mr : ∀ m ∈ ms, m % b ∉ rs
  ne : rs ≠ [] ∨ ms ≠ []
def tsB : SM := (sIf (dAndT (dB (dBin eqD (dBin modD (dVar 0) (dVar 4)) (dC (.int 0)))) (dB (dBin eqD (dL (dUn ssetF (dL (dComp3 [] [] [5] (dUn seqM (dVar 3)) (bName 5) tYesM (dBin modD (dBin addD (dVar 5) (dVar 4)) (dVar 0)))))) (dVar 3)))) (sSeq (sAsg (bTup 2 (bCons (bName 3) (bCons (bName 0) bNil))) [4] (dTup (aCons (dL (dUn ssetF (dL (dComp3 [] [] [5] (dUn seqM (dVar 3)) (bName 5) tYesM (dBin modD (dVar 5) (dVar 4)))))) (aCons (dVar 4) aNil)))) sBreak) sNil)
theorem ts_eq : s_told_set = sSeq (sAsg (bName 3) [] (dL (dUn ssetF (dL (dComp3 [] [] [5] (dUn seqM (dVar 1)) (bName 5) tYesM (dBin modD (dVar 5) (dVar 0))))))) (sSeq (sIf (dB (dBin eqD (dVar 3) (dL (dLst aNil)))) (sAsg (bName 0) [] (dC (.int 1))) sNil) (sSeq (sFor [] (dBinF rng2 (dC (.int 1)) (dVar 0)) (bName 4) tsB) (sRet (dTup (aCons (dVar 0) (aCons (dUn tupleD (dVar 3)) (aCons (dUn tupleD (dL (dUn ssetF (dL (dComp3 [] [5] [5] (dUn seqM (dVar 2)) (bName 5) (dB (dBin (inD true) (dBin modD (dVar 5) (dVar 0)) (dVar 3))) (dVar 5)))))) aNil))))))) := rfl
theorem tsB_ok {b : Int} {rs ms : List Int} (G : GoodS b rs ms) {A B : D} {small : Int} (h1 : 1 ≤ small) (h2 : small < b) {w : W} : tsB [.fz (.int b), .fz A, .fz B, .fz (.lst (rs.map .int)), .fz (.int small), .un] w = .nx [.fz (.int b), .fz A, .fz B, .fz (.lst (rs.map .int)), .fz (.int small), .un] w := by
  have b0 : 0 < b := by have := G.b1; omega
  have md : modD (.int b) (.int small) w = .ok (.int (b % small)) w := e_modp (by omega)
  have c := comp_ints (ac := []) (ac3 := []) (vs := [5]) (it := dUn seqM (dVar 3)) (b := bName 5) (e := dBin modD (dBin addD (dVar 5) (dVar 4)) (dVar 0)) (env := [.fz (.int b), .fz A, .fz B, .fz (.lst (rs.map .int)), .fz (.int small), .un]) (w := w) (l := rs) (fun r => (r + small) % b) rfl rfl (by have := G.rl; omega) rfl fun i hi => by
    refine ⟨[.fz (.int b), .fz A, .fz B, .fz (.lst (rs.map .int)), .fz (.int small), .fz (.int i)], rfl, ?_⟩
    have m : modD (.int (i + small)) (.int b) w = .ok (.int ((i + small) % b)) w := e_modp b0
    generalize D.lst (rs.map .int) = L at *
    have g5 : dVar 5 [.fz (.int b), .fz A, .fz B, .fz L, .fz (.int small), .fz (.int i)] w = .ok (.int i) w := rfl
    have g4 : dVar 4 [.fz (.int b), .fz A, .fz B, .fz L, .fz (.int small), .fz (.int i)] w = .ok (.int small) w := rfl
    have g0 : dVar 0 [.fz (.int b), .fz A, .fz B, .fz L, .fz (.int small), .fz (.int i)] w = .ok (.int b) w := rfl
    rw [e_dBin, e_dBin, g5, bind_ok, g4, bind_ok, e_add, bind_ok, g0, bind_ok, m]
  have se := e_sset (l := rs.map fun r => (r + small) % b) (by rw [List.length_map]; have := G.rl; omega) (w := w)
  have eq := e_eqLI (l := sset (rs.map fun r => (r + small) % b)) (m := rs) (w := w)
  have g0 : dVar 0 [.fz (.int b), .fz A, .fz B, .fz (.lst (rs.map .int)), .fz (.int small), .un] w = .ok (.int b) w := rfl
  have g3 : dVar 3 [.fz (.int b), .fz A, .fz B, .fz (.lst (rs.map .int)), .fz (.int small), .un] w = .ok (.lst (rs.map .int)) w := rfl
  have g4 : dVar 4 [.fz (.int b), .fz A, .fz B, .fz (.lst (rs.map .int)), .fz (.int small), .un] w = .ok (.int small) w := rfl
  unfold tsB
  rw [e_sIf, e_dAndT, e_dB, e_dBin, e_dBin, g0, bind_ok, g4, bind_ok, md, bind_ok, e_dC, bind_ok, e_eqI, bind_ok, e_boolM, bind_ok]
  by_cases hd : b % small = 0
  · rw [decide_eq_true hd, if_pos rfl, e_dB, e_dBin, e_dL, e_dUn, e_dL, c, bind_ok, bind_ok, se, bind_ok, bind_ok, g3, bind_ok, eq, decide_eq_false (G.mn small h1 h2 hd), bind_ok, e_boolM, obind_ok]
    rfl
  · rw [decide_eq_false hd, if_neg (by simp), obind_ok]
    rfl
theorem told_ok {b : Int} {rs ms : List Int} (G : GoodS b rs ms) {w : W} : m_told_set [.int b, .tup (rs.map .int), .tup (ms.map .int)] w = .ok (setD b rs ms) w := by
  have b0 : 0 < b := by have := G.b1; omega
  have b16 := G.b2
  have rl := G.rl
  have c1 := comp_ints (ac := []) (ac3 := []) (vs := [5]) (it := dUn seqM (dVar 1)) (b := bName 5) (e := dBin modD (dVar 5) (dVar 0)) (env := [.fz (.int b), .fz (.tup (rs.map .int)), .fz (.tup (ms.map .int)), .un, .un, .un]) (w := w) (l := rs) (fun r => r) rfl rfl (by omega) rfl fun i hi => by
    refine ⟨[.fz (.int b), .fz (.tup (rs.map .int)), .fz (.tup (ms.map .int)), .un, .un, .fz (.int i)], rfl, ?_⟩
    have m : modD (.int i) (.int b) w = .ok (.int i) w := by rw [e_modp b0, Int.emod_eq_of_lt (G.rr i hi).1 (G.rr i hi).2]
    have g5 : dVar 5 [.fz (.int b), .fz (.tup (rs.map .int)), .fz (.tup (ms.map .int)), .un, .un, .fz (.int i)] w = .ok (.int i) w := rfl
    have g0 : dVar 0 [.fz (.int b), .fz (.tup (rs.map .int)), .fz (.tup (ms.map .int)), .un, .un, .fz (.int i)] w = .ok (.int b) w := rfl
    rw [e_dBin, g5, bind_ok, g0, bind_ok, m]
  rw [List.map_id'] at c1
  have se1 := e_sset (l := rs) (by omega) (w := w)
  rw [sset_id G.ra] at se1
  have s1 : (sAsg (bName 3) [] (dL (dUn ssetF (dL (dComp3 [] [] [5] (dUn seqM (dVar 1)) (bName 5) tYesM (dBin modD (dVar 5) (dVar 0))))))) [.fz (.int b), .fz (.tup (rs.map .int)), .fz (.tup (ms.map .int)), .un, .un, .un] w = .nx [.fz (.int b), .fz (.tup (rs.map .int)), .fz (.tup (ms.map .int)), .fz (.lst (rs.map .int)), .un, .un] w := by
    rw [e_sAsg, e_dL, e_dUn, e_dL, c1, bind_ok, bind_ok, se1, bind_ok, obind_ok]; rfl
  have c2 : ∀ s4, dComp3 [] [5] [5] (dUn seqM (dVar 2)) (bName 5) (dB (dBin (inD true) (dBin modD (dVar 5) (dVar 0)) (dVar 3))) (dVar 5) [.fz (.int b), .fz (.tup (rs.map .int)), .fz (.tup (ms.map .int)), .fz (.lst (rs.map .int)), s4, .un] w = .ok (ms.map .int) w := fun s4 => by
    have c := comp_fints (ac := []) (ac3 := [5]) (vs := [5]) (it := dUn seqM (dVar 2)) (b := bName 5) (κ := dB (dBin (inD true) (dBin modD (dVar 5) (dVar 0)) (dVar 3))) (e := dVar 5) (env := [.fz (.int b), .fz (.tup (rs.map .int)), .fz (.tup (ms.map .int)), .fz (.lst (rs.map .int)), s4, .un]) (w := w) (l := ms) (fun _ => true) rfl rfl (by have := G.ml; omega) rfl fun i hi => by
      refine ⟨[.fz (.int b), .fz (.tup (rs.map .int)), .fz (.tup (ms.map .int)), .fz (.lst (rs.map .int)), s4, .fz (.int i)], rfl, ?_, rfl⟩
      have m : modD (.int i) (.int b) w = .ok (.int (i % b)) w := e_modp b0
      have ii := in_lst (neg := true) (n := i % b) (l := rs) (w := w)
      rw [decide_eq_false (G.mr i hi)] at ii
      have g5 : dVar 5 [.fz (.int b), .fz (.tup (rs.map .int)), .fz (.tup (ms.map .int)), .fz (.lst (rs.map .int)), s4, .fz (.int i)] w = .ok (.int i) w := rfl
      have g0 : dVar 0 [.fz (.int b), .fz (.tup (rs.map .int)), .fz (.tup (ms.map .int)), .fz (.lst (rs.map .int)), s4, .fz (.int i)] w = .ok (.int b) w := rfl
      have g3 : dVar 3 [.fz (.int b), .fz (.tup (rs.map .int)), .fz (.tup (ms.map .int)), .fz (.lst (rs.map .int)), s4, .fz (.int i)] w = .ok (.lst (rs.map .int)) w := rfl
      rw [e_dB, e_dBin, e_dBin, g5, bind_ok, g0, bind_ok, m, bind_ok, g3, bind_ok, ii, bind_ok]; rfl
    rw [c, List.filter_eq_self.mpr (fun _ _ => rfl)]
  have se2 := e_sset (l := ms) (by have := G.ml; omega) (w := w)
  rw [sset_id G.ma] at se2
  have en := e_eqLI (l := rs) (m := []) (w := w)
  have z : ∀ env w, dL (dLst aNil) env w = .ok (.lst []) w := fun _ _ => rfl
  have s2 : (sIf (dB (dBin eqD (dVar 3) (dL (dLst aNil)))) (sAsg (bName 0) [] (dC (.int 1))) sNil) [.fz (.int b), .fz (.tup (rs.map .int)), .fz (.tup (ms.map .int)), .fz (.lst (rs.map .int)), .un, .un] w = .nx [.fz (.int b), .fz (.tup (rs.map .int)), .fz (.tup (ms.map .int)), .fz (.lst (rs.map .int)), .un, .un] w := by
    have g3 : dVar 3 [.fz (.int b), .fz (.tup (rs.map .int)), .fz (.tup (ms.map .int)), .fz (.lst (rs.map .int)), .un, .un] w = .ok (.lst (rs.map .int)) w := rfl
    have en : eqD (.lst (rs.map .int)) (.lst []) w = .ok (.bl (decide (rs = []))) w := en
    rw [e_sIf, e_dB, e_dBin, g3, bind_ok, z, bind_ok, en, bind_ok, e_boolM, obind_ok]
    by_cases hr : rs = []
    · rw [decide_eq_true hr, if_pos rfl, G.rn hr]; rfl
    · rw [decide_eq_false hr, if_neg (by simp)]; rfl
  obtain ⟨env', w', f1, s4, f2, f3⟩ := for_inv (b := bName 4) (τ := tsB) (fun _ env w' => ∃ s4 : Slot, env = [.fz (.int b), .fz (.tup (rs.map .int)), .fz (.tup (ms.map .int)), .fz (.lst (rs.map .int)), s4, .un] ∧ w' = w) (rngL 1 1 (b - 1).toNat) [] [.fz (.int b), .fz (.tup (rs.map .int)), .fz (.tup (ms.map .int)), .fz (.lst (rs.map .int)), .un, .un] w ⟨.un, rfl, rfl⟩ (by
    rintro d hd acc env w' ⟨s4, rfl, rfl⟩
    obtain ⟨k, hk, rfl⟩ := mem_rng hd
    exact ⟨[.fz (.int b), .fz (.tup (rs.map .int)), .fz (.tup (ms.map .int)), .fz (.lst (rs.map .int)), .fz (.int (1 + k)), .un], _, w', rfl, .inl (tsB_ok G (by omega) (by omega)), _, rfl, rfl⟩)
  subst f2 f3
  have s3 : (sFor [] (dBinF rng2 (dC (.int 1)) (dVar 0)) (bName 4) tsB) [.fz (.int b), .fz (.tup (rs.map .int)), .fz (.tup (ms.map .int)), .fz (.lst (rs.map .int)), .un, .un] w' = .nx [.fz (.int b), .fz (.tup (rs.map .int)), .fz (.tup (ms.map .int)), .fz (.lst (rs.map .int)), s4, .un] w' := by
    have g0 : dVar 0 [.fz (.int b), .fz (.tup (rs.map .int)), .fz (.tup (ms.map .int)), .fz (.lst (rs.map .int)), .un, .un] w' = .ok (.int b) w' := rfl
    have r := DL.e_rng2 (i := 1) (j := b) (w := w') (by omega) (by omega) (by omega) (by omega)
    rw [e_sFor, e_dBinF, e_dC, bind_ok, g0, bind_ok, r, obind_ok, e_frzs0, f1]
  have e0 : m_told_set [.int b, .tup (rs.map .int), .tup (ms.map .int)] w' = endO (s_told_set [.fz (.int b), .fz (.tup (rs.map .int)), .fz (.tup (ms.map .int)), .un, .un, .un] w') := by
    unfold m_told_set
    rw [e_body]; rfl
  have g0 : dVar 0 [.fz (.int b), .fz (.tup (rs.map .int)), .fz (.tup (ms.map .int)), .fz (.lst (rs.map .int)), s4, .un] w' = .ok (.int b) w' := rfl
  have g3 : dVar 3 [.fz (.int b), .fz (.tup (rs.map .int)), .fz (.tup (ms.map .int)), .fz (.lst (rs.map .int)), s4, .un] w' = .ok (.lst (rs.map .int)) w' := rfl
  rw [e0, ts_eq, e_sSeq, s1, e_sqn, e_sSeq, s2, e_sqn, e_sSeq, s3, e_sqn, e_sRet, dt3, g0, bind_ok, e_dUn, g3, bind_ok, e_tupL, bind_ok, e_dUn, e_dL, e_dUn, e_dL, c2, bind_ok, bind_ok, se2, bind_ok, bind_ok, e_tupL, bind_ok, obind_ok, e_endr]
  rfl
/-! ascending rows -/
theorem zip_asc : ∀ {l : List Int}, l.Pairwise (· < ·) → ∀ d ∈ zipD (l.map .int) ((l.drop 1).map .int), ∃ x y : Int, d = .tup [.int x, .int y] ∧ x < y
  | [], _, d, hd => by simp [zipD] at hd
  | [x], _, d, hd => by simp [zipD] at hd
  | x :: y :: l, h, d, hd => by
    obtain ⟨h1, h2⟩ := List.pairwise_cons.mp h
    have hd : d ∈ D.tup [.int x, .int y] :: zipD ((y :: l).map .int) (((y :: l).drop 1).map .int) := hd
    rcases List.mem_cons.mp hd with e | e
    · exact ⟨x, y, e, h1 y List.mem_cons_self⟩
    · exact zip_asc h2 d e
theorem zip_len : ∀ (ds es : List D), (zipD ds es).length ≤ ds.length
  | [], _ => by simp [zipD]
  | _ :: _, [] => by simp [zipD]
  | d :: ds, e :: es => by
    have := zip_len ds es
    simp only [zipD, List.length_cons]; omega
theorem ascends_ok {l : List Int} (h : l.Pairwise (· < ·)) (hz : l.length ≤ 1000) {w : W} : m_ascends [.tup (l.map .int)] w = .ok (.bl true) w := by
  have sl : slD (.tup (l.map .int)) (some 1) none w = .ok (.tup ((l.drop 1).map .int)) w := by
    show Res.ok (D.tup (cutG (l.map .int) (some 1) none)) w = _
    congr 2
    unfold cutG HT.sIx
    simp only [show ¬ ((1 : Int) < 0) by omega, if_false, List.length_map]
    rw [← List.map_drop]
    cases l with
    | nil => rfl
    | cons x l =>
      rw [show min (1 : Int).toNat (x :: l).length = 1 by simp, List.take_of_length_le (by simp)]
  have hi : (dBinF zipM (dVar 0) (dSl slD (dVar 0) (oSo (dC (.int 1))) oNo)) [.fz (.tup (l.map .int)), .un, .un] w = .ok (zipD (l.map .int) ((l.drop 1).map .int)) w := by
    have g0 : dVar 0 [.fz (.tup (l.map .int)), .un, .un] w = .ok (.tup (l.map .int)) w := rfl
    rw [e_dBinF, g0, bind_ok, e_dSl, g0, bind_ok, e_oSo, e_dC, bind_ok, e_intM, bind_ok, e_oNo, bind_ok, sl, bind_ok]
    rfl
  have c := comp3_map (ac := []) (ac3 := []) (vs := [1, 2]) (it := dBinF zipM (dVar 0) (dSl slD (dVar 0) (oSo (dC (.int 1))) oNo)) (b := bTup 2 (bCons (bName 1) (bCons (bName 2) bNil))) (κ := tYesM) (e := dBin ltD (dVar 1) (dVar 2)) (env := [.fz (.tup (l.map .int)), .un, .un]) (w := w) (fun _ => .bl true) rfl hi (Nat.le_trans (zip_len _ _) (by rw [List.length_map]; exact sl_of (by omega))) rfl fun d hd => by
    obtain ⟨x, y, rfl, lt⟩ := zip_asc h d hd
    refine ⟨[.fz (.tup (l.map .int)), .fz (.int x), .fz (.int y)], rfl, rfl, ?_⟩
    have g1 : dVar 1 [.fz (.tup (l.map .int)), .fz (.int x), .fz (.int y)] w = .ok (.int x) w := rfl
    have g2 : dVar 2 [.fz (.tup (l.map .int)), .fz (.int x), .fz (.int y)] w = .ok (.int y) w := rfl
    rw [e_dBin, g1, bind_ok, g2, bind_ok, e_lt, decide_eq_true lt]
  have al : ∀ ds : List D, allD (.lst (ds.map fun _ => D.bl true)) w = .ok (.bl true) w := fun ds => by
    rw [e_allm (g := fun _ => true)]; simp
  have e0 : m_ascends [.tup (l.map .int)] w = endO (s_ascends [.fz (.tup (l.map .int)), .un, .un] w) := by
    unfold m_ascends
    rw [e_body]; rfl
  have e1 : s_ascends = sRet (dUn allD (dL (dComp3 [] [] [1, 2] (dBinF zipM (dVar 0) (dSl slD (dVar 0) (oSo (dC (.int 1))) oNo)) (bTup 2 (bCons (bName 1) (bCons (bName 2) bNil))) tYesM (dBin ltD (dVar 1) (dVar 2))))) := rfl
  rw [e0, e1, e_sRet, e_dUn, e_dL, c, bind_ok, bind_ok, al, obind_ok, e_endr]
end K18
namespace K18
open PySem DL
theorem eq_set {b : Int} {rs ms : List Int} {w : W} : eqD (setD b rs ms) (setD b rs ms) w = .ok (.bl true) w := by
  have sh : shD (setD b rs ms) = true := by
    have l1 := lay_ints rs
    have l2 := lay_ints ms
    have d1 := dep_ints rs
    have d2 := dep_ints ms
    have o1 := ok_ints rs
    have o2 := ok_ints ms
    show ((okP (.int b) && (okPs (rs.map .int) && (okPs (ms.map .int) && true))) && ((PyData.canLay0 (.int b) && (PyData.canLayAll0 (toPs (rs.map .int)) && (PyData.canLayAll0 (toPs (ms.map .int)) && true))) && decide (max 0 (max (PyData.depthAll (toPs (rs.map .int)) + 1) (max (PyData.depthAll (toPs (ms.map .int)) + 1) 0)) + 1 ≤ 64))) = true
    rw [l1, l2, d1, d2, o1, o2]; rfl
  have eq : eqvD (setD b rs ms) (setD b rs ms) = true := by
    have e1 := eqv_ints rs rs
    have e2 := eqv_ints ms ms
    show (PyData.eqv (.int b) (.int b) && (PyData.eqvAll (toPs (rs.map .int)) (toPs (rs.map .int)) && (PyData.eqvAll (toPs (ms.map .int)) (toPs (ms.map .int)) && true))) = true
    rw [e1, e2, PyData.eqv.eq_def]
    simp
  unfold eqD
  rw [sh, eq]; rfl
theorem is_told_ok {b : Int} {rs ms : List Int} (h1 : rs.length ≤ 1000) (h2 : ms.length ≤ 1000) {w : W} : m_is_told [setD b rs ms] w = .ok (.bl true) w := by
  have l : m_is_long [setD b rs ms, .int 3] w = .ok (.bl true) w := is_long_ok (ds := [.int b, .tup (rs.map .int), .tup (ms.map .int)]) (n := 3)
  have a0 : m_are_numbers [.tup [.int b]] w = .ok (.bl true) w := are_numbers_ok (l := [b]) (sl_of (by simp))
  have a1 := are_numbers_ok (l := rs) (sl_of (by omega)) (w := w)
  have a2 := are_numbers_ok (l := ms) (sl_of (by omega)) (w := w)
  have sl : slD (setD b rs ms) none (some 1) w = .ok (.tup [.int b]) w := rfl
  have i1 : ixD (setD b rs ms) (.int 1) w = .ok (.tup (rs.map .int)) w := ix_t1
  have i2 : ixD (setD b rs ms) (.int 2) w = .ok (.tup (ms.map .int)) w := ix_t2
  generalize setD b rs ms = S at *
  have g0 : dVar 0 [.fz S] w = .ok S w := rfl
  have e0 : m_is_told [S] w = endO (s_is_told [.fz S] w) := by
    unfold m_is_told
    rw [e_body]; rfl
  have e1 : s_is_told = sRet (dAnd (dCall 2 m_is_long (aCons (dVar 0) (aCons (dC (.int 3)) aNil))) (dAnd (dCall 1 m_are_numbers (aCons (dSl slD (dVar 0) oNo (oSo (dC (.int 1)))) aNil)) (dAnd (dCall 1 m_are_numbers (aCons (dBin ixD (dVar 0) (dC (.int 1))) aNil)) (dCall 1 m_are_numbers (aCons (dBin ixD (dVar 0) (dC (.int 2))) aNil))))) := rfl
  rw [e0, e1, e_sRet, e_dAnd, dc2, g0, bind_ok, e_dC, bind_ok, l, bind_ok, e_truB, bind_ok, if_pos rfl, e_dAnd, dc1, e_dSl, g0, bind_ok, e_oNo, bind_ok, e_oSo, e_dC, bind_ok, e_intM, bind_ok, sl, bind_ok, a0, bind_ok, e_truB, bind_ok, if_pos rfl, e_dAnd, dc1, e_dBin, g0, bind_ok, e_dC, bind_ok, i1, bind_ok, a1, bind_ok, e_truB, bind_ok, if_pos rfl, dc1, e_dBin, g0, bind_ok, e_dC, bind_ok, i2, bind_ok, a2, obind_ok, e_endr]
theorem is_set_ok {b : Int} {rs ms : List Int} (G : GoodS b rs ms) {w : W} : m_is_set [setD b rs ms] w = .ok (.bl true) w := by
  have it := is_told_ok (b := b) (rs := rs) (ms := ms) (by have := G.rl; omega) (by have := G.ml; omega) (w := w)
  have as1 := ascends_ok G.ra (by have := G.rl; omega) (w := w)
  have as2 := ascends_ok G.ma (by have := G.ml; omega) (w := w)
  have ts := told_ok G (w := w)
  have es := eq_set (b := b) (rs := rs) (ms := ms) (w := w)
  have i0 : ixD (setD b rs ms) (.int 0) w = .ok (.int b) w := ix_t0
  have i1 : ixD (setD b rs ms) (.int 1) w = .ok (.tup (rs.map .int)) w := ix_t1
  have i2 : ixD (setD b rs ms) (.int 2) w = .ok (.tup (ms.map .int)) w := ix_t2
  have ad : addD (.tup (rs.map .int)) (.tup (ms.map .int)) w = .ok (.tup ((rs ++ ms).map .int)) w := by
    have : (rs.map D.int).length + (ms.map D.int).length ≤ sizeLine := by rw [List.length_map, List.length_map]; exact sl_of (by have := G.rl; have := G.ml; omega)
    rw [List.map_append]
    simp [addD, this]
    simpa using this
  have ne : eqD (.tup ((rs ++ ms).map .int)) (.tup []) w = .ok (.bl false) w := by
    have := e_eqTI (l := rs ++ ms) (m := []) (w := w)
    rw [decide_eq_false (by
      intro h
      rcases G.ne with e | e
      · exact e (List.append_eq_nil_iff.mp h).1
      · exact e (List.append_eq_nil_iff.mp h).2)] at this
    exact this
  have lt1 : ltD (.int b) (.int 1) w = .ok (.bl false) w := by rw [e_lt, decide_eq_false (by have := G.b1; omega)]
  have gt1 : gtD (.int b) (.int 100000) w = .ok (.bl false) w := by rw [e_gt, decide_eq_false (by have := G.b2; omega)]
  clear G
  generalize setD b rs ms = S at *
  generalize D.tup ((rs ++ ms).map .int) = RM at *
  generalize D.tup (rs.map .int) = R at *
  generalize D.tup (ms.map .int) = M at *
  have g0 : dVar 0 [.fz S] w = .ok S w := rfl
  have e0 : m_is_set [S] w = endO (s_is_set [.fz S] w) := by
    unfold m_is_set
    rw [e_body]; rfl
  have e1 : s_is_set = sSeq (sIf (dOrT (dNotT (dTru (dCall 1 m_is_told (aCons (dVar 0) aNil)))) (dOrT (dB (dBin ltD (dBin ixD (dVar 0) (dC (.int 0))) (dC (.int 1)))) (dOrT (dB (dBin gtD (dBin ixD (dVar 0) (dC (.int 0))) (dC k_MOST_MADE))) (dB (dBin eqD (dBin addD (dBin ixD (dVar 0) (dC (.int 1))) (dBin ixD (dVar 0) (dC (.int 2)))) (dTup aNil)))))) (sRet (dC (.bl false))) sNil) (sRet (dAnd (dCall 1 m_ascends (aCons (dBin ixD (dVar 0) (dC (.int 1))) aNil)) (dAnd (dCall 1 m_ascends (aCons (dBin ixD (dVar 0) (dC (.int 2))) aNil)) (dBin eqD (dCall 3 m_told_set (aCons (dBin ixD (dVar 0) (dC (.int 0))) (aCons (dBin ixD (dVar 0) (dC (.int 1))) (aCons (dBin ixD (dVar 0) (dC (.int 2))) aNil)))) (dVar 0))))) := rfl
  have s1 : (sIf (dOrT (dNotT (dTru (dCall 1 m_is_told (aCons (dVar 0) aNil)))) (dOrT (dB (dBin ltD (dBin ixD (dVar 0) (dC (.int 0))) (dC (.int 1)))) (dOrT (dB (dBin gtD (dBin ixD (dVar 0) (dC (.int 0))) (dC k_MOST_MADE))) (dB (dBin eqD (dBin addD (dBin ixD (dVar 0) (dC (.int 1))) (dBin ixD (dVar 0) (dC (.int 2)))) (dTup aNil)))))) (sRet (dC (.bl false))) sNil) [.fz S] w = .nx [.fz S] w := by
    generalize m_is_told = F1 at *
    rw [e_sIf, e_dOrT, e_dNotT, e_dTru, dc1, g0, bind_ok, it, bind_ok, e_truB, bind_ok, bind_ok]
    show Out.bind (dOrT (dB (dBin ltD (dBin ixD (dVar 0) (dC (.int 0))) (dC (.int 1)))) (dOrT (dB (dBin gtD (dBin ixD (dVar 0) (dC (.int 0))) (dC k_MOST_MADE))) (dB (dBin eqD (dBin addD (dBin ixD (dVar 0) (dC (.int 1))) (dBin ixD (dVar 0) (dC (.int 2)))) (dTup aNil)))) [.fz S] w) _ = _
    rw [e_dOrT, e_dB, e_dBin, e_dBin, g0, bind_ok, e_dC, bind_ok, i0, bind_ok, e_dC, bind_ok, lt1, bind_ok, e_boolM, bind_ok, if_neg (by simp), e_dOrT, e_dB, e_dBin, e_dBin, g0, bind_ok, e_dC, bind_ok, i0, bind_ok, e_dC, bind_ok, k_MOST_MADE, gt1, bind_ok, e_boolM, bind_ok, if_neg (by simp), e_dB, e_dBin, e_dBin, e_dBin, g0, bind_ok, e_dC, bind_ok, i1, bind_ok, e_dBin, g0, bind_ok, e_dC, bind_ok, i2, bind_ok, ad, bind_ok, dt0, bind_ok, ne, bind_ok, e_boolM, obind_ok]
    rfl
  rw [e0, e1, e_sSeq, s1, e_sqn]
  generalize m_ascends = F2 at *
  generalize m_told_set = F3 at *
  rw [e_sRet, e_dAnd, dc1, e_dBin, g0, bind_ok, e_dC, bind_ok, i1, bind_ok, as1, bind_ok, e_truB, bind_ok, if_pos rfl, e_dAnd, dc1, e_dBin, g0, bind_ok, e_dC, bind_ok, i2, bind_ok, as2, bind_ok, e_truB, bind_ok, if_pos rfl, e_dBin, dc3, e_dBin, g0, bind_ok, e_dC, bind_ok, i0, bind_ok, e_dBin, g0, bind_ok, e_dC, bind_ok, i1, bind_ok, e_dBin, g0, bind_ok, e_dC, bind_ok, i2, bind_ok, ts, bind_ok, g0, bind_ok, es, obind_ok, e_endr]
theorem sure_set_ok {b : Int} {rs ms : List Int} (G : GoodS b rs ms) {w : W} : m_sure_set [setD b rs ms] w = .ok (setD b rs ms) w := by
  have t : m_tupled 40 [setD b rs ms] w = .ok (setD b rs ms) w := tupled_of (ds := [.int b, .tup (rs.map .int), .tup (ms.map .int)]) (sl_of (by simp)) fun d hd => by
    simp only [List.mem_cons, List.not_mem_nil, or_false] at hd
    rcases hd with rfl | rfl | rfl
    · exact tupled_int
    · exact tupled_ints (k := 37) (sl_of (by have := G.rl; omega))
    · exact tupled_ints (k := 37) (sl_of (by have := G.ml; omega))
  have is := is_set_ok G (w := w)
  have i0 : ixD (setD b rs ms) (.int 0) w = .ok (.int b) w := ix_t0
  have i2 : ixD (setD b rs ms) (.int 2) w = .ok (.tup (ms.map .int)) w := ix_t2
  have gt0 : gtD (.int b) (.int 720) w = .ok (.bl false) w := by rw [e_gt, decide_eq_false (by have := G.b2; omega)]
  have gt1 : gtD (.int ((ms.map D.int).length : Int)) (.int 30) w = .ok (.bl false) w := by rw [e_gt, decide_eq_false (by rw [List.length_map]; have := G.ml; omega)]
  have hz : (ms.map D.int).length ≤ sizeLine := by rw [List.length_map]; exact sl_of (by have := G.ml; omega)
  have gi : (dUn seqM (dBin ixD (dVar 1) (dC (.int 2)))) [.fz (setD b rs ms), .fz (setD b rs ms), .un] w = .ok (ms.map .int) w := rfl
  have c := comp3_map (ac := []) (ac3 := []) (vs := [2]) (it := dUn seqM (dBin ixD (dVar 1) (dC (.int 2)))) (b := bName 2) (κ := tYesM) (e := (dBin gtD (dUn absD (dVar 2)) (dC k_MOST_MEMBER))) (env := [.fz (setD b rs ms), .fz (setD b rs ms), .un]) (w := w) (fun _ => .bl false) rfl gi hz rfl fun d hd => by
    obtain ⟨i, hi, rfl⟩ := List.mem_map.mp hd
    refine ⟨[.fz (setD b rs ms), .fz (setD b rs ms), .fz (.int i)], rfl, rfl, ?_⟩
    have mb := G.mb i hi
    have x1 : ¬ (1000000 < (if i < 0 then -i else i)) := by split <;> omega
    generalize setD b rs ms = S at *
    have g2 : dVar 2 [.fz S, .fz S, .fz (.int i)] w = .ok (.int i) w := rfl
    rw [e_dBin, e_dUn, g2, bind_ok, e_abs, bind_ok, e_dC, bind_ok, k_MOST_MEMBER, e_gt, decide_eq_false x1]
  have an : anyD (.lst ((ms.map D.int).map fun _ => D.bl false)) w = .ok (.bl false) w := by
    rw [e_anym (g := fun _ => false)]; simp
  clear G hz gi
  generalize setD b rs ms = S at *
  generalize ((ms.map D.int).map fun _ => D.bl false) = FL at *
  have ln : lenD (.tup (ms.map D.int)) w = .ok (.int ((ms.map D.int).length : Int)) w := rfl
  generalize ((ms.map D.int).length : Int) = LN at *
  generalize D.tup (ms.map D.int) = M at *
  have g0 : dVar 0 [.fz S, .un, .un] w = .ok S w := rfl
  have g1 : dVar 1 [.fz S, .fz S, .un] w = .ok S w := rfl
  have e0 : m_sure_set [S] w = endO (s_sure_set [.fz S, .un, .un] w) := by
    unfold m_sure_set
    rw [e_body]; rfl
  have e1 : s_sure_set = sSeq (sAsg (bName 1) [0] (dCall 1 (m_tupled 40) (aCons (dVar 0) aNil))) (sSeq (sIf (dOrT (dNotT (dTru (dCall 1 m_is_set (aCons (dVar 1) aNil)))) (dOrT (dB (dBin gtD (dBin ixD (dVar 1) (dC (.int 0))) (dC k_MOST_BY))) (dB (dBin gtD (dUn lenD (dBin ixD (dVar 1) (dC (.int 2)))) (dC k_MOST_MORE))))) (sRaise ⟨"Unfit", none⟩) sNil) (sSeq (sIf (dTru (dUn anyD (dL (dComp3 [] [] [2] (dUn seqM (dBin ixD (dVar 1) (dC (.int 2)))) (bName 2) tYesM (dBin gtD (dUn absD (dVar 2)) (dC k_MOST_MEMBER)))))) (sRaise ⟨"Unfit", none⟩) sNil) (sRet (dVar 1)))) := rfl
  have s1 : (sAsg (bName 1) [0] (dCall 1 (m_tupled 40) (aCons (dVar 0) aNil))) [.fz S, .un, .un] w = .nx [.fz S, .fz S, .un] w := by
    generalize m_tupled 40 = T at *
    rw [e_sAsg, dc1, g0, bind_ok, t, obind_ok]; rfl
  have s2 : (sIf (dOrT (dNotT (dTru (dCall 1 m_is_set (aCons (dVar 1) aNil)))) (dOrT (dB (dBin gtD (dBin ixD (dVar 1) (dC (.int 0))) (dC k_MOST_BY))) (dB (dBin gtD (dUn lenD (dBin ixD (dVar 1) (dC (.int 2)))) (dC k_MOST_MORE))))) (sRaise ⟨"Unfit", none⟩) sNil) [.fz S, .fz S, .un] w = .nx [.fz S, .fz S, .un] w := by
    generalize m_is_set = F at *
    rw [e_sIf, e_dOrT, e_dNotT, e_dTru, dc1, g1, bind_ok, is, bind_ok, e_truB, bind_ok, bind_ok]
    show Out.bind (dOrT (dB (dBin gtD (dBin ixD (dVar 1) (dC (.int 0))) (dC k_MOST_BY))) (dB (dBin gtD (dUn lenD (dBin ixD (dVar 1) (dC (.int 2)))) (dC k_MOST_MORE))) [.fz S, .fz S, .un] w) _ = _
    rw [e_dOrT, e_dB, e_dBin, e_dBin, g1, bind_ok, e_dC, bind_ok, i0, bind_ok, e_dC, bind_ok, k_MOST_BY, gt0, bind_ok, e_boolM, bind_ok, if_neg (by simp), e_dB, e_dBin, e_dUn, e_dBin, g1, bind_ok, e_dC, bind_ok, i2, bind_ok, ln, bind_ok, e_dC, bind_ok, k_MOST_MORE, gt1, bind_ok, e_boolM, obind_ok]
    rfl
  have s3 : (sIf (dTru (dUn anyD (dL (dComp3 [] [] [2] (dUn seqM (dBin ixD (dVar 1) (dC (.int 2)))) (bName 2) tYesM (dBin gtD (dUn absD (dVar 2)) (dC k_MOST_MEMBER)))))) (sRaise ⟨"Unfit", none⟩) sNil) [.fz S, .fz S, .un] w = .nx [.fz S, .fz S, .un] w := by
    rw [e_sIf, e_dTru, e_dUn, e_dL, c, bind_ok, bind_ok, an, bind_ok, e_truB, obind_ok]; rfl
  rw [e0, e1, e_sSeq, s1, e_sqn, e_sSeq, s2, e_sqn, e_sSeq, s3, e_sqn, e_sRet, g1, obind_ok, e_endr]
/-! members -/
def hasB (b : Int) (rs ms : List Int) (n : Int) : Bool := decide (n % b ∈ rs) || decide (n ∈ ms)
theorem has_ok {b : Int} {rs ms : List Int} (hb : 0 < b) {n : Int} {w : W} : m_has_member [setD b rs ms, .int n] w = .ok (.bl (hasB b rs ms n)) w := by
  have i0 : ixD (setD b rs ms) (.int 0) w = .ok (.int b) w := ix_t0
  have i1 : ixD (setD b rs ms) (.int 1) w = .ok (.tup (rs.map .int)) w := ix_t1
  have i2 : ixD (setD b rs ms) (.int 2) w = .ok (.tup (ms.map .int)) w := ix_t2
  have in1 := in_tup (neg := false) (n := n % b) (l := rs) (w := w)
  have in2 := in_tup (neg := false) (n := n) (l := ms) (w := w)
  have md : modD (.int n) (.int b) w = .ok (.int (n % b)) w := e_modp hb
  generalize setD b rs ms = S at *
  have g0 : dVar 0 [.fz S, .fz (.int n)] w = .ok S w := rfl
  have g1 : dVar 1 [.fz S, .fz (.int n)] w = .ok (.int n) w := rfl
  have e0 : m_has_member [S, .int n] w = endO (s_has_member [.fz S, .fz (.int n)] w) := by
    unfold m_has_member
    rw [e_body]; rfl
  have e1 : s_has_member = sRet (dOr (dBin (inD false) (dBin modD (dVar 1) (dBin ixD (dVar 0) (dC (.int 0)))) (dBin ixD (dVar 0) (dC (.int 1)))) (dBin (inD false) (dVar 1) (dBin ixD (dVar 0) (dC (.int 2))))) := rfl
  unfold hasB
  rw [e0, e1, e_sRet, e_dOr, e_dBin, e_dBin, g1, bind_ok, e_dBin, g0, bind_ok, e_dC, bind_ok, i0, bind_ok, md, bind_ok, e_dBin, g0, bind_ok, e_dC, bind_ok, i1, bind_ok, in1, bind_ok, if_neg (by simp), e_truB, bind_ok]
  cases decide (n % b ∈ rs) with
  | true => rfl
  | false => 
    rw [if_neg (by simp), e_dBin, g1, bind_ok, e_dBin, g0, bind_ok, e_dC, bind_ok, i2, bind_ok, in2, if_neg (by simp)]; rfl
theorem lhas_ok {b : Int} {rs ms : List Int} (hb : 0 < b) {n : Int} {w : W} : m__law_has [setD b rs ms, .int n] w = .ok (.bl (hasB b rs ms n)) w := has_ok hb
end K18
namespace K18
open PySem DL
/-! the law's SETS -/
def up1 (n : Nat) : List Int := (List.range n).map fun (k : Nat) => 1 + (k : Int)
theorem up1_mem {n : Nat} {x : Int} : x ∈ up1 n ↔ 1 ≤ x ∧ x ≤ n := by
  unfold up1
  rw [List.mem_map]
  constructor
  · rintro ⟨k, hk, rfl⟩
    have := List.mem_range.mp hk
    omega
  · intro h
    exact ⟨(x - 1).toNat, List.mem_range.mpr (by omega), by omega⟩
def shift (b : Int) (rs : List Int) (k : Int) : List Int := sset (rs.map fun r => (r + k) % b)
def goodsL (b : Int) (rs : List Int) : List Int := (up1 b.toNat).filter fun k => decide (b / k * k = b) && decide (shift b rs k = rs)
def chkT (b : Int) (rs : List Int) : Bool := match goodsL b rs with
  | [] => false
  | l :: _ => decide (1 ≤ l ∧ l ≤ b) && ((sset (rs.map (· % l))).all (fun r => decide (0 ≤ r ∧ r < l)) && (decide (sset (rs.map (· % l)) = [] → l = 1) && (decide (rs ≠ [] → sset (rs.map (· % l)) ≠ []) && (decide ((sset (rs.map (· % l))).length ≤ 16) && (up1 (l - 1).toNat).all fun s => !(decide (l % s = 0) && decide (shift l (sset (rs.map (· % l))) s = sset (rs.map (· % l))))))))
theorem chk_tab : ((up1 8).all fun b => (subs (upto b.toNat)).all (chkT b)) = true := by decide +kernel
theorem chk_at {b : Int} {rs : List Int} (h1 : 1 ≤ b) (h2 : b ≤ 8) (hr : ∀ r ∈ rs, 0 ≤ r ∧ r < b) (ha : rs.Pairwise (· < ·)) : chkT b rs = true := by
  have a := List.all_eq_true.mp chk_tab b (up1_mem.mpr ⟨h1, by omega⟩)
  exact List.all_eq_true.mp a rs (mem_subs (upto_asc _) ha fun x hx => upto_mem.mpr ⟨(hr x hx).1, by have := (hr x hx).2; omega⟩)
theorem chk_out {b : Int} {rs : List Int} (h : chkT b rs = true) : ∃ l g, goodsL b rs = l :: g ∧ 1 ≤ l ∧ l ≤ b ∧ (∀ r ∈ sset (rs.map (· % l)), 0 ≤ r ∧ r < l) ∧ (sset (rs.map (· % l)) = [] → l = 1) ∧ (rs ≠ [] → sset (rs.map (· % l)) ≠ []) ∧ (sset (rs.map (· % l))).length ≤ 16 ∧
    ∀ small, 1 ≤ small → small < l → l % small = 0 → sset ((sset (rs.map (· % l))).map fun r => (r + small) % l) ≠ sset (rs.map (· % l)) := by
  unfold chkT at h
  cases hg : goodsL b rs with
  | nil => rw [hg] at h; cases h
  | cons l g =>
    rw [hg] at h
    simp only [Bool.and_eq_true, decide_eq_true_eq, List.all_eq_true] at h
    obtain ⟨a1, a2, a3, a4, a5, a6⟩ := h
    refine ⟨l, g, rfl, a1.1, a1.2, a2, a3, a4, a5, fun small s1 s2 s3 e => ?_⟩
    have z := a6 small (up1_mem.mpr ⟨s1, by omega⟩)
    have e : shift l (sset (rs.map (· % l))) small = sset (rs.map (· % l)) := e
    rw [decide_eq_true s3, decide_eq_true e] at z
    cases z
def tdC : EM Bool := (dAndT (dB (dBin eqD (dBin mulD (dBin divD (dVar 0) (dVar 5)) (dVar 5)) (dVar 0))) (dB (dBin eqD (dL (dUn ssetF (dL (dComp3 [] [] [6] (dUn seqM (dVar 1)) (bName 6) tYesM (dBin modD (dBin addD (dVar 6) (dVar 5)) (dVar 0)))))) (dVar 1))))
theorem td_eq : s__law_told = sSeq (sAsg (bName 1) [] (dL (dUn ssetF (dL (dComp3 [] [] [6] (dUn seqM (dVar 1)) (bName 6) tYesM (dBin modD (dVar 6) (dVar 0))))))) (sSeq (sOwn 3 [5] (dComp3 [] [5] [5] (dBinF rng2 (dC (.int 1)) (dBin addD (dVar 0) (dC (.int 1)))) (bName 5) tdC (dVar 5))) (sSeq (sAsg (bName 4) [] (dBin ixD (dVar 3) (dC (.int 0)))) (sSeq (sAsg (bName 1) [] (dL (dUn ssetF (dL (dComp3 [] [] [6] (dUn seqM (dVar 1)) (bName 6) tYesM (dBin modD (dVar 6) (dVar 4))))))) (sRet (dTup (aCons (dVar 4) (aCons (dUn tupleD (dVar 1)) (aCons (dUn tupleD (dL (dUn ssetF (dL (dComp3 [] [6] [6] (dUn seqM (dVar 2)) (bName 6) (dB (dBin (inD true) (dBin modD (dVar 6) (dVar 4)) (dVar 1))) (dVar 6)))))) aNil)))))))) := rfl
theorem tdC_ok {b k : Int} {rs : List Int} (h1 : 1 ≤ b) (h2 : b ≤ 16) (hl : rs.length ≤ 63) (k1 : 1 ≤ k) (k2 : k ≤ b) {M s3 s4 : _} {w : W} : tdC [.fz (.int b), .fz (.lst (rs.map .int)), M, s3, s4, .fz (.int k), .un] w = .ok (decide (b / k * k = b) && decide (shift b rs k = rs)) w := by
  have b0 : 0 < b := by omega
  have k0 : 0 < k := by omega
  have k9 : k < 2 ^ 9000 := Int.lt_trans (show k < 2 ^ 60 by omega) (by decide)
  have dv : divD (.int b) (.int k) w = .ok (.int (b / k)) w := e_divp k0 k9
  have ml : mulD (.int (b / k)) (.int k) w = .ok (.int (b / k * k)) w := e_mulr (by omega) (by omega)
  clear k9
  have c := comp_ints (ac := []) (ac3 := []) (vs := [6]) (it := dUn seqM (dVar 1)) (b := bName 6) (e := dBin modD (dBin addD (dVar 6) (dVar 5)) (dVar 0)) (env := [.fz (.int b), .fz (.lst (rs.map .int)), M, s3, s4, .fz (.int k), .un]) (w := w) (l := rs) (fun r => (r + k) % b) rfl rfl (by omega) rfl fun i hi => by
    refine ⟨[.fz (.int b), .fz (.lst (rs.map .int)), M, s3, s4, .fz (.int k), .fz (.int i)], rfl, ?_⟩
    have m : modD (.int (i + k)) (.int b) w = .ok (.int ((i + k) % b)) w := e_modp b0
    generalize D.lst (rs.map .int) = L at *
    have g6 : dVar 6 [.fz (.int b), .fz L, M, s3, s4, .fz (.int k), .fz (.int i)] w = .ok (.int i) w := rfl
    have g5 : dVar 5 [.fz (.int b), .fz L, M, s3, s4, .fz (.int k), .fz (.int i)] w = .ok (.int k) w := rfl
    have g0 : dVar 0 [.fz (.int b), .fz L, M, s3, s4, .fz (.int k), .fz (.int i)] w = .ok (.int b) w := rfl
    rw [e_dBin, e_dBin, g6, bind_ok, g5, bind_ok, e_add, bind_ok, g0, bind_ok, m]
  have se := e_sset (l := rs.map fun r => (r + k) % b) (by rw [List.length_map]; omega) (w := w)
  have eq := e_eqLI (l := shift b rs k) (m := rs) (w := w)
  have g0 : dVar 0 [.fz (.int b), .fz (.lst (rs.map .int)), M, s3, s4, .fz (.int k), .un] w = .ok (.int b) w := rfl
  have g1 : dVar 1 [.fz (.int b), .fz (.lst (rs.map .int)), M, s3, s4, .fz (.int k), .un] w = .ok (.lst (rs.map .int)) w := rfl
  have g5 : dVar 5 [.fz (.int b), .fz (.lst (rs.map .int)), M, s3, s4, .fz (.int k), .un] w = .ok (.int k) w := rfl
  unfold tdC
  rw [e_dAndT, e_dB, e_dBin, e_dBin, e_dBin, g0, bind_ok, g5, bind_ok, dv, bind_ok, g5, bind_ok, ml, bind_ok, g0, bind_ok, e_eqI, bind_ok, e_boolM, bind_ok]
  cases decide (b / k * k = b) with
  | true =>
    have se : ssetF (.lst ((rs.map fun r => (r + k) % b).map .int)) w = .ok ((shift b rs k).map .int) w := se
    rw [if_pos rfl, e_dB, e_dBin, e_dL, e_dUn, e_dL, c, bind_ok, bind_ok, se, bind_ok, bind_ok, g1, bind_ok, eq, bind_ok, e_boolM]; rfl
  | false => rfl
theorem ltold_ok {b : Int} {rests more : List Int} (h1 : 1 ≤ b) (h2 : b ≤ 8) (hb16 : b ≤ 16) (hl : rests.length ≤ 63) (hm : more.length ≤ 30) (hm2 : ∀ m ∈ more, m.natAbs ≤ 1000) (hne : rests ≠ [] ∨ more ≠ []) {w : W} :
    ∃ l rs ms, m__law_told [.int b, .lst (rests.map .int), .lst (more.map .int)] w = .ok (setD l rs ms) w ∧ GoodS l rs ms ∧ l ≤ b ∧ ms.length ≤ more.length ∧ ∀ m ∈ ms, m ∈ more := by
  have b0 : 0 < b := by omega
  have c1 := comp_ints (ac := []) (ac3 := []) (vs := [6]) (it := dUn seqM (dVar 1)) (b := bName 6) (e := dBin modD (dVar 6) (dVar 0)) (env := [.fz (.int b), .fz (.lst (rests.map .int)), .fz (.lst (more.map .int)), .un, .un, .un, .un]) (w := w) (l := rests) (fun r => r % b) rfl rfl (by omega) rfl fun i hi => by
    refine ⟨[.fz (.int b), .fz (.lst (rests.map .int)), .fz (.lst (more.map .int)), .un, .un, .un, .fz (.int i)], rfl, ?_⟩
    have m : modD (.int i) (.int b) w = .ok (.int (i % b)) w := e_modp b0
    have g6 : dVar 6 [.fz (.int b), .fz (.lst (rests.map .int)), .fz (.lst (more.map .int)), .un, .un, .un, .fz (.int i)] w = .ok (.int i) w := rfl
    have g0 : dVar 0 [.fz (.int b), .fz (.lst (rests.map .int)), .fz (.lst (more.map .int)), .un, .un, .un, .fz (.int i)] w = .ok (.int b) w := rfl
    rw [e_dBin, g6, bind_ok, g0, bind_ok, m]
  have se1 := e_sset (l := rests.map fun r => r % b) (by rw [List.length_map]; omega) (w := w)
  obtain ⟨rs1, hrs1⟩ : ∃ rs1, rs1 = sset (rests.map fun r => r % b) := ⟨_, rfl⟩
  rw [← hrs1] at se1
  have asc1 : rs1.Pairwise (· < ·) := by rw [hrs1]; exact sset_asc _
  have in1 : ∀ r ∈ rs1, 0 ≤ r ∧ r < b := fun r hr => by
    rw [hrs1, sset_mem] at hr
    obtain ⟨q, _, rfl⟩ := List.mem_map.mp hr
    exact ⟨Int.emod_nonneg _ (by omega), Int.emod_lt_of_pos _ b0⟩
  have len1 : rs1.length ≤ 63 := by
    rw [hrs1]; exact Nat.le_trans sset_len (by rw [List.length_map]; exact hl)
  have ne1 : rests ≠ [] → rs1 ≠ [] := fun hn e => by
    cases rests with
    | nil => exact hn rfl
    | cons q r =>
      have : q % b ∈ rs1 := by rw [hrs1, sset_mem]; simp
      rw [e] at this; cases this
  obtain ⟨l, g, hg, l1, l2, q1, q2, q3, q4, q5⟩ := chk_out (chk_at h1 h2 in1 asc1)
  obtain ⟨rs2, hrs2⟩ : ∃ rs2, rs2 = sset (rs1.map (· % l)) := ⟨_, rfl⟩
  rw [← hrs2] at q1 q2 q3 q4 q5
  have s1 : (sAsg (bName 1) [] (dL (dUn ssetF (dL (dComp3 [] [] [6] (dUn seqM (dVar 1)) (bName 6) tYesM (dBin modD (dVar 6) (dVar 0))))))) [.fz (.int b), .fz (.lst (rests.map .int)), .fz (.lst (more.map .int)), .un, .un, .un, .un] w = .nx [.fz (.int b), .fz (.lst (rs1.map .int)), .fz (.lst (more.map .int)), .un, .un, .un, .un] w := by
    rw [e_sAsg, e_dL, e_dUn, e_dL, c1, bind_ok, bind_ok, se1, bind_ok, obind_ok]; rfl
  have r2 : (dBinF rng2 (dC (.int 1)) (dBin addD (dVar 0) (dC (.int 1)))) [.fz (.int b), .fz (.lst (rs1.map .int)), .fz (.lst (more.map .int)), .un, .un, .un, .un] w = .ok ((up1 b.toNat).map .int) w := by
    have g0 : dVar 0 [.fz (.int b), .fz (.lst (rs1.map .int)), .fz (.lst (more.map .int)), .un, .un, .un, .un] w = .ok (.int b) w := rfl
    have r := DL.e_rng2 (i := 1) (j := b + 1) (w := w) (by omega) (by omega) (by omega) (by omega)
    rw [e_dBinF, e_dC, bind_ok, e_dBin, g0, bind_ok, e_dC, bind_ok, e_add, bind_ok, r, rng_map, show (b + 1 - 1).toNat = b.toNat by omega]
    unfold up1
    rw [List.map_map]; rfl
  have c2 := comp_fints (ac := []) (ac3 := [5]) (vs := [5]) (b := bName 5) (κ := tdC) (e := dVar 5) (l := up1 b.toNat) (fun k => decide (b / k * k = b) && decide (shift b rs1 k = rs1)) rfl r2 (by unfold up1; simp; omega) rfl fun k hk => by
    obtain ⟨k1, k2⟩ := up1_mem.mp hk
    exact ⟨[.fz (.int b), .fz (.lst (rs1.map .int)), .fz (.lst (more.map .int)), .un, .un, .fz (.int k), .un], rfl, tdC_ok h1 hb16 len1 k1 (by omega), rfl⟩
  have c2 : dComp3 [] [5] [5] (dBinF rng2 (dC (.int 1)) (dBin addD (dVar 0) (dC (.int 1)))) (bName 5) tdC (dVar 5) [.fz (.int b), .fz (.lst (rs1.map .int)), .fz (.lst (more.map .int)), .un, .un, .un, .un] w = .ok ((goodsL b rs1).map .int) w := c2
  rw [hg] at c2
  have s2 : (sOwn 3 [5] (dComp3 [] [5] [5] (dBinF rng2 (dC (.int 1)) (dBin addD (dVar 0) (dC (.int 1)))) (bName 5) tdC (dVar 5))) [.fz (.int b), .fz (.lst (rs1.map .int)), .fz (.lst (more.map .int)), .un, .un, .un, .un] w = .nx [.fz (.int b), .fz (.lst (rs1.map .int)), .fz (.lst (more.map .int)), .ow (.lst ((l :: g).map .int)), .un, .un, .un] w := by
    rw [e_sOwn, c2, obind_ok]; rfl
  have s3 : (sAsg (bName 4) [] (dBin ixD (dVar 3) (dC (.int 0)))) [.fz (.int b), .fz (.lst (rs1.map .int)), .fz (.lst (more.map .int)), .ow (.lst ((l :: g).map .int)), .un, .un, .un] w = .nx [.fz (.int b), .fz (.lst (rs1.map .int)), .fz (.lst (more.map .int)), .ow (.lst ((l :: g).map .int)), .fz (.int l), .un, .un] w := by
    have g3 : dVar 3 [.fz (.int b), .fz (.lst (rs1.map .int)), .fz (.lst (more.map .int)), .ow (.lst ((l :: g).map .int)), .un, .un, .un] w = .ok (.lst ((l :: g).map .int)) w := rfl
    have i : ixD (.lst ((l :: g).map .int)) (.int 0) w = .ok (.int l) w := ix_l (by omega) rfl
    rw [e_sAsg, e_dBin, g3, bind_ok, e_dC, bind_ok, i, obind_ok]; rfl
  have c4 := comp_ints (ac := []) (ac3 := []) (vs := [6]) (it := dUn seqM (dVar 1)) (b := bName 6) (e := dBin modD (dVar 6) (dVar 4)) (env := [.fz (.int b), .fz (.lst (rs1.map .int)), .fz (.lst (more.map .int)), .ow (.lst ((l :: g).map .int)), .fz (.int l), .un, .un]) (w := w) (l := rs1) (fun r => r % l) rfl rfl (by omega) rfl fun i hi => by
    refine ⟨[.fz (.int b), .fz (.lst (rs1.map .int)), .fz (.lst (more.map .int)), .ow (.lst ((l :: g).map .int)), .fz (.int l), .un, .fz (.int i)], rfl, ?_⟩
    have m : modD (.int i) (.int l) w = .ok (.int (i % l)) w := e_modp (by omega)
    have g6 : dVar 6 [.fz (.int b), .fz (.lst (rs1.map .int)), .fz (.lst (more.map .int)), .ow (.lst ((l :: g).map .int)), .fz (.int l), .un, .fz (.int i)] w = .ok (.int i) w := rfl
    have g4 : dVar 4 [.fz (.int b), .fz (.lst (rs1.map .int)), .fz (.lst (more.map .int)), .ow (.lst ((l :: g).map .int)), .fz (.int l), .un, .fz (.int i)] w = .ok (.int l) w := rfl
    rw [e_dBin, g6, bind_ok, g4, bind_ok, m]
  have se4 := e_sset (l := rs1.map fun r => r % l) (by rw [List.length_map]; omega) (w := w)
  rw [← hrs2] at se4
  have s4 : (sAsg (bName 1) [] (dL (dUn ssetF (dL (dComp3 [] [] [6] (dUn seqM (dVar 1)) (bName 6) tYesM (dBin modD (dVar 6) (dVar 4))))))) [.fz (.int b), .fz (.lst (rs1.map .int)), .fz (.lst (more.map .int)), .ow (.lst ((l :: g).map .int)), .fz (.int l), .un, .un] w = .nx [.fz (.int b), .fz (.lst (rs2.map .int)), .fz (.lst (more.map .int)), .ow (.lst ((l :: g).map .int)), .fz (.int l), .un, .un] w := by
    rw [e_sAsg, e_dL, e_dUn, e_dL, c4, bind_ok, bind_ok, se4, bind_ok, obind_ok]; rfl
  have c5 := comp_fints (ac := []) (ac3 := [6]) (vs := [6]) (it := dUn seqM (dVar 2)) (b := bName 6) (κ := dB (dBin (inD true) (dBin modD (dVar 6) (dVar 4)) (dVar 1))) (e := dVar 6) (env := [.fz (.int b), .fz (.lst (rs2.map .int)), .fz (.lst (more.map .int)), .ow (.lst ((l :: g).map .int)), .fz (.int l), .un, .un]) (w := w) (l := more) (fun m => !decide (m % l ∈ rs2)) rfl rfl (by omega) rfl fun i hi => by
    refine ⟨[.fz (.int b), .fz (.lst (rs2.map .int)), .fz (.lst (more.map .int)), .ow (.lst ((l :: g).map .int)), .fz (.int l), .un, .fz (.int i)], rfl, ?_, rfl⟩
    have m : modD (.int i) (.int l) w = .ok (.int (i % l)) w := e_modp (by omega)
    have ii := in_lst (neg := true) (n := i % l) (l := rs2) (w := w)
    have g6 : dVar 6 [.fz (.int b), .fz (.lst (rs2.map .int)), .fz (.lst (more.map .int)), .ow (.lst ((l :: g).map .int)), .fz (.int l), .un, .fz (.int i)] w = .ok (.int i) w := rfl
    have g4 : dVar 4 [.fz (.int b), .fz (.lst (rs2.map .int)), .fz (.lst (more.map .int)), .ow (.lst ((l :: g).map .int)), .fz (.int l), .un, .fz (.int i)] w = .ok (.int l) w := rfl
    have g1 : dVar 1 [.fz (.int b), .fz (.lst (rs2.map .int)), .fz (.lst (more.map .int)), .ow (.lst ((l :: g).map .int)), .fz (.int l), .un, .fz (.int i)] w = .ok (.lst (rs2.map .int)) w := rfl
    rw [e_dB, e_dBin, e_dBin, g6, bind_ok, g4, bind_ok, m, bind_ok, g1, bind_ok, ii, bind_ok]; rfl
  have se5 := e_sset (l := more.filter fun m => !decide (m % l ∈ rs2)) (Nat.le_trans (List.length_filter_le _ _) (by omega)) (w := w)
  refine ⟨l, rs2, sset (more.filter fun m => !decide (m % l ∈ rs2)), ?_, ?_, l2, Nat.le_trans sset_len (List.length_filter_le _ _), fun m h => (List.mem_filter.mp (sset_mem.mp h)).1⟩
  · have e0 : m__law_told [.int b, .lst (rests.map .int), .lst (more.map .int)] w = endO (s__law_told [.fz (.int b), .fz (.lst (rests.map .int)), .fz (.lst (more.map .int)), .un, .un, .un, .un] w) := by
      unfold m__law_told
      rw [e_body]; rfl
    have g4 : dVar 4 [.fz (.int b), .fz (.lst (rs2.map .int)), .fz (.lst (more.map .int)), .ow (.lst ((l :: g).map .int)), .fz (.int l), .un, .un] w = .ok (.int l) w := rfl
    have g1 : dVar 1 [.fz (.int b), .fz (.lst (rs2.map .int)), .fz (.lst (more.map .int)), .ow (.lst ((l :: g).map .int)), .fz (.int l), .un, .un] w = .ok (.lst (rs2.map .int)) w := rfl
    rw [e0, td_eq, e_sSeq, s1, e_sqn, e_sSeq, s2, e_sqn, e_sSeq, s3, e_sqn, e_sSeq, s4, e_sqn, e_sRet, dt3, g4, bind_ok, e_dUn, g1, bind_ok, e_tupL, bind_ok, e_dUn, e_dL, e_dUn, e_dL, c5, bind_ok, bind_ok, se5, bind_ok, bind_ok, e_tupL, bind_ok, obind_ok, e_endr]
    rfl
  · have mem : ∀ m, m ∈ sset (more.filter fun m => !decide (m % l ∈ rs2)) ↔ m ∈ more ∧ m % l ∉ rs2 := fun m => by
      rw [sset_mem, List.mem_filter]; simp
    refine ⟨l1, by omega, q1, by rw [hrs2]; exact sset_asc _, q2, q5, sset_asc _, Nat.le_trans sset_len (Nat.le_trans (List.length_filter_le _ _) hm), by omega, fun m h => hm2 m ((mem m).mp h).1, fun m h => ((mem m).mp h).2, ?_⟩
    by_cases hr : rests = []
    · refine .inr fun e => ?_
      have e1 : rs1 = [] := by rw [hrs1, hr]; rfl
      have e2 : rs2 = [] := by rw [hrs2, e1]; rfl
      rcases hne with z | z
      · exact z hr
      · cases hmo : more with
        | nil => exact z hmo
        | cons m r =>
          have : m ∈ sset (more.filter fun m => !decide (m % l ∈ rs2)) := (mem m).mpr ⟨by rw [hmo]; simp, by rw [e2]; simp⟩
          rw [e] at this; cases this
    · exact .inl (q3 (ne1 hr))
end K18
namespace K18
open PySem DL
/-! drawn rows of numbers, picks, SETS -/
def numE (below off : Int) : EM D := (dBin subD (dCall 2 m__law_take (aCons (dVar 0) (aCons (dC (.int below)) aNil))) (dC (.int off)))
theorem num_ok {env : DL.Env} {w : W} {m below off : Int} (h0 : ∀ w, dVar 0 env w = .ok (.box 0) w) (h : BI w m) (hm : m < 2 ^ 39) (hb : 0 < below) (hb2 : below < 2 ^ 60) : ∃ x w', numE below off env w = .ok (.int (x - off)) w' ∧ 0 ≤ x ∧ x < below ∧ BI w' (m + 1) := by
  obtain ⟨x, w1, e1, x0, x1, b1⟩ := take_ok h (by omega) hb hb2
  refine ⟨x, w1, ?_, x0, x1, b1⟩
  unfold numE
  generalize m__law_take = F at *
  rw [e_dBin, dc2, h0, bind_ok, e_dC, bind_ok, e1, bind_ok, e_dC, bind_ok, e_sub]
theorem nums_ok {ac ac3 : List Nat} {v : Nat} {it : EM (List D)} {env : DL.Env} {w w1 : W} {m below off : Int} {n : Nat} (hac : ac3.all (· < env.length) = true) (hi : it env w = .ok (rngL 0 1 n) w1) (hn1 : n ≤ 1000) (hn : noOw (frzs env ac) [v] = true)
    (h0 : ∀ d w, dVar 0 ((wipeE (frzs env ac) [v]).set v (.fz d)) w = .ok (.box 0) w) (h : BI w1 m) (hm : m < 2 ^ 38) (hb : 0 < below) (hb2 : below < 2 ^ 60) :
    ∃ (l : List Int) (w' : W), dComp3 ac ac3 [v] it (bName v) tYesM (numE below off) env w = .ok (l.map .int) w' ∧ l.length = n ∧ (∀ x ∈ l, -off ≤ x ∧ x < below - off) ∧ BI w' (m + n) := by
  obtain ⟨ys, w', h1, h2, l, h3, h4, h5⟩ := comp3_inv3 (b := bName v) (κ := tYesM) (e := numE below off) (fun acc w => ∃ l : List Int, acc = l.map .int ∧ (∀ x ∈ l, -off ≤ x ∧ x < below - off) ∧ BI w (m + acc.length)) hac hi (by rw [len_rng]; exact sl_of (by omega)) hn ⟨[], rfl, by simp, by simpa using h⟩ (by
    rintro d hd acc w ha ⟨l, rfl, h1, h2⟩
    rw [len_rng] at ha
    rw [List.length_map] at ha h2
    obtain ⟨x, w', e, x0, x1, bi⟩ := num_ok (off := off) (h0 d) h2 (by omega) hb hb2
    refine ⟨_, .int (x - off), w', rfl, rfl, e, l ++ [x - off], by simp, fun y hy => ?_, bi.mono (by simp; omega)⟩
    rcases List.mem_append.mp hy with hy | hy
    · exact h1 y hy
    · rw [List.mem_singleton.mp hy]; omega)
  subst h3
  rw [List.length_map] at h2 h5
  rw [len_rng] at h2
  exact ⟨l, w', h1, h2, h4, h5.mono (by omega)⟩
theorem erase_map : ∀ (l : List Int) (i : Nat), (l.map D.int).eraseIdx i = (l.eraseIdx i).map D.int
  | [], _ => rfl
  | _ :: _, 0 => rfl
  | x :: l, i + 1 => by
    rw [List.map_cons, List.eraseIdx_cons_succ, List.eraseIdx_cons_succ, List.map_cons, erase_map l i]
def pkB : SM := (sAppPop 5 4 (dCall 2 m__law_take (aCons (dVar 0) (aCons (dUn lenD (dVar 4)) aNil))))
theorem pick_step {G C s3 : D} {pool found : List Int} {w : W} {m : Int} (h : BI w m) (hm : m < 2 ^ 38) (hp : 0 < pool.length) (hp2 : pool.length ≤ 1000) (hf : found.length ≤ 1000) :
    ∃ (x : Int) (pool' : List Int) (w' : W), pkB [.fz (.box 0), .fz G, .fz C, .fz s3, .ow (.lst (pool.map .int)), .ow (.lst (found.map .int))] w = .nx [.fz (.box 0), .fz G, .fz C, .fz s3, .ow (.lst (pool'.map .int)), .ow (.lst ((found ++ [x]).map .int))] w' ∧ x ∈ pool ∧ (∀ y ∈ pool', y ∈ pool) ∧ pool'.length + 1 = pool.length ∧ BI w' (m + 1) := by
  obtain ⟨k, w1, e1, k0, k1, b1⟩ := take_ok (n := ((pool.map D.int).length : Int)) h (by omega) (by rw [List.length_map]; omega) (by rw [List.length_map]; omega)
  rw [List.length_map] at k1
  have hk : k.toNat < pool.length := by omega
  refine ⟨pool[k.toNat], pool.eraseIdx k.toNat, w1, ?_, List.getElem_mem hk, fun y hy => List.mem_of_mem_eraseIdx hy, by rw [List.length_eraseIdx_of_lt hk]; omega, b1⟩
  have ev : (dCall 2 m__law_take (aCons (dVar 0) (aCons (dUn lenD (dVar 4)) aNil))) [.fz (.box 0), .fz G, .fz C, .fz s3, .ow (.lst (pool.map .int)), .ow (.lst (found.map .int))] w = .ok (.int k) w1 := by
    generalize m__law_take = F at *
    have g0 : dVar 0 [.fz (.box 0), .fz G, .fz C, .fz s3, .ow (.lst (pool.map .int)), .ow (.lst (found.map .int))] w = .ok (.box 0) w := rfl
    have g4 : dVar 4 [.fz (.box 0), .fz G, .fz C, .fz s3, .ow (.lst (pool.map .int)), .ow (.lst (found.map .int))] w = .ok (.lst (pool.map .int)) w := rfl
    rw [dc2, g0, bind_ok, e_dUn, g4, bind_ok, e_lenL, bind_ok, e1]
  have si : seqIndex? k (pool.map D.int).length = some k.toNat := by
    unfold seqIndex?
    rw [List.length_map]
    simp only [show ¬ k < 0 by omega, if_false]
    rw [if_pos (by simp; omega)]
  have gd : (pool.map D.int)[k.toNat]? = some (.int pool[k.toNat]) := by simp [hk]
  have cnd : (5 : Nat) ≠ 4 ∧ -(2 ^ 63) ≤ k ∧ k < 2 ^ 63 ∧ (found.map D.int).length < sizeLine := ⟨by omega, by omega, by omega, by rw [List.length_map]; exact Nat.lt_of_lt_of_le (show found.length < 2000 by omega) (sl_of (by omega))⟩
  unfold pkB
  show Out.bind ((dCall 2 m__law_take (aCons (dVar 0) (aCons (dUn lenD (dVar 4)) aNil))) [.fz (.box 0), .fz G, .fz C, .fz s3, .ow (.lst (pool.map .int)), .ow (.lst (found.map .int))] w) _ = _
  rw [ev, obind_ok]
  show (if (5 : Nat) ≠ 4 ∧ -(2 ^ 63) ≤ k ∧ k < 2 ^ 63 ∧ (found.map D.int).length < sizeLine then (match seqIndex? k (pool.map D.int).length with
      | some n => (match (pool.map D.int)[n]? with
        | some d => Out.nx (List.set (List.set ([.fz (.box 0), .fz G, .fz C, .fz s3, .ow (.lst (pool.map .int)), .ow (.lst (found.map .int))] : List Slot) 4 (Slot.ow (.lst ((pool.map D.int).eraseIdx n)))) 5 (Slot.ow (.lst (found.map D.int ++ [d])))) w1
        | none => .st)
      | none => .st) else .st) = _
  rw [if_pos cnd, si]
  show (match (pool.map D.int)[k.toNat]? with
        | some d => Out.nx (List.set (List.set ([.fz (.box 0), .fz G, .fz C, .fz s3, .ow (.lst (pool.map .int)), .ow (.lst (found.map .int))] : List Slot) 4 (Slot.ow (.lst ((pool.map D.int).eraseIdx k.toNat)))) 5 (Slot.ow (.lst (found.map D.int ++ [d])))) w1
        | none => .st) = _
  rw [gd, ← erase_map, List.map_append]
  rfl
theorem pick_ok {goods : List Int} {count : Int} {w : W} {m : Int} (h : BI w m) (hm : m < 2 ^ 37) (h1 : 1 ≤ count) (h2 : 1 ≤ goods.length) (h3 : goods.length ≤ 20) :
    ∃ (found : List Int) (w' : W), m__law_pick [.box 0, .lst (goods.map .int), .int count] w = .ok (.lst (found.map .int)) w' ∧ (∀ x ∈ found, x ∈ goods) ∧ found ≠ [] ∧ found.length ≤ 20 ∧ BI w' (m + 20) := by
  obtain ⟨n, hn⟩ : ∃ n : Nat, (if ((goods.map D.int).length : Int) < count then ((goods.map D.int).length : Int) else count) = n := Int.eq_ofNat_of_zero_le (by split <;> omega)
  have n1 : 1 ≤ n := by rw [List.length_map] at hn; split at hn <;> omega
  have n2 : n ≤ goods.length := by rw [List.length_map] at hn; split at hn <;> omega
  obtain ⟨env', w', f1, s3, pool, found, rfl, f2, f3, f4, f5, f6⟩ := for_inv3 (m := n) (b := bName 3) (τ := pkB) (fun acc env w => ∃ (s3 : Slot) (pool found : List Int), env = [.fz (.box 0), .fz (.lst (goods.map .int)), .fz (.int count), s3, .ow (.lst (pool.map .int)), .ow (.lst (found.map .int))] ∧ (∀ x ∈ pool, x ∈ goods) ∧ pool.length + acc.length = goods.length ∧ (∀ x ∈ found, x ∈ goods) ∧ found.length = acc.length ∧ BI w (m + acc.length)) (rngL 0 1 n) [] [.fz (.box 0), .fz (.lst (goods.map .int)), .fz (.int count), .un, .ow (.lst (goods.map .int)), .ow (.lst [])] w (by rw [len_rng]; simp) ⟨.un, goods, [], rfl, fun x h => h, by simp, by simp, rfl, by simpa using h⟩ (by
    rintro d hd acc env w ha ⟨s3, pool, found, rfl, p1, p2, p3, p4, p5⟩
    obtain ⟨x, pool', w', e, x1, x2, x3, bi⟩ := pick_step (G := .lst (goods.map .int)) (C := .int count) (s3 := d) (pool := pool) (found := found) p5 (by omega) (by omega) (by omega) (by omega)
    refine ⟨_, _, w', rfl, e, .fz d, pool', found ++ [x], rfl, fun y hy => p1 y (x2 y hy), by simp; omega, fun y hy => ?_, by simp [p4], bi.mono (by simp; omega)⟩
    rcases List.mem_append.mp hy with hy | hy
    · exact p3 y hy
    · rw [List.mem_singleton.mp hy]; exact p1 x x1)
  simp only [List.nil_append, len_rng] at f3 f5 f6
  refine ⟨found, w', ?_, f4, fun e => by rw [e] at f5; simp at f5; omega, by omega, f6.mono (by omega)⟩
  have e0 : m__law_pick [.box 0, .lst (goods.map .int), .int count] w = endO (s__law_pick [.fz (.box 0), .fz (.lst (goods.map .int)), .fz (.int count), .un, .un, .un] w) := by
    unfold m__law_pick
    rw [e_body]; rfl
  have e1 : s__law_pick = sSeq (sPar [4, 5] [] (kLst (dUn listF (dVar 1)) (kOwn kNil))) (sSeq (sFor [] (dUn rng1 (dBin minD (dUn toIntD (dVar 2)) (dUn lenD (dVar 4)))) (bName 3) pkB) (sRet (dVar 5))) := rfl
  have s1 : sPar [4, 5] [] (kLst (dUn listF (dVar 1)) (kOwn kNil)) [.fz (.box 0), .fz (.lst (goods.map .int)), .fz (.int count), .un, .un, .un] w = .nx [.fz (.box 0), .fz (.lst (goods.map .int)), .fz (.int count), .un, .ow (.lst (goods.map .int)), .ow (.lst [])] w := by
    have k : kLst (dUn listF (dVar 1)) (kOwn kNil) [.fz (.box 0), .fz (.lst (goods.map .int)), .fz (.int count), .un, .un, .un] w = .ok [.ints goods, .nil] w := by
      have g : (dUn listF (dVar 1)) [.fz (.box 0), .fz (.lst (goods.map .int)), .fz (.int count), .un, .un, .un] w = .ok (goods.map .int) w := rfl
      unfold kLst
      rw [g, bind_ok, ints_map]; rfl
    rw [e_sPar, k, obind_ok]; rfl
  have r : (dUn rng1 (dBin minD (dUn toIntD (dVar 2)) (dUn lenD (dVar 4)))) [.fz (.box 0), .fz (.lst (goods.map .int)), .fz (.int count), .un, .ow (.lst (goods.map .int)), .ow (.lst [])] w = .ok (rngL 0 1 n) w := by
    have g2 : dVar 2 [.fz (.box 0), .fz (.lst (goods.map .int)), .fz (.int count), .un, .ow (.lst (goods.map .int)), .ow (.lst [])] w = .ok (.int count) w := rfl
    have g4 : dVar 4 [.fz (.box 0), .fz (.lst (goods.map .int)), .fz (.int count), .un, .ow (.lst (goods.map .int)), .ow (.lst [])] w = .ok (.lst (goods.map .int)) w := rfl
    have rr := DL.e_rng1 (j := (n : Int)) (w := w) (by omega) (by omega)
    rw [e_dUn, e_dBin, e_dUn, g2, bind_ok, e_int, bind_ok, e_dUn, g4, bind_ok, e_lenL, bind_ok, e_min, hn, bind_ok, rr, Int.toNat_natCast]
  rw [e0, e1, e_sSeq, s1, e_sqn, e_sSeq, e_sFor, r, obind_ok, e_frzs0, f1, e_sqn]
  rfl
theorem good1 : GoodS 1 [0] [] := ⟨by omega, by omega, fun r hr => by rw [List.mem_singleton.mp hr]; omega, by simp, fun h => by simp at h, fun s h1 h2 => by omega, List.Pairwise.nil, by simp, by simp, by simp, by simp, .inl (by simp)⟩
theorem rg_tab : ∀ k : Nat, k < 20 → rgOk 0 (k : Int) = true := by decide
theorem lrg_nat {k : Nat} (hk : k < 20) (w : W) : lrg1 (.int (k : Int)) w = .ok ((upto k).map .int) w := by
  have r := rg_tab k hk
  have e : lrg1 (.int (k : Int)) w = if rgOk 0 (k : Int) then Res.ok (rngL 0 1 ((k : Int) - 0).toNat) w else .st := rfl
  have e2 : ((k : Int) - 0).toNat = k := by omega
  have e3 : rngL 0 1 k = (upto k).map D.int := by
    rw [rng_map]
    unfold upto
    rw [List.map_map]
    refine List.map_congr_left fun j _ => ?_
    rw [Int.zero_add]; rfl
  rw [e, e2, r, e3]; rfl
theorem lrg_tab {n : Int} (h1 : 1 ≤ n) (h2 : n ≤ 16) (w : W) : lrg1 (.int n) w = .ok ((upto n.toNat).map .int) w := by
  obtain ⟨k, rfl⟩ := Int.eq_ofNat_of_zero_le (show 0 ≤ n by omega)
  exact lrg_nat (by omega) w
theorem up_len {n : Nat} : (upto n).length = n := by unfold upto; simp
theorem some_set_ok {w : W} {m by' : Int} (h : BI w m) (hm : m < 2 ^ 36) (hb : 1 ≤ by') (hb2 : by' ≤ 8) (hb3 : by' ≤ 16) : ∃ b rs ms w', m__law_some_set [.box 0, .int by'] w = .ok (setD b rs ms) w' ∧ GoodS b rs ms ∧ BI w' (m + 40) ∧ b ≤ by' ∧ ((b = 1 ∧ ms.length ≤ 9) ∨ ms.length ≤ 3) ∧ ∀ m ∈ ms, m.natAbs ≤ 60 := by
  obtain ⟨kind, w1, e1, x0, x1, b1⟩ := take_ok (n := 5) h (by omega) (by omega) (by omega)
  have e0 : m__law_some_set [.box 0, .int by'] w = endO (s__law_some_set [.fz (.box 0), .fz (.int by'), .un, .un, .un, .un, .un] w) := by
    unfold m__law_some_set
    rw [e_body]; rfl
  have eq : s__law_some_set = sSeq (sAsg (bName 2) [0] (dCall 2 m__law_take (aCons (dVar 0) (aCons (dC (.int 5)) aNil)))) (sSeq (sIf (dB (dBin eqD (dVar 2) (dC (.int 0)))) (sRet (dTup (aCons (dC (.int 1)) (aCons (dTup (aCons (dC (.int 0)) aNil)) (aCons (dTup aNil) aNil))))) sNil) (sSeq (sIf (dB (dBin eqD (dVar 2) (dC (.int 1)))) (sRet (dCall 3 m__law_told (aCons (dC (.int 1)) (aCons (dL (dLst aNil)) (aCons (dL (dComp3 [] [] [6] (dUn rng1 (dBin addD (dC (.int 1)) (dCall 2 m__law_take (aCons (dVar 0) (aCons (dC (.int 9)) aNil))))) (bName 6) tYesM (numE 41 20))) aNil))))) sNil) (sSeq (sAsg (bName 3) [0, 1] (dBin addD (dC (.int 1)) (dCall 2 m__law_take (aCons (dVar 0) (aCons (dVar 1) aNil))))) (sSeq (sAsg (bName 4) [0, 3] (dCall 3 m__law_pick (aCons (dVar 0) (aCons (dL (dUn lrg1 (dVar 3))) (aCons (dBin addD (dC (.int 1)) (dCall 2 m__law_take (aCons (dVar 0) (aCons (dVar 3) aNil)))) aNil))))) (sSeq (sAsg (bName 5) [] (dIf (dB (dBin eqD (dVar 2) (dC (.int 2)))) (dL (dComp3 [] [] [6] (dUn rng1 (dCall 2 m__law_take (aCons (dVar 0) (aCons (dC (.int 4)) aNil)))) (bName 6) tYesM (numE 61 30))) (dL (dLst aNil)))) (sRet (dCall 3 m__law_told (aCons (dVar 3) (aCons (dVar 4) (aCons (dVar 5) aNil)))))))))) := rfl
  have z : ∀ env w, dL (dLst aNil) env w = .ok (.lst ([].map .int)) w := fun _ _ => rfl
  have s1 : sAsg (bName 2) [0] (dCall 2 m__law_take (aCons (dVar 0) (aCons (dC (.int 5)) aNil))) [.fz (.box 0), .fz (.int by'), .un, .un, .un, .un, .un] w = .nx [.fz (.box 0), .fz (.int by'), .fz (.int kind), .un, .un, .un, .un] w1 := by
    have g0 : dVar 0 [.fz (.box 0), .fz (.int by'), .un, .un, .un, .un, .un] w = .ok (.box 0) w := rfl
    generalize m__law_take = F at *
    rw [e_sAsg, dc2, g0, bind_ok, e_dC, bind_ok, e1, obind_ok]; rfl
  have g0 : ∀ w, dVar 0 [.fz (.box 0), .fz (.int by'), .fz (.int kind), .un, .un, .un, .un] w = .ok (.box 0) w := fun _ => rfl
  have g1 : ∀ w, dVar 1 [.fz (.box 0), .fz (.int by'), .fz (.int kind), .un, .un, .un, .un] w = .ok (.int by') w := fun _ => rfl
  have g2 : ∀ w, dVar 2 [.fz (.box 0), .fz (.int by'), .fz (.int kind), .un, .un, .un, .un] w = .ok (.int kind) w := fun _ => rfl
  rw [e0, eq, e_sSeq, s1, e_sqn, e_sSeq, e_sIf, e_dB, e_dBin, g2, bind_ok, e_dC, bind_ok, e_eqI, bind_ok, e_boolM, obind_ok]
  by_cases k0 : kind = 0
  · refine ⟨1, [0], [], w1, ?_, good1, b1.mono (by omega), hb, .inr (by simp), by simp⟩
    rw [decide_eq_true k0, if_pos rfl]; rfl
  · rw [decide_eq_false k0, if_neg (by simp), e_sNil, e_sqn, e_sSeq, e_sIf, e_dB, e_dBin, g2, bind_ok, e_dC, bind_ok, e_eqI, bind_ok, e_boolM, obind_ok]
    by_cases k1 : kind = 1
    · rw [decide_eq_true k1, if_pos rfl]
      obtain ⟨c, w2, e2, c0, c1, b2⟩ := take_ok (n := 9) b1 (by omega) (by omega) (by omega)
      obtain ⟨n, hn⟩ := Int.eq_ofNat_of_zero_le (show 0 ≤ 1 + c by omega)
      have hi : (dUn rng1 (dBin addD (dC (.int 1)) (dCall 2 m__law_take (aCons (dVar 0) (aCons (dC (.int 9)) aNil))))) [.fz (.box 0), .fz (.int by'), .fz (.int kind), .un, .un, .un, .un] w1 = .ok (rngL 0 1 n) w2 := by
        have r := DL.e_rng1 (j := (n : Int)) (w := w2) (by omega) (by omega)
        generalize m__law_take = F at *
        rw [e_dUn, e_dBin, e_dC, bind_ok, dc2, g0, bind_ok, e_dC, bind_ok, e2, bind_ok, e_add, hn, bind_ok, r, Int.toNat_natCast]
      obtain ⟨l, w3, e3, l1, l2, b3⟩ := nums_ok (below := 41) (off := 20) (ac := []) (ac3 := []) (v := 6) rfl hi (by omega) rfl (fun _ _ => rfl) b2 (by omega) (by omega) (by omega)
      obtain ⟨b, rs, ms, e4, G, t1, t2, t3⟩ := ltold_ok (b := 1) (rests := []) (more := l) (w := w3) (by omega) (by omega) (by omega) (by simp) (by omega) (fun x hx => by have := l2 x hx; omega) (.inr (by intro e; rw [e] at l1; simp at l1; omega))
      refine ⟨b, rs, ms, w3, ?_, G, b3.mono (by omega), by omega, .inl ⟨by have := G.b1; omega, by omega⟩, fun m hm => by have := l2 m (t3 m hm); omega⟩
      generalize m__law_told = F2 at *
      rw [e_sRet, dc3, e_dC, bind_ok, z, bind_ok, e_dL, e3, bind_ok, bind_ok, e4, obind_ok]
      rfl
    · rw [decide_eq_false k1, if_neg (by simp), e_sNil, e_sqn]
      obtain ⟨c, w2, e2, c0, c1, b2⟩ := take_ok (n := by') b1 (by omega) (by omega) (by omega)
      have s3 : sAsg (bName 3) [0, 1] (dBin addD (dC (.int 1)) (dCall 2 m__law_take (aCons (dVar 0) (aCons (dVar 1) aNil)))) [.fz (.box 0), .fz (.int by'), .fz (.int kind), .un, .un, .un, .un] w1 = .nx [.fz (.box 0), .fz (.int by'), .fz (.int kind), .fz (.int (1 + c)), .un, .un, .un] w2 := by
        generalize m__law_take = F at *
        rw [e_sAsg, e_dBin, e_dC, bind_ok, dc2, g0, bind_ok, g1, bind_ok, e2, bind_ok, e_add, obind_ok]; rfl
      have lr := lrg_tab (n := 1 + c) (by omega) (by omega) w2
      obtain ⟨q, w3, e3, q0, q1, b3⟩ := take_ok (n := 1 + c) b2 (by omega) (by omega) (by omega)
      obtain ⟨found, w4, e4, f1, f2, f3, b4⟩ := pick_ok (goods := upto (1 + c).toNat) (count := 1 + q) b3 (by omega) (by omega) (by rw [up_len]; omega) (by rw [up_len]; omega)
      have h0 : ∀ w, dVar 0 [.fz (.box 0), .fz (.int by'), .fz (.int kind), .fz (.int (1 + c)), .un, .un, .un] w = .ok (.box 0) w := fun _ => rfl
      have h3 : ∀ w, dVar 3 [.fz (.box 0), .fz (.int by'), .fz (.int kind), .fz (.int (1 + c)), .un, .un, .un] w = .ok (.int (1 + c)) w := fun _ => rfl
      have s4 : sAsg (bName 4) [0, 3] (dCall 3 m__law_pick (aCons (dVar 0) (aCons (dL (dUn lrg1 (dVar 3))) (aCons (dBin addD (dC (.int 1)) (dCall 2 m__law_take (aCons (dVar 0) (aCons (dVar 3) aNil)))) aNil)))) [.fz (.box 0), .fz (.int by'), .fz (.int kind), .fz (.int (1 + c)), .un, .un, .un] w2 = .nx [.fz (.box 0), .fz (.int by'), .fz (.int kind), .fz (.int (1 + c)), .fz (.lst (found.map .int)), .un, .un] w4 := by
        generalize m__law_take = F at *
        generalize m__law_pick = F2 at *
        rw [e_sAsg, dc3, h0, bind_ok, e_dL, e_dUn, h3, bind_ok, lr, bind_ok, bind_ok, e_dBin, e_dC, bind_ok, dc2, h0, bind_ok, h3, bind_ok, e3, bind_ok, e_add, bind_ok, e4, obind_ok]; rfl
      have j0 : ∀ w, dVar 0 [.fz (.box 0), .fz (.int by'), .fz (.int kind), .fz (.int (1 + c)), .fz (.lst (found.map .int)), .un, .un] w = .ok (.box 0) w := fun _ => rfl
      have j2 : ∀ w, dVar 2 [.fz (.box 0), .fz (.int by'), .fz (.int kind), .fz (.int (1 + c)), .fz (.lst (found.map .int)), .un, .un] w = .ok (.int kind) w := fun _ => rfl
      have more : ∃ (l : List Int) (w5 : W), (dIf (dB (dBin eqD (dVar 2) (dC (.int 2)))) (dL (dComp3 [] [] [6] (dUn rng1 (dCall 2 m__law_take (aCons (dVar 0) (aCons (dC (.int 4)) aNil)))) (bName 6) tYesM (numE 61 30))) (dL (dLst aNil))) [.fz (.box 0), .fz (.int by'), .fz (.int kind), .fz (.int (1 + c)), .fz (.lst (found.map .int)), .un, .un] w4 = .ok (.lst (l.map .int)) w5 ∧ l.length ≤ 3 ∧ (∀ x ∈ l, x.natAbs ≤ 60) ∧ BI w5 (m + 30) := by
        rw [e_dIf, e_dB, e_dBin, j2, bind_ok, e_dC, bind_ok, e_eqI, bind_ok, e_boolM, bind_ok]
        by_cases k2 : kind = 2
        · rw [decide_eq_true k2, if_pos rfl]
          obtain ⟨t, w5, e5, t0, t1, b5⟩ := take_ok (n := 4) b4 (by omega) (by omega) (by omega)
          obtain ⟨n, hn⟩ := Int.eq_ofNat_of_zero_le t0
          have hi : (dUn rng1 (dCall 2 m__law_take (aCons (dVar 0) (aCons (dC (.int 4)) aNil)))) [.fz (.box 0), .fz (.int by'), .fz (.int kind), .fz (.int (1 + c)), .fz (.lst (found.map .int)), .un, .un] w4 = .ok (rngL 0 1 n) w5 := by
            have r := DL.e_rng1 (j := (n : Int)) (w := w5) (by omega) (by omega)
            generalize m__law_take = F at *
            rw [e_dUn, dc2, j0, bind_ok, e_dC, bind_ok, e5, hn, bind_ok, r, Int.toNat_natCast]
          obtain ⟨l, w6, e6, l1, l2, b6⟩ := nums_ok (below := 61) (off := 30) (ac := []) (ac3 := []) (v := 6) rfl hi (by omega) rfl (fun _ _ => rfl) b5 (by omega) (by omega) (by omega)
          refine ⟨l, w6, ?_, by omega, fun x hx => by have := l2 x hx; omega, b6.mono (by omega)⟩
          rw [e_dL, e6, bind_ok]
        · rw [decide_eq_false k2, if_neg (by simp)]
          exact ⟨[], w4, z _ _, by simp, by simp, b4.mono (by omega)⟩
      obtain ⟨l, w5, e5, l1, l2, b5⟩ := more
      obtain ⟨b, rs, ms, e6, G, t1, t2, t3⟩ := ltold_ok (b := 1 + c) (rests := found) (more := l) (w := w5) (by omega) (by omega) (by omega) (by omega) (by omega) (fun x hx => by have := l2 x hx; omega) (.inl f2)
      refine ⟨b, rs, ms, w5, ?_, G, b5.mono (by omega), by omega, .inr (by omega), fun m hm => l2 m (t3 m hm)⟩
      have s5 : sAsg (bName 5) [] (dIf (dB (dBin eqD (dVar 2) (dC (.int 2)))) (dL (dComp3 [] [] [6] (dUn rng1 (dCall 2 m__law_take (aCons (dVar 0) (aCons (dC (.int 4)) aNil)))) (bName 6) tYesM (numE 61 30))) (dL (dLst aNil))) [.fz (.box 0), .fz (.int by'), .fz (.int kind), .fz (.int (1 + c)), .fz (.lst (found.map .int)), .un, .un] w4 = .nx [.fz (.box 0), .fz (.int by'), .fz (.int kind), .fz (.int (1 + c)), .fz (.lst (found.map .int)), .fz (.lst (l.map .int)), .un] w5 := by
        rw [e_sAsg, e5, obind_ok]; rfl
      have q3 : ∀ w, dVar 3 [.fz (.box 0), .fz (.int by'), .fz (.int kind), .fz (.int (1 + c)), .fz (.lst (found.map .int)), .fz (.lst (l.map .int)), .un] w = .ok (.int (1 + c)) w := fun _ => rfl
      have q4 : ∀ w, dVar 4 [.fz (.box 0), .fz (.int by'), .fz (.int kind), .fz (.int (1 + c)), .fz (.lst (found.map .int)), .fz (.lst (l.map .int)), .un] w = .ok (.lst (found.map .int)) w := fun _ => rfl
      have q5 : ∀ w, dVar 5 [.fz (.box 0), .fz (.int by'), .fz (.int kind), .fz (.int (1 + c)), .fz (.lst (found.map .int)), .fz (.lst (l.map .int)), .un] w = .ok (.lst (l.map .int)) w := fun _ => rfl
      rw [e_sSeq, s3, e_sqn, e_sSeq, s4, e_sqn, e_sSeq, s5, e_sqn]
      generalize m__law_told = F2 at *
      rw [e_sRet, dc3, q3, bind_ok, q4, bind_ok, q5, bind_ok, e6, obind_ok]
      rfl
end K18
namespace DL
inductive All2 (R : D → D → Prop) : List D → List D → Prop
  | nil : All2 R [] []
  | cons {d y ds ys} : R d y → All2 R ds ys → All2 R (d :: ds) (y :: ys)
theorem All2.len {R : D → D → Prop} {ds ys} (h : All2 R ds ys) : ys.length = ds.length := by
  induction h with
  | nil => rfl
  | cons _ _ ih => simp [ih]
theorem comp_ord {b : TM} {κ : EM Bool} {e : EM D} {env : Env} (R : D → D → Prop) (I : Nat → W → Prop) (N : Nat) : ∀ (ds : List D) (n : Nat) (w : W), n + ds.length ≤ N → I n w → (∀ d ∈ ds, ∀ n w, n < N → I n w → ∃ env' y w', b d env = some env' ∧ κ env' w = .ok true w ∧ e env' w = .ok y w' ∧ R d y ∧ I (n + 1) w') →
    ∃ ys w', compM b κ e ds env w = .ok ys w' ∧ All2 R ds ys ∧ I (n + ds.length) w'
  | [], n, w, _, h0, _ => ⟨[], w, rfl, .nil, h0⟩
  | d :: ds, n, w, hN, h0, h => by
    rw [List.length_cons] at hN
    obtain ⟨env', y, w1, h1, h2, h3, h4, h5⟩ := h d List.mem_cons_self n w (by omega) h0
    obtain ⟨ys, w', k1, k2, k3⟩ := comp_ord R I N ds (n + 1) w1 (by omega) h5 fun d hd => h d (List.mem_cons_of_mem _ hd)
    refine ⟨y :: ys, w', ?_, .cons h4 k2, by rw [List.length_cons, show n + (ds.length + 1) = n + 1 + ds.length by omega]; exact k3⟩
    simp only [compM, h1, h2, h3, k1, bind_ok, if_true]
theorem comp3_ord {ac ac3 vs : List Nat} {it : EM (List D)} {b : TM} {κ : EM Bool} {e : EM D} {env : Env} {w w1 : W} {ds : List D} (R : D → D → Prop) (I : Nat → W → Prop) (hac : ac3.all (· < env.length) = true) (hi : it env w = .ok ds w1) (hz : ds.length ≤ PySem.sizeLine) (hn : noOw (frzs env ac) vs = true) (h0 : I 0 w1)
    (h : ∀ d ∈ ds, ∀ n w, n < ds.length → I n w → ∃ env' y w', b d (wipeE (frzs env ac) vs) = some env' ∧ κ env' w = .ok true w ∧ e env' w = .ok y w' ∧ R d y ∧ I (n + 1) w') : ∃ ys w', dComp3 ac ac3 vs it b κ e env w = .ok ys w' ∧ All2 R ds ys ∧ I ds.length w' := by
  obtain ⟨ys, w', h1, h2, h3⟩ := comp_ord (b := b) (κ := κ) (e := e) (env := wipeE (frzs env ac) vs) R I ds.length ds 0 w1 (by omega) h0 h
  rw [Nat.zero_add] at h3
  refine ⟨ys, w', ?_, h2, h3⟩
  simp only [e_dComp3, hac, if_true, hi, bind_ok]
  rw [if_pos ⟨hz, hn⟩, h1]; rfl
theorem comp_all2 {b : TM} {e : EM D} {env : Env} {w : W} {R : D → D → Prop} {ds ys : List D} (h : All2 R ds ys) (hs : ∀ d y, R d y → ∃ env', b y env = some env' ∧ e env' w = .ok d w) : compM b tYesM e ys env w = .ok ds w := by
  induction h with
  | nil => rfl
  | cons r _ ih =>
    obtain ⟨env', h1, h2⟩ := hs _ _ r
    simp only [compM, h1, e_tYes, h2, ih, bind_ok, if_true]
theorem comp3_all2 {ac ac3 vs : List Nat} {it : EM (List D)} {b : TM} {e : EM D} {env : Env} {w w1 : W} {ds ys : List D} {R : D → D → Prop} (a : All2 R ds ys) (hac : ac3.all (· < env.length) = true) (hi : it env w = .ok ys w1) (hz : ys.length ≤ PySem.sizeLine) (hn : noOw (frzs env ac) vs = true)
    (h : ∀ d y, R d y → ∃ env', b y (wipeE (frzs env ac) vs) = some env' ∧ e env' w1 = .ok d w1) : dComp3 ac ac3 vs it b tYesM e env w = .ok ds w1 := by
  simp only [e_dComp3, hac, if_true, hi, bind_ok]
  rw [if_pos ⟨hz, hn⟩, comp_all2 a h]; rfl
end DL
namespace K18
open PySem DL
theorem sure_poly_of {X : D} {qs : List Rat} (h : OkQ qs) (he : Ends0 qs) {w : W} (t : m_tupled 40 [X] w = .ok (polyQ qs) w) : m_sure_poly [X] w = .ok (polyQ qs) w := by
  have hz : (qs.map fq).length ≤ sizeLine := by rw [List.length_map]; exact sl_of (by have := h.1; omega)
  have ip := is_poly_ok h he (w := w)
  have c := comp3_map (ac := []) (ac3 := []) (vs := [2]) (it := dUn seqM (dVar 1)) (b := bName 2) (κ := tYesM) (e := (dOr (dBin gtD (dUn absD (dBin ixD (dVar 2) (dC (.int 0)))) (dC k_MOST_ENTRY)) (dBin gtD (dBin ixD (dVar 2) (dC (.int 1))) (dC k_MOST_ENTRY)))) (env := [.fz X, .fz (polyQ qs), .un]) (w := w) (fun _ => .bl false) rfl rfl hz rfl fun d hd => by
    obtain ⟨q, hq, rfl⟩ := List.mem_map.mp hd
    refine ⟨[.fz X, .fz (polyQ qs), .fz (fq q)], rfl, rfl, ?_⟩
    obtain ⟨b1, b2⟩ := h.2 q hq
    have x1 : ¬ (1000000000000000000000000000000 < (if q.num < 0 then -q.num else q.num)) := by split <;> omega
    have x2 : ¬ ((1000000000000000000000000000000 : Int) < (q.den : Int)) := by omega
    unfold fq
    generalize polyQ qs = P at *
    generalize (q.den : Int) = B at *
    generalize q.num = A at *
    have g2 : dVar 2 [.fz X, .fz P, .fz (.tup [.int A, .int B])] w = .ok (.tup [.int A, .int B]) w := rfl
    rw [e_dOr, e_dBin, e_dUn, e_dBin, g2, bind_ok, e_dC, bind_ok, ix_t0, bind_ok, e_abs, bind_ok, e_dC, bind_ok, k_MOST_ENTRY, e_gt, decide_eq_false x1, bind_ok, e_truB, bind_ok, if_neg (by simp), e_dBin, e_dBin, g2, bind_ok, e_dC, bind_ok, ix_t1, bind_ok, e_dC, bind_ok, e_gt, decide_eq_false x2]
  have an : anyD (.lst ((qs.map fq).map fun _ => D.bl false)) w = .ok (.bl false) w := by
    rw [e_anym (g := fun _ => false)]; simp
  have gtl : gtD (.int ((qs.map fq).length : Int)) (.int 41) w = .ok (.bl false) w := by
    rw [e_gt, decide_eq_false (by rw [List.length_map]; have := h.1; omega)]
  have ln : lenD (polyQ qs) w = .ok (.int ((qs.map fq).length : Int)) w := rfl
  have g0 : dVar 0 [.fz X, .un, .un] w = .ok X w := rfl
  have e0 : m_sure_poly [X] w = endO (s_sure_poly [.fz X, .un, .un] w) := by
    unfold m_sure_poly
    rw [e_body]; rfl
  generalize polyQ qs = P at *
  generalize ((qs.map fq).map fun _ => D.bl false) = FL at *
  generalize ((qs.map fq).length : Int) = LN at *
  have g1 : dVar 1 [.fz X, .fz P, .un] w = .ok P w := rfl
  have e1 : s_sure_poly = sSeq (sAsg (bName 1) [0] (dCall 1 (m_tupled 40) (aCons (dVar 0) aNil))) (sSeq (sIf (dOrT (dNotT (dTru (dCall 1 m_is_poly (aCons (dVar 1) aNil)))) (dB (dBin gtD (dUn lenD (dVar 1)) (dBin addD (dC k_MOST_DEGREE) (dC (.int 1)))))) (sRaise ⟨"Unfit", none⟩) sNil) (sSeq (sIf (dTru (dUn anyD (dL (dComp3 [] [] [2] (dUn seqM (dVar 1)) (bName 2) tYesM (dOr (dBin gtD (dUn absD (dBin ixD (dVar 2) (dC (.int 0)))) (dC k_MOST_ENTRY)) (dBin gtD (dBin ixD (dVar 2) (dC (.int 1))) (dC k_MOST_ENTRY))))))) (sRaise ⟨"Unfit", none⟩) sNil) (sRet (dVar 1)))) := rfl
  have s1 : (sAsg (bName 1) [0] (dCall 1 (m_tupled 40) (aCons (dVar 0) aNil))) [.fz X, .un, .un] w = .nx [.fz X, .fz P, .un] w := by
    generalize m_tupled 40 = T at *
    rw [e_sAsg, dc1, g0, bind_ok, t, obind_ok]; rfl
  have s2 : (sIf (dOrT (dNotT (dTru (dCall 1 m_is_poly (aCons (dVar 1) aNil)))) (dB (dBin gtD (dUn lenD (dVar 1)) (dBin addD (dC k_MOST_DEGREE) (dC (.int 1)))))) (sRaise ⟨"Unfit", none⟩) sNil) [.fz X, .fz P, .un] w = .nx [.fz X, .fz P, .un] w := by
    generalize m_is_poly = F at *
    rw [e_sIf, e_dOrT, e_dNotT, e_dTru, dc1, g1, bind_ok, ip, bind_ok, e_truB, bind_ok, bind_ok]
    show Out.bind (dB (dBin gtD (dUn lenD (dVar 1)) (dBin addD (dC k_MOST_DEGREE) (dC (.int 1)))) [.fz X, .fz P, .un] w) _ = _
    rw [e_dB, e_dBin, e_dUn, g1, bind_ok, ln, bind_ok, e_dBin, e_dC, bind_ok, e_dC, bind_ok, k_MOST_DEGREE, e_add, bind_ok]
    show Out.bind ((gtD (.int LN) (.int 41) w).bind boolM) _ = _
    rw [gtl]; rfl
  have s3 : (sIf (dTru (dUn anyD (dL (dComp3 [] [] [2] (dUn seqM (dVar 1)) (bName 2) tYesM (dOr (dBin gtD (dUn absD (dBin ixD (dVar 2) (dC (.int 0)))) (dC k_MOST_ENTRY)) (dBin gtD (dBin ixD (dVar 2) (dC (.int 1))) (dC k_MOST_ENTRY))))))) (sRaise ⟨"Unfit", none⟩) sNil) [.fz X, .fz P, .un] w = .nx [.fz X, .fz P, .un] w := by
    rw [e_sIf, e_dTru, e_dUn, e_dL, c, bind_ok, bind_ok, an, bind_ok, e_truB, obind_ok]; rfl
  rw [e0, e1, e_sSeq, s1, e_sqn, e_sSeq, s2, e_sqn, e_sSeq, s3, e_sqn, e_sRet, g1, obind_ok, e_endr]
theorem sure_low_of {X : D} {qs : List Rat} (h : OkQ qs) {w : W} (s : m_sure_poly [X] w = .ok (polyQ qs) w) : m_sure_low [X] w = .ok (polyQ qs) w := by
  have gtl : gtD (.int ((qs.map fq).length : Int)) (.int 25) w = .ok (.bl false) w := by
    rw [e_gt, decide_eq_false (by rw [List.length_map]; have := h.1; omega)]
  have ln : lenD (polyQ qs) w = .ok (.int ((qs.map fq).length : Int)) w := rfl
  have e0 : m_sure_low [X] w = endO (s_sure_low [.fz X, .un] w) := by
    unfold m_sure_low
    rw [e_body]; rfl
  generalize polyQ qs = P at *
  generalize ((qs.map fq).length : Int) = LN at *
  have g0 : dVar 0 [.fz X, .un] w = .ok X w := rfl
  have g1 : dVar 1 [.fz X, .fz P] w = .ok P w := rfl
  have e1 : s_sure_low = sSeq (sAsg (bName 1) [0] (dCall 1 m_sure_poly (aCons (dVar 0) aNil))) (sSeq (sIf (dB (dBin gtD (dUn lenD (dVar 1)) (dBin addD (dC k_MOST_BASE) (dC (.int 1))))) (sRaise ⟨"Unfit", none⟩) sNil) (sRet (dVar 1))) := rfl
  have s1 : (sAsg (bName 1) [0] (dCall 1 m_sure_poly (aCons (dVar 0) aNil))) [.fz X, .un] w = .nx [.fz X, .fz P] w := by
    rw [e_sAsg, dc1, g0, bind_ok, s, obind_ok]; rfl
  have s2 : (sIf (dB (dBin gtD (dUn lenD (dVar 1)) (dBin addD (dC k_MOST_BASE) (dC (.int 1))))) (sRaise ⟨"Unfit", none⟩) sNil) [.fz X, .fz P] w = .nx [.fz X, .fz P] w := by
    rw [e_sIf, e_dB, e_dBin, e_dUn, g1, bind_ok, ln, bind_ok, e_dBin, e_dC, bind_ok, e_dC, bind_ok, k_MOST_BASE, e_add, bind_ok]
    show Out.bind ((gtD (.int LN) (.int 25) w).bind boolM) _ = _
    rw [gtl]; rfl
  rw [e0, e1, e_sSeq, s1, e_sqn, e_sSeq, s2, e_sqn, e_sRet, g1, obind_ok, e_endr]
theorem tupled_lst {k : Nat} {ds es : List D} {w : W} (f : D → D) (hz : ds.length ≤ sizeLine) (ht : ∀ d ∈ ds, m_tupled k [d] w = .ok (f d) w) (he : es = ds.map f) : m_tupled (k + 1) [.lst ds] w = .ok (.tup es) w := by
  show bodyD 2 (s_tupled (m_tupled k)) _ w = _
  generalize m_tupled k = T at *
  unfold s_tupled
  rw [e_body]
  have c := comp3_map (ac := []) (ac3 := [1]) (vs := [1]) (it := dUn seqM (dVar 0)) (b := bName 1) (κ := tYesM) (e := dCall 1 T (aCons (dVar 1) aNil)) (env := [.fz (.lst ds), .un]) (w := w) f rfl rfl hz rfl fun d hd => by
    refine ⟨[.fz (.lst ds), .fz d], rfl, rfl, ?_⟩
    simp only [dc1, e_dVar, g_0, g_s, e_getS, bind_ok]
    exact ht d hd
  simp [-List.map_map, tyD, subTy, c, he]
theorem tupled_lints {k : Nat} {l : List Int} {w : W} (h : l.length ≤ sizeLine) : m_tupled (k + 2) [.lst (l.map .int)] w = .ok (.tup (l.map .int)) w :=
  tupled_lst id (by simpa using h) (fun d hd => by
    obtain ⟨i, _, rfl⟩ := List.mem_map.mp hd
    exact tupled_int) (by simp)
theorem sure_set_of {X : D} {b : Int} {rs ms : List Int} (G : GoodS b rs ms) {w : W} (t : m_tupled 40 [X] w = .ok (setD b rs ms) w) : m_sure_set [X] w = .ok (setD b rs ms) w := by
  have is := is_set_ok G (w := w)
  have i0 : ixD (setD b rs ms) (.int 0) w = .ok (.int b) w := ix_t0
  have i2 : ixD (setD b rs ms) (.int 2) w = .ok (.tup (ms.map .int)) w := ix_t2
  have gt0 : gtD (.int b) (.int 720) w = .ok (.bl false) w := by rw [e_gt, decide_eq_false (by have := G.b2; omega)]
  have gt1 : gtD (.int ((ms.map D.int).length : Int)) (.int 30) w = .ok (.bl false) w := by rw [e_gt, decide_eq_false (by rw [List.length_map]; have := G.ml; omega)]
  have hz : (ms.map D.int).length ≤ sizeLine := by rw [List.length_map]; exact sl_of (by have := G.ml; omega)
  have gi : (dUn seqM (dBin ixD (dVar 1) (dC (.int 2)))) [.fz X, .fz (setD b rs ms), .un] w = .ok (ms.map .int) w := rfl
  have c := comp3_map (ac := []) (ac3 := []) (vs := [2]) (it := dUn seqM (dBin ixD (dVar 1) (dC (.int 2)))) (b := bName 2) (κ := tYesM) (e := (dBin gtD (dUn absD (dVar 2)) (dC k_MOST_MEMBER))) (env := [.fz X, .fz (setD b rs ms), .un]) (w := w) (fun _ => .bl false) rfl gi hz rfl fun d hd => by
    obtain ⟨i, hi, rfl⟩ := List.mem_map.mp hd
    refine ⟨[.fz X, .fz (setD b rs ms), .fz (.int i)], rfl, rfl, ?_⟩
    have mb := G.mb i hi
    have x1 : ¬ (1000000 < (if i < 0 then -i else i)) := by split <;> omega
    generalize setD b rs ms = S at *
    have g2 : dVar 2 [.fz X, .fz S, .fz (.int i)] w = .ok (.int i) w := rfl
    rw [e_dBin, e_dUn, g2, bind_ok, e_abs, bind_ok, e_dC, bind_ok, k_MOST_MEMBER, e_gt, decide_eq_false x1]
  have an : anyD (.lst ((ms.map D.int).map fun _ => D.bl false)) w = .ok (.bl false) w := by
    rw [e_anym (g := fun _ => false)]; simp
  clear G hz gi
  generalize setD b rs ms = S at *
  generalize ((ms.map D.int).map fun _ => D.bl false) = FL at *
  have ln : lenD (.tup (ms.map D.int)) w = .ok (.int ((ms.map D.int).length : Int)) w := rfl
  generalize ((ms.map D.int).length : Int) = LN at *
  generalize D.tup (ms.map D.int) = M at *
  have g0 : dVar 0 [.fz X, .un, .un] w = .ok X w := rfl
  have g1 : dVar 1 [.fz X, .fz S, .un] w = .ok S w := rfl
  have e0 : m_sure_set [X] w = endO (s_sure_set [.fz X, .un, .un] w) := by
    unfold m_sure_set
    rw [e_body]; rfl
  have e1 : s_sure_set = sSeq (sAsg (bName 1) [0] (dCall 1 (m_tupled 40) (aCons (dVar 0) aNil))) (sSeq (sIf (dOrT (dNotT (dTru (dCall 1 m_is_set (aCons (dVar 1) aNil)))) (dOrT (dB (dBin gtD (dBin ixD (dVar 1) (dC (.int 0))) (dC k_MOST_BY))) (dB (dBin gtD (dUn lenD (dBin ixD (dVar 1) (dC (.int 2)))) (dC k_MOST_MORE))))) (sRaise ⟨"Unfit", none⟩) sNil) (sSeq (sIf (dTru (dUn anyD (dL (dComp3 [] [] [2] (dUn seqM (dBin ixD (dVar 1) (dC (.int 2)))) (bName 2) tYesM (dBin gtD (dUn absD (dVar 2)) (dC k_MOST_MEMBER)))))) (sRaise ⟨"Unfit", none⟩) sNil) (sRet (dVar 1)))) := rfl
  have s1 : (sAsg (bName 1) [0] (dCall 1 (m_tupled 40) (aCons (dVar 0) aNil))) [.fz X, .un, .un] w = .nx [.fz X, .fz S, .un] w := by
    generalize m_tupled 40 = T at *
    rw [e_sAsg, dc1, g0, bind_ok, t, obind_ok]; rfl
  have s2 : (sIf (dOrT (dNotT (dTru (dCall 1 m_is_set (aCons (dVar 1) aNil)))) (dOrT (dB (dBin gtD (dBin ixD (dVar 1) (dC (.int 0))) (dC k_MOST_BY))) (dB (dBin gtD (dUn lenD (dBin ixD (dVar 1) (dC (.int 2)))) (dC k_MOST_MORE))))) (sRaise ⟨"Unfit", none⟩) sNil) [.fz X, .fz S, .un] w = .nx [.fz X, .fz S, .un] w := by
    generalize m_is_set = F at *
    rw [e_sIf, e_dOrT, e_dNotT, e_dTru, dc1, g1, bind_ok, is, bind_ok, e_truB, bind_ok, bind_ok]
    show Out.bind (dOrT (dB (dBin gtD (dBin ixD (dVar 1) (dC (.int 0))) (dC k_MOST_BY))) (dB (dBin gtD (dUn lenD (dBin ixD (dVar 1) (dC (.int 2)))) (dC k_MOST_MORE))) [.fz X, .fz S, .un] w) _ = _
    rw [e_dOrT, e_dB, e_dBin, e_dBin, g1, bind_ok, e_dC, bind_ok, i0, bind_ok, e_dC, bind_ok, k_MOST_BY, gt0, bind_ok, e_boolM, bind_ok, if_neg (by simp), e_dB, e_dBin, e_dUn, e_dBin, g1, bind_ok, e_dC, bind_ok, i2, bind_ok, ln, bind_ok, e_dC, bind_ok, k_MOST_MORE, gt1, bind_ok, e_boolM, obind_ok]
    rfl
  have s3 : (sIf (dTru (dUn anyD (dL (dComp3 [] [] [2] (dUn seqM (dBin ixD (dVar 1) (dC (.int 2)))) (bName 2) tYesM (dBin gtD (dUn absD (dVar 2)) (dC k_MOST_MEMBER)))))) (sRaise ⟨"Unfit", none⟩) sNil) [.fz X, .fz S, .un] w = .nx [.fz X, .fz S, .un] w := by
    rw [e_sIf, e_dTru, e_dUn, e_dL, c, bind_ok, bind_ok, an, bind_ok, e_truB, obind_ok]; rfl
  rw [e0, e1, e_sSeq, s1, e_sqn, e_sSeq, s2, e_sqn, e_sSeq, s3, e_sqn, e_sRet, g1, obind_ok, e_endr]

def setLD (b : Int) (rs ms : List Int) : D := .lst [.int b, .lst (rs.map .int), .lst (ms.map .int)]
theorem lists_int {k : Nat} {i : Int} {w : W} : m__law_lists (k + 1) [.int i] w = .ok (.int i) w := rfl
theorem lists_tup {k : Nat} {ds es : List D} {w : W} (f : D → D) (hz : ds.length ≤ sizeLine) (ht : ∀ d ∈ ds, m__law_lists k [d] w = .ok (f d) w) (he : es = ds.map f) : m__law_lists (k + 1) [.tup ds] w = .ok (.lst es) w := by
  show bodyD 2 (s__law_lists (m__law_lists k)) _ w = _
  generalize m__law_lists k = T at *
  unfold s__law_lists
  rw [e_body]
  have c := comp3_map (ac := []) (ac3 := [1]) (vs := [1]) (it := dUn seqM (dVar 0)) (b := bName 1) (κ := tYesM) (e := dCall 1 T (aCons (dVar 1) aNil)) (env := [.fz (.tup ds), .un]) (w := w) f rfl rfl hz rfl fun d hd => by
    refine ⟨[.fz (.tup ds), .fz d], rfl, rfl, ?_⟩
    simp only [dc1, e_dVar, g_0, g_s, e_getS, bind_ok]
    exact ht d hd
  simp [-List.map_map, tyD, subTy, c, he]
def toL : D → D
  | .tup ds => .lst ds
  | d => d
def toT : D → D
  | .lst ds => .tup ds
  | d => d
theorem lists_ints {k : Nat} {l : List Int} {w : W} (h : l.length ≤ sizeLine) : m__law_lists (k + 2) [.tup (l.map .int)] w = .ok (.lst (l.map .int)) w :=
  lists_tup id (by simpa using h) (fun d hd => by
    obtain ⟨i, _, rfl⟩ := List.mem_map.mp hd
    exact lists_int) (by simp)
theorem lists_set {b : Int} {rs ms : List Int} (h1 : rs.length ≤ 1000) (h2 : ms.length ≤ 1000) {w : W} : m__law_lists 40 [setD b rs ms] w = .ok (setLD b rs ms) w :=
  lists_tup (ds := [.int b, .tup (rs.map .int), .tup (ms.map .int)]) toL (sl_of (by simp)) (fun d hd => by
    simp only [List.mem_cons, List.not_mem_nil, or_false] at hd
    rcases hd with rfl | rfl | rfl
    · exact lists_int
    · exact lists_ints (k := 37) (sl_of (by omega))
    · exact lists_ints (k := 37) (sl_of (by omega))) rfl
theorem tupled_setL {b : Int} {rs ms : List Int} (h1 : rs.length ≤ 1000) (h2 : ms.length ≤ 1000) {w : W} : m_tupled 40 [setLD b rs ms] w = .ok (setD b rs ms) w :=
  tupled_lst (ds := [.int b, .lst (rs.map .int), .lst (ms.map .int)]) toT (sl_of (by simp)) (fun d hd => by
    simp only [List.mem_cons, List.not_mem_nil, or_false] at hd
    rcases hd with rfl | rfl | rfl
    · exact tupled_int
    · exact tupled_lints (k := 37) (sl_of (by omega))
    · exact tupled_lints (k := 37) (sl_of (by omega))) rfl

/-! POLYS as lists -/
def fqL (q : Rat) : D := .lst [.int q.num, .int q.den]
def polyL (qs : List Rat) : D := .lst (qs.map fqL)
theorem lists_poly {qs : List Rat} (h : qs.length ≤ 1000) {w : W} : m__law_lists 40 [polyQ qs] w = .ok (polyL qs) w :=
  lists_tup (ds := qs.map fq) toL (by rw [List.length_map]; exact sl_of (by omega)) (fun d hd => by
    obtain ⟨q, hq, rfl⟩ := List.mem_map.mp hd
    exact lists_ints (k := 37) (l := [q.num, (q.den : Int)]) (sl_of (by simp))) (by rw [List.map_map]; rfl)
theorem tupled_polyL {qs : List Rat} (h : qs.length ≤ 1000) {w : W} : m_tupled 40 [polyL qs] w = .ok (polyQ qs) w :=
  tupled_lst (ds := qs.map fqL) toT (by rw [List.length_map]; exact sl_of (by omega)) (fun d hd => by
    obtain ⟨q, hq, rfl⟩ := List.mem_map.mp hd
    exact tupled_lints (k := 37) (l := [q.num, (q.den : Int)]) (sl_of (by simp))) (by rw [List.map_map]; rfl)
/-! lists and tuples by draws -/
theorem mixed_int {k : Nat} {b : D} {i : Int} {w : W} : m__law_mixed (k + 1) [b, .int i] w = .ok (.int i) w := rfl
/-- the same at every depth, lists for tuples or not -/
def Mix (k : Nat) (d x : D) : Prop := ∀ w, m_tupled k [x] w = .ok d w
theorem tupled_row {k : Nat} {ds ys : List D} (t : Bool) (a : All2 (Mix k) ds ys) (hz : ys.length ≤ 1000) : Mix (k + 1) (.tup ds) (if t then .lst ys else .tup ys) := by
  intro w
  show bodyD 2 (s_tupled (m_tupled k)) _ w = _
  generalize hT : m_tupled k = T at *
  unfold s_tupled
  rw [e_body]
  have c := comp3_all2 (ac := []) (ac3 := [1]) (vs := [1]) (it := dUn seqM (dVar 0)) (b := bName 1) (e := dCall 1 T (aCons (dVar 1) aNil)) (env := [.fz (if t then .lst ys else .tup ys), .un]) (w := w) (w1 := w) a rfl (by cases t <;> rfl) (sl_of (by omega)) rfl fun d y r => by
    refine ⟨[.fz (if t then .lst ys else .tup ys), .fz y], rfl, ?_⟩
    simp only [dc1, e_dVar, g_0, g_s, e_getS, bind_ok]
    rw [← hT]
    exact r w
  cases t with
  | true =>
    have c : dComp3 [] [1] [1] (dUn seqM (dVar 0)) (bName 1) tYesM (dCall 1 T (aCons (dVar 1) aNil)) [.fz (.lst ys), .un] w = .ok ds w := c
    simp [-List.map_map, tyD, subTy, c]
  | false =>
    have c : dComp3 [] [1] [1] (dUn seqM (dVar 0)) (bName 1) tYesM (dCall 1 T (aCons (dVar 1) aNil)) [.fz (.tup ys), .un] w = .ok ds w := c
    simp [-List.map_map, tyD, subTy, c]
theorem mixed_tup {k : Nat} {ds : List D} {w : W} {m c B : Int} (h : BI w m) (hm : m < B) (hB : B ≤ 2 ^ 39) (hc : 0 ≤ c) (hz : ds.length ≤ 10) (hk : c ≤ 1000)
    (ht : ∀ d ∈ ds, ∀ w m, BI w m → m < B + 10000 → ∃ x w', m__law_mixed k [.box 0, d] w = .ok x w' ∧ Mix k d x ∧ BI w' (m + c)) : ∃ x w', m__law_mixed (k + 1) [.box 0, .tup ds] w = .ok x w' ∧ Mix (k + 1) (.tup ds) x ∧ BI w' (m + 10 * c + 1) := by
  have e0 : m__law_mixed (k + 1) [.box 0, .tup ds] w = endO (s__law_mixed (m__law_mixed k) [.fz (.box 0), .fz (.tup ds), .un, .un] w) := by
    show bodyD 4 (s__law_mixed (m__law_mixed k)) _ w = _
    rw [e_body]; rfl
  generalize hF : m__law_mixed k = F at *
  have cc : ∀ n : Nat, n ≤ 10 → (n : Int) * c ≤ 10 * c := fun n hn => Int.mul_le_mul_of_nonneg_right (by omega) hc
  obtain ⟨ys, w1, h1, h2, b1⟩ := comp3_ord (ac := []) (ac3 := [0, 3]) (vs := [3]) (it := dUn seqM (dVar 1)) (b := bName 3) (κ := tYesM) (e := dCall 2 F (aCons (dVar 0) (aCons (dVar 3) aNil))) (env := [.fz (.box 0), .fz (.tup ds), .un, .un]) (w := w) (w1 := w) (ds := ds) (Mix k) (fun n w => BI w (m + n * c)) rfl rfl (sl_of (by omega)) rfl (by simpa using h) (by
    intro d hd n w hn hb
    have := cc n (by omega)
    obtain ⟨x, w', e, mx, b⟩ := ht d hd w (m + n * c) hb (by omega)
    refine ⟨[.fz (.box 0), .fz (.tup ds), .un, .fz d], x, w', rfl, rfl, ?_, mx, ?_⟩
    · have g0 : dVar 0 [.fz (.box 0), .fz (.tup ds), .un, .fz d] w = .ok (.box 0) w := rfl
      have g3 : dVar 3 [.fz (.box 0), .fz (.tup ds), .un, .fz d] w = .ok d w := rfl
      rw [dc2, g0, bind_ok, g3, bind_ok, e]
    · rw [show m + ((n + 1 : Nat) : Int) * c = m + n * c + c by rw [Int.natCast_add, Int.add_mul]; omega]
      exact b)
  have yl := h2.len
  have := cc ds.length hz
  obtain ⟨x, w2, t, x0, x1, b2⟩ := take_ok b1 (by omega) (show (0 : Int) < 2 by decide) (by decide)
  have e1 : s__law_mixed F = sSeq (sIf (dNotT (dTru (dUn (isiD ["list", "tuple"]) (dVar 1)))) (sRet (dVar 1)) sNil) (sSeq (sOwn 2 [0, 3] (dComp3 [] [0, 3] [3] (dUn seqM (dVar 1)) (bName 3) tYesM (dCall 2 F (aCons (dVar 0) (aCons (dVar 3) aNil))))) (sRet (dIf (dB (dBin eqD (dCall 2 m__law_take (aCons (dVar 0) (aCons (dC (.int 2)) aNil))) (dC (.int 0)))) (dVar 2) (dUn tupleD (dVar 2))))) := rfl
  have s1 : (sIf (dNotT (dTru (dUn (isiD ["list", "tuple"]) (dVar 1)))) (sRet (dVar 1)) sNil) [.fz (.box 0), .fz (.tup ds), .un, .un] w = .nx [.fz (.box 0), .fz (.tup ds), .un, .un] w := rfl
  have s2 : (sOwn 2 [0, 3] (dComp3 [] [0, 3] [3] (dUn seqM (dVar 1)) (bName 3) tYesM (dCall 2 F (aCons (dVar 0) (aCons (dVar 3) aNil))))) [.fz (.box 0), .fz (.tup ds), .un, .un] w = .nx [.fz (.box 0), .fz (.tup ds), .ow (.lst ys), .un] w1 := by
    rw [e_sOwn, h1, obind_ok]; rfl
  have g0 : dVar 0 [.fz (.box 0), .fz (.tup ds), .ow (.lst ys), .un] w1 = .ok (.box 0) w1 := rfl
  have g2 : ∀ w, dVar 2 [.fz (.box 0), .fz (.tup ds), .ow (.lst ys), .un] w = .ok (.lst ys) w := fun w => rfl
  have s3 : (dIf (dB (dBin eqD (dCall 2 m__law_take (aCons (dVar 0) (aCons (dC (.int 2)) aNil))) (dC (.int 0)))) (dVar 2) (dUn tupleD (dVar 2))) [.fz (.box 0), .fz (.tup ds), .ow (.lst ys), .un] w1 = .ok (if decide (x = 0) then .lst ys else .tup ys) w2 := by
    generalize m__law_take = T at *
    rw [e_dIf, e_dB, e_dBin, dc2, g0, bind_ok, e_dC, bind_ok, t, bind_ok, e_dC, bind_ok, e_eqI, bind_ok, e_boolM, bind_ok]
    cases decide (x = 0) with
    | true => rw [if_pos rfl, if_pos rfl, g2]
    | false => rw [if_neg (by simp), if_neg (by simp), e_dUn, g2, bind_ok, e_tupL]
  refine ⟨if decide (x = 0) then .lst ys else .tup ys, w2, ?_, tupled_row _ h2 (by omega), b2.mono (by omega)⟩
  rw [e0, e1, e_sSeq, s1, e_sqn, e_sSeq, s2, e_sqn, e_sRet, s3, obind_ok, e_endr]
theorem mix_int {k : Nat} {i : Int} {w : W} {m : Int} (h : BI w m) : ∃ x w', m__law_mixed (k + 1) [.box 0, .int i] w = .ok x w' ∧ Mix (k + 1) (.int i) x ∧ BI w' (m + 0) :=
  ⟨.int i, w, mixed_int, fun w => tupled_int, by rw [Int.add_zero]; exact h⟩
theorem mix_ints {k : Nat} {l : List Int} {w : W} {m : Int} (h : BI w m) (hm : m < 2 ^ 38 + 10000) (hz : l.length ≤ 10) : ∃ x w', m__law_mixed (k + 2) [.box 0, .tup (l.map .int)] w = .ok x w' ∧ Mix (k + 2) (.tup (l.map .int)) x ∧ BI w' (m + 1) := by
  obtain ⟨x, w', e, mx, b⟩ := mixed_tup (k := k + 1) (ds := l.map .int) (c := 0) (B := 2 ^ 38 + 20000) h (by omega) (by omega) (by omega) (by rw [List.length_map]; omega) (by omega) fun d hd w m h hm => by
    obtain ⟨i, _, rfl⟩ := List.mem_map.mp hd
    exact mix_int h
  exact ⟨x, w', e, mx, b.mono (by omega)⟩
theorem mix_set {b : Int} {rs ms : List Int} {w : W} {m : Int} (h : BI w m) (hm : m < 2 ^ 37) (h1 : rs.length ≤ 10) (h2 : ms.length ≤ 10) : ∃ x w', m__law_mixed 40 [.box 0, setD b rs ms] w = .ok x w' ∧ Mix 40 (setD b rs ms) x ∧ BI w' (m + 11) := by
  obtain ⟨x, w', e, mx, b⟩ := mixed_tup (k := 39) (ds := [.int b, .tup (rs.map .int), .tup (ms.map .int)]) (c := 1) (B := 2 ^ 37) h (by omega) (by omega) (by omega) (by simp) (by omega) fun d hd w m h hm => by
    simp only [List.mem_cons, List.not_mem_nil, or_false] at hd
    rcases hd with rfl | rfl | rfl
    · obtain ⟨x, w', e, mx, b⟩ := mix_int (k := 38) (i := b) h
      exact ⟨x, w', e, mx, b.mono (by omega)⟩
    · exact mix_ints (k := 37) h (by omega) h1
    · exact mix_ints (k := 37) h (by omega) h2
  exact ⟨x, w', e, mx, b.mono (by omega)⟩
end K18
namespace DL
/-! rows of whole numbers as polynomials: how many roots -/
def ev : List Int → Int → Int
  | [], _ => 0
  | c :: l, x => c + x * ev l x
theorem ev_add : ∀ (p q : List Int) (a : Int), q.length ≤ p.length → ∃ s : List Int, s.length = p.length ∧ ∀ x, ev s x = ev p x + a * ev q x
  | p, [], a, _ => ⟨p, rfl, fun x => by show _ = _ + a * 0; omega⟩
  | [], _ :: _, _, h => absurd h (by simp)
  | c :: p, d :: q, a, h => by
    obtain ⟨s, h1, h2⟩ := ev_add p q a (by simpa using h)
    refine ⟨(c + a * d) :: s, by simp [h1], fun x => ?_⟩
    show (c + a * d) + x * ev s x = (c + x * ev p x) + a * (d + x * ev q x)
    rw [h2, Int.mul_add, Int.mul_add, Int.mul_left_comm x a]
    omega
theorem ev_factor : ∀ (l : List Int) (a : Int), ∃ q : List Int, q.length = l.length - 1 ∧ ∀ x, ev l x - ev l a = (x - a) * ev q x
  | [], a => ⟨[], rfl, fun x => by show (0 : Int) - 0 = (x - a) * 0; omega⟩
  | c :: l, a => by
    obtain ⟨q, h1, h2⟩ := ev_factor l a
    obtain ⟨s, h3, h4⟩ := ev_add l q a (by omega)
    refine ⟨s, by simp [h3], fun x => ?_⟩
    show (c + x * ev l x) - (c + a * ev l a) = (x - a) * ev s x
    have e := h2 x
    rw [h4, Int.mul_add, Int.sub_mul x a (ev l x), Int.mul_left_comm, ← e, Int.mul_sub]
    omega
theorem ev_roots : ∀ (n : Nat) (l : List Int), l.length = n → ∀ rs : List Int, rs.Nodup → n ≤ rs.length → (∀ r ∈ rs, ev l r = 0) → ∀ x, ev l x = 0
  | 0, [], _, _, _, _, _, _ => rfl
  | n + 1, l, hl, [], _, h, _, _ => absurd h (by simp)
  | n + 1, l, hl, a :: rs, nd, h, hr, x => by
    obtain ⟨q, h1, h2⟩ := ev_factor l a
    obtain ⟨na, nd2⟩ := List.nodup_cons.mp nd
    have ha : ev l a = 0 := hr a List.mem_cons_self
    have hq := ev_roots n q (by omega) rs nd2 (by simpa using h) fun r hr2 => by
      have e := h2 r
      rw [hr r (List.mem_cons_of_mem _ hr2), ha] at e
      have : r - a ≠ 0 := fun z => na (by rw [show a = r by omega]; exact hr2)
      rcases Int.mul_eq_zero.mp e.symm with z | z
      · exact absurd z this
      · exact z
    have e := h2 x
    rw [ha, hq x] at e
    omega
/-- equal rests give equal rests -/
theorem ev_mod {x y M : Int} (h : M ∣ x - y) : ∀ l : List Int, M ∣ ev l x - ev l y
  | [] => by show M ∣ 0 - 0; exact ⟨0, by omega⟩
  | c :: l => by
    show M ∣ (c + x * ev l x) - (c + y * ev l y)
    have ih := ev_mod h l
    have e : (c + x * ev l x) - (c + y * ev l y) = x * (ev l x - ev l y) + (x - y) * ev l y := by
      rw [Int.mul_sub, Int.sub_mul]; omega
    rw [e]
    exact Int.dvd_add (Int.dvd_trans ih (Int.dvd_mul_left _ _)) (Int.dvd_trans h (Int.dvd_mul_right _ _))
/-- many places, few worths: one worth stands at many places -/
theorem holes {f : Int → Int} {L : Nat} : ∀ (ms xs : List Int), (∀ x ∈ xs, f x ∈ ms) → ms.length * L < xs.length → ∃ v ∈ ms, L < (xs.filter fun x => decide (f x = v)).length
  | [], [], _, h => absurd h (by simp)
  | [], x :: _, h, _ => absurd (h x List.mem_cons_self) (by simp)
  | v :: ms, xs, h, hl => by
    by_cases hv : L < (xs.filter fun x => decide (f x = v)).length
    · exact ⟨v, List.mem_cons_self, hv⟩
    · have sp : (xs.filter fun x => decide (f x = v)).length + (xs.filter fun x => !decide (f x = v)).length = xs.length := by
        clear h hl hv
        induction xs with
        | nil => rfl
        | cons x xs ih =>
          by_cases q : f x = v <;> simp [List.filter_cons, q] <;> omega
      rw [List.length_cons, Nat.add_mul] at hl
      obtain ⟨u, hu, lu⟩ := holes (f := f) (L := L) ms (xs.filter fun x => !decide (f x = v)) (fun x hx => by
        obtain ⟨h1, h2⟩ := List.mem_filter.mp hx
        rcases List.mem_cons.mp (h x h1) with e | e
        · rw [decide_eq_true e] at h2; cases h2
        · exact e) (by omega)
      refine ⟨u, List.mem_cons_of_mem _ hu, Nat.lt_of_lt_of_le lu ?_⟩
      rw [List.filter_filter]
      clear lu hl hv sp h
      induction xs with
      | nil => simp
      | cons x xs ih =>
        by_cases q : f x = u
        · by_cases q2 : f x = v <;> simp [List.filter_cons, q, q2] <;> (try rw [q] at q2) <;> simp_all <;> omega
        · by_cases q2 : f x = v <;> simp [List.filter_cons, q, q2] <;> simp_all <;> omega
theorem ev_const {l ms : List Int} {n step : Int} (hs : 0 < step) {N : Nat} (hN : ms.length * max l.length 1 < N) (h : ∀ lap : Nat, lap < N → ev l (n + lap * step) ∈ ms) : ∃ v ∈ ms, ∀ x, ev l x = v := by
  obtain ⟨v, hv, hl⟩ := holes (f := ev l) (L := max l.length 1) ms ((List.range N).map fun k : Nat => n + k * step) (fun x hx => by
    obtain ⟨k, hk, rfl⟩ := List.mem_map.mp hx
    exact h k (List.mem_range.mp hk)) (by rw [List.length_map, List.length_range]; exact hN)
  have nd : (((List.range N).map fun k : Nat => n + k * step).filter fun x => decide (ev l x = v)).Nodup := by
    refine List.Pairwise.filter _ ?_
    rw [List.pairwise_map]
    refine List.pairwise_lt_range.imp fun {a b} hab e => ?_
    have : (a : Int) * step < b * step := Int.mul_lt_mul_of_pos_right (by omega) hs
    omega
  have hr : ∀ r ∈ ((List.range N).map fun k : Nat => n + k * step).filter fun x => decide (ev l x = v), ev l r = v := fun r hr => of_decide_eq_true (List.mem_filter.mp hr).2
  refine ⟨v, hv, fun x => ?_⟩
  cases l with
  | nil =>
    cases hq : ((List.range N).map fun k : Nat => n + k * step).filter fun x => decide (ev [] x = v) with
    | nil => rw [hq] at hl; simp at hl
    | cons r _ =>
      have := hr r (by rw [hq]; exact List.mem_cons_self)
      exact this
  | cons c l =>
    have e : ∀ x, ev ((c - v) :: l) x = ev (c :: l) x - v := fun x => by
      show c - v + x * ev l x = c + x * ev l x - v
      omega
    have := ev_roots _ ((c - v) :: l) rfl _ nd (by simp only [List.length_cons] at hl ⊢; omega) (fun r hr2 => by rw [e, hr r hr2]; omega) x
    rw [e] at this
    omega
end DL
namespace DL
open PySem
/-! rests of members -/
def stepL (i j c : Int) : List Int := (List.range ((j - i - 1) / c + 1).toNat).map fun (k : Nat) => i + (k : Int) * c
theorem step_mem {i j c x : Int} (hc : 0 < c) (h : i < j) : x ∈ stepL i j c ↔ ∃ k : Nat, x = i + (k : Int) * c ∧ x < j := by
  unfold stepL
  rw [List.mem_map]
  constructor
  · rintro ⟨k, hk, rfl⟩
    have hk := List.mem_range.mp hk
    refine ⟨k, rfl, ?_⟩
    have h1 : (k : Int) ≤ (j - i - 1) / c := by omega
    have h2 : (k : Int) * c ≤ (j - i - 1) / c * c := Int.mul_le_mul_of_nonneg_right h1 (by omega)
    have h3 := Int.ediv_mul_le (j - i - 1) (show c ≠ 0 by omega)
    omega
  · rintro ⟨k, rfl, h2⟩
    refine ⟨k, List.mem_range.mpr ?_, rfl⟩
    have : (k : Int) ≤ (j - i - 1) / c := (Int.le_ediv_iff_mul_le hc).mpr (by omega)
    omega
theorem e_rng3 {i j c : Int} (hc : 0 < c) (hc2 : c ≤ 100000) (hi : 0 ≤ i) (hij : i < j) (hj : j ≤ 1000000000) {w : W} : rng3 (.int i) (.int j) (.int c) w = .ok ((stepL i j c).map .int) w := by
  have d1 : 0 ≤ (j - i - 1) / c := Int.ediv_nonneg (by omega) (by omega)
  have d2 : (j - i - 1) / c ≤ j - i - 1 := Int.ediv_le_self c (by omega)
  have sz : Builtin.Range.rangeSize i j c = (j - i - 1) / c + 1 := by
    unfold Builtin.Range.rangeSize
    rw [if_pos (by omega), if_pos hij]
  have sm : Builtin.Range.small i j c = true := by
    unfold Builtin.Range.small
    rw [sz]
    unfold Builtin.Range.rangeFitsLong
    rw [if_pos (by omega)]
    simp
    omega
  show (if c ≠ 0 ∧ c.natAbs < 1073741824 ∧ Builtin.Range.small i j c = true ∧ 0 ≤ Builtin.Range.rangeSize i j c then Res.ok (rngL i c (Builtin.Range.rangeSize i j c).toNat) w else .st) = _
  rw [if_pos ⟨by omega, by omega, sm, by omega⟩, sz]
  unfold rngL stepL
  rw [List.map_map]; rfl
theorem asc_len : ∀ {l : List Int} {lo : Int} {n : Nat}, l.Pairwise (· < ·) → (∀ x ∈ l, lo ≤ x ∧ x < lo + n) → l.length ≤ n
  | [], _, _, _, _ => by simp
  | x :: l, lo, n, h, hr => by
    obtain ⟨h1, h2⟩ := List.pairwise_cons.mp h
    have hx := hr x List.mem_cons_self
    have := asc_len (l := l) (lo := lo + 1) (n := n - 1) h2 fun y hy => by
      have := h1 y hy
      have := hr y (List.mem_cons_of_mem _ hy)
      omega
    simp only [List.length_cons]
    omega
def spanL (lo hi : Int) : List Int := (List.range (hi + 1 - lo).toNat).map fun (k : Nat) => lo + (k : Int)
theorem span_mem {lo hi x : Int} : x ∈ spanL lo hi ↔ lo ≤ x ∧ x ≤ hi := by
  unfold spanL
  rw [List.mem_map]
  constructor
  · rintro ⟨k, hk, rfl⟩
    have := List.mem_range.mp hk
    omega
  · intro h
    exact ⟨(x - lo).toNat, List.mem_range.mpr (by omega), by omega⟩
theorem span_len {lo hi : Int} : (spanL lo hi).length = (hi + 1 - lo).toNat := by unfold spanL; simp
theorem rng_span {lo hi : Int} {w : W} (h1 : -(2 ^ 40) ≤ lo) (h2 : lo ≤ 2 ^ 40) (h3 : -(2 ^ 40) ≤ hi) (h4 : hi ≤ 2 ^ 40) : rng2 (.int lo) (.int (hi + 1)) w = .ok ((spanL lo hi).map .int) w := by
  rw [DL.e_rng2 (i := lo) (j := hi + 1) (by omega) (by omega) (by omega) (by omega), rng_map]
  unfold spanL
  rw [List.map_map]; rfl
end DL
namespace K18
open PySem DL
theorem horZ_app {j c : Int} : ∀ (l : List Int) (t : Int), horZ j t (l ++ [c]) = horZ j t l * j + c
  | [], t => rfl
  | r :: l, t => by
    show horZ j (t * j + r) (l ++ [c]) = horZ j (t * j + r) l * j + c
    exact horZ_app l _
theorem horZ_ev {j : Int} : ∀ l : List Int, horZ j 0 l.reverse = ev l j
  | [] => rfl
  | c :: l => by
    rw [List.reverse_cons, horZ_app, horZ_ev l, Int.mul_comm]
    show _ = c + j * ev l j
    omega
theorem wv_eq {qs : List Rat} {j : Int} : wv qs j = mkRat (ev (rowL (rowU 1 qs) qs) j) (rowU 1 qs) := by
  unfold wv
  rw [horZ_ev]
theorem mk_cross {F : Int} {U : Nat} (h : U ≠ 0) : F * (mkRat F U).den = (mkRat F U).num * U := by
  have e := Rat.mkRat_self (mkRat F U)
  exact ((Rat.mkRat_eq_iff (mkRat F U).den_nz h).mp e).symm
theorem mk_whole {F k : Int} {U : Nat} (h : U ≠ 0) (e : F = k * U) : (mkRat F U).den = 1 ∧ (mkRat F U).num = k := by
  have : mkRat F U = mkRat k 1 := (Rat.mkRat_eq_iff h (by omega)).mpr (by rw [e]; simp)
  rw [this, Rat.mkRat_one]
  exact ⟨rfl, rfl⟩
def leadB (b2 : Int) (rs2 ms2 : List Int) (q : Rat) : Bool := decide ((q.den : Int) = 1) && hasB b2 rs2 ms2 q.num
theorem leadB_iff {b2 : Int} {rs2 ms2 : List Int} {qs : List Rat} {U : Nat} (hU : rowU 1 qs = U) (h : U ≠ 0) {x : Int} : leadB b2 rs2 ms2 (wv qs x) = true ↔ ∃ v : Int, ev (rowL U qs) x = v * U ∧ (wv qs x).num = v ∧ (v % b2 ∈ rs2 ∨ v ∈ ms2) := by
  have hw : wv qs x = mkRat (ev (rowL U qs) x) U := by rw [wv_eq, hU]
  unfold leadB hasB
  rw [Bool.and_eq_true, decide_eq_true_eq, Bool.or_eq_true, decide_eq_true_eq, decide_eq_true_eq]
  constructor
  · rintro ⟨d, hh⟩
    refine ⟨(wv qs x).num, ?_, rfl, hh⟩
    have e := mk_cross (F := ev (rowL U qs) x) h
    rw [← hw] at e
    rw [d, Int.mul_one] at e
    exact e
  · rintro ⟨v, e, n, hh⟩
    have := mk_whole h e
    rw [← hw] at this
    rw [n]
    exact ⟨by rw [this.1]; rfl, hh⟩
/-- what the loop over laps tells of a number -/
def Cond (b2 : Int) (rs2 ms2 : List Int) (qs : List Rat) (step : Int) (N : Nat) (n : Int) : Prop :=
  (∃ lap : Nat, lap < N ∧ leadB b2 rs2 ms2 (wv qs (n + lap * step)) = true ∧ (wv qs (n + lap * step)).num % b2 ∈ rs2) ∨ ∀ lap : Nat, lap < N → leadB b2 rs2 ms2 (wv qs (n + lap * step)) = true ∧ (wv qs (n + lap * step)).num % b2 ∉ rs2
theorem cond_all {b2 : Int} {rs2 ms2 : List Int} {qs : List Rat} {step : Int} {U : Nat} (hU : rowU 1 qs = U) (h : U ≠ 0) (hb : 0 < b2) (hs : 0 < step) (hd : b2 * U ∣ step) {n : Int} (hc : Cond b2 rs2 ms2 qs step (ms2.length * max qs.length 1 + 2) n) {y : Int} (hy : step ∣ y - n) : leadB b2 rs2 ms2 (wv qs y) = true := by
  have U0 : (0 : Int) < U := by omega
  rw [leadB_iff hU h]
  rcases hc with ⟨lap, _, hl, hr⟩ | ha
  · obtain ⟨v, e, hn, _⟩ := (leadB_iff hU h).mp hl
    rw [hn] at hr
    have dv : b2 * U ∣ y - (n + lap * step) := by
      refine Int.dvd_trans hd ?_
      rw [show y - (n + lap * step) = (y - n) - lap * step by omega]
      exact Int.dvd_sub hy (Int.dvd_mul_left _ _)
    obtain ⟨t, ht⟩ := ev_mod dv (rowL U qs)
    have ey : ev (rowL U qs) y = (v + b2 * t) * U := by
      have : ev (rowL U qs) y = v * U + b2 * U * t := by omega
      rw [this, Int.add_mul, Int.mul_right_comm]
    have hw : wv qs y = mkRat (ev (rowL U qs) y) U := by rw [wv_eq, hU]
    refine ⟨v + b2 * t, ey, ?_, .inl ?_⟩
    · rw [hw]; exact (mk_whole h ey).2
    · rw [Int.add_mul_emod_self_left]; exact hr
  · have h1 : ∀ lap : Nat, lap < ms2.length * max qs.length 1 + 2 → ev (rowL U qs) (n + lap * step) ∈ ms2.map (· * (U : Int)) := fun lap hl => by
      obtain ⟨a, b⟩ := ha lap hl
      obtain ⟨v, e, hn, hh⟩ := (leadB_iff hU h).mp a
      rw [hn] at b
      exact List.mem_map.mpr ⟨v, hh.resolve_left b, e.symm⟩
    obtain ⟨v, hv, hx⟩ := ev_const hs (N := ms2.length * max qs.length 1 + 2) (by rw [List.length_map, lenL]; omega) h1
    obtain ⟨u, hu, rfl⟩ := List.mem_map.mp hv
    have ey : ev (rowL U qs) y = u * U := hx y
    have hw : wv qs y = mkRat (ev (rowL U qs) y) U := by rw [wv_eq, hU]
    exact ⟨u, ey, by rw [hw]; exact (mk_whole h ey).2, .inr hu⟩
/-- the members that the law asks -/
def wideL (b : Int) (rs ms : List Int) (hi : Int) : List Int := (spanL 0 hi).filter (hasB b rs ms) ++ ms
theorem wide_mem {b hi : Int} {rs ms : List Int} {x : Int} : x ∈ wideL b rs ms hi ↔ ((0 ≤ x ∧ x ≤ hi) ∧ hasB b rs ms x = true) ∨ x ∈ ms := by
  unfold wideL
  rw [List.mem_append, List.mem_filter, span_mem]
theorem has_iff {b : Int} {rs ms : List Int} {x : Int} : hasB b rs ms x = true ↔ x % b ∈ rs ∨ x ∈ ms := by
  unfold hasB
  rw [Bool.or_eq_true, decide_eq_true_eq, decide_eq_true_eq]
/-- what out_in answers -/
def Found (b : Int) (rs ms : List Int) (b2 : Int) (rs2 ms2 : List Int) (qs : List Rat) (step : Int) : Option Int → Prop
  | none => (∀ r ∈ rs, ∀ n ∈ stepL r step b, Cond b2 rs2 ms2 qs step (ms2.length * max qs.length 1 + 2) n) ∧ ∀ m ∈ ms, leadB b2 rs2 ms2 (wv qs m) = true
  | some x => ((∃ r ∈ rs, ∃ n ∈ stepL r step b, ∃ lap : Nat, lap < ms2.length * max qs.length 1 + 2 ∧ x = n + lap * step) ∨ x ∈ ms) ∧ leadB b2 rs2 ms2 (wv qs x) = false
theorem found_none {b b2 step : Int} {rs ms rs2 ms2 : List Int} {qs : List Rat} {U : Nat} (hU : rowU 1 qs = U) (h : U ≠ 0) (hb : 0 < b) (hb2 : 0 < b2) (hs : 0 < step) (hd : b2 * U ∣ step) (hd2 : b ∣ step) (hrs : ∀ r ∈ rs, 0 ≤ r ∧ r < b)
    (hf : Found b rs ms b2 rs2 ms2 qs step none) {y : Int} (hy : y % b ∈ rs ∨ y ∈ ms) : leadB b2 rs2 ms2 (wv qs y) = true := by
  rcases hy with hy | hy
  · have hr := hrs _ hy
    have n1 := Int.emod_nonneg y (show step ≠ 0 by omega)
    have n2 := Int.emod_lt_of_pos y hs
    have eb : (y % step) % b = y % b := Int.emod_emod_of_dvd y hd2
    have bs : b ≤ step := Int.le_of_dvd hs hd2
    have hn : y % step ∈ stepL (y % b) step b := by
      refine (step_mem hb (by omega)).mpr ⟨((y % step) / b).toNat, ?_, n2⟩
      have q := Int.mul_ediv_add_emod (y % step) b
      have q0 : 0 ≤ (y % step) / b := Int.ediv_nonneg n1 (by omega)
      rw [Int.toNat_of_nonneg q0, ← eb, Int.mul_comm]
      omega
    exact cond_all hU h hb2 hs hd (hf.1 _ hy _ hn) (Int.dvd_self_sub_emod)
  · exact hf.2 y hy
theorem found_some {b b2 step x : Int} {rs ms rs2 ms2 : List Int} {qs : List Rat} (hb : 0 < b) (hs : 0 < step) (hd2 : b ∣ step) (hrs : ∀ r ∈ rs, 0 ≤ r ∧ r < b)
    (hf : Found b rs ms b2 rs2 ms2 qs step (some x)) : x ∈ wideL b rs ms (step * (2 + (ms2.length * max qs.length 1 : Nat))) ∧ hasB b rs ms x = true ∧ leadB b2 rs2 ms2 (wv qs x) = false := by
  obtain ⟨h1, h2⟩ := hf
  rcases h1 with ⟨r, hr, n, hn, lap, hl, rfl⟩ | hm
  · have hr2 := hrs r hr
    have bs : b ≤ step := Int.le_of_dvd hs hd2
    obtain ⟨k, rfl, lt⟩ := (step_mem hb (by omega)).mp hn
    have e : (r + k * b + lap * step) % b = r := by
      obtain ⟨c, rfl⟩ := hd2
      rw [show r + k * b + lap * (b * c) = r + b * (k + lap * c) by rw [Int.mul_add, Int.mul_comm b k, Int.mul_left_comm]; omega, Int.add_mul_emod_self_left, Int.emod_eq_of_lt hr2.1 hr2.2]
    have hh : hasB b rs ms (r + k * b + lap * step) = true := has_iff.mpr (.inl (by rw [e]; exact hr))
    refine ⟨wide_mem.mpr (.inl ⟨⟨?_, ?_⟩, hh⟩), hh, h2⟩
    · have : 0 ≤ (k : Int) * b := Int.mul_nonneg (by omega) (by omega)
      have : 0 ≤ (lap : Int) * step := Int.mul_nonneg (by omega) (by omega)
      omega
    · have : (lap : Int) * step ≤ ((ms2.length * max qs.length 1 : Nat) + 1) * step := Int.mul_le_mul_of_nonneg_right (by omega) (by omega)
      rw [Int.mul_add, Int.mul_comm step]
      rw [Int.add_mul] at this
      rw [Int.mul_comm step]
      omega
  · exact ⟨wide_mem.mpr (.inr hm), has_iff.mpr (.inr hm), h2⟩
end K18
namespace K18
open PySem DL
theorem for_rt {b : TM} {τ : SM} {d v : D} {ds : List D} {env env1 : DL.Env} {w w2 : W} (h : b d env = some env1) (h2 : τ env1 w = .rt v w2) : DL.forM b τ (d :: ds) env w = .rt v w2 := by
  unfold DL.forM
  rw [h]
  simp only [h2]
/-- a for that goes on, breaks or tells -/
theorem for_run {b : TM} {τ : SM} {w : W} (I : DL.Env → Prop) (P B : D → Prop) (V : D → D → Prop) : ∀ (ds : List D) (env : DL.Env), I env → (∀ d ∈ ds, ∀ env, I env → ∃ env1, b d env = some env1 ∧ ((∃ env', τ env1 w = .nx env' w ∧ I env' ∧ P d) ∨ (∃ env', τ env1 w = .bk env' w ∧ I env' ∧ B d) ∨ ∃ v, τ env1 w = .rt v w ∧ V d v)) →
    (∃ env', DL.forM b τ ds env w = .nx env' w ∧ I env' ∧ ((∀ d ∈ ds, P d) ∨ ∃ d ∈ ds, B d)) ∨ ∃ d ∈ ds, ∃ v, DL.forM b τ ds env w = .rt v w ∧ V d v
  | [], env, h0, _ => .inl ⟨env, rfl, h0, .inl (by simp)⟩
  | d :: ds, env, h0, h => by
    obtain ⟨env1, h1, h2⟩ := h d List.mem_cons_self env h0
    rcases h2 with ⟨env', e, i, p⟩ | ⟨env', e, i, p⟩ | ⟨v, e, p⟩
    · rcases for_run I P B V ds env' i fun d hd => h d (List.mem_cons_of_mem _ hd) with ⟨env2, e2, i2, p2⟩ | ⟨d2, hd2, v, e2, p2⟩
      · refine .inl ⟨env2, by rw [for_nx h1 e, e2], i2, ?_⟩
        rcases p2 with p2 | ⟨d2, hd2, p2⟩
        · refine .inl fun d3 hd3 => ?_
          rcases List.mem_cons.mp hd3 with rfl | hd3
          · exact p
          · exact p2 d3 hd3
        · exact .inr ⟨d2, List.mem_cons_of_mem _ hd2, p2⟩
      · exact .inr ⟨d2, List.mem_cons_of_mem _ hd2, v, by rw [for_nx h1 e, e2], p2⟩
    · exact .inl ⟨env', for_bk h1 e, i, .inr ⟨d, List.mem_cons_self, p⟩⟩
    · exact .inr ⟨d, List.mem_cons_self, v, for_rt h1 e, p⟩
theorem led_ok {b2 : Int} {rs2 ms2 : List Int} {qs : List Rat} (G2 : GoodS b2 rs2 ms2) (h : OkQ qs) {n : Int} (hn : n.natAbs < JB) {w : W} : m_is_led_at [polyQ qs, .int n, setD b2 rs2 ms2] w = .ok (.bl (leadB b2 rs2 ms2 (wv qs n))) w := by
  have v := value_ok h hn (w := w)
  have hs := has_ok (b := b2) (rs := rs2) (ms := ms2) (by have := G2.b1; omega) (n := (wv qs n).num) (w := w)
  unfold leadB
  unfold fq at v
  clear hn
  generalize wv qs n = q at *
  generalize hasB b2 rs2 ms2 q.num = HB at *
  generalize q.num = NN at *
  generalize (q.den : Int) = DD at *
  generalize setD b2 rs2 ms2 = B at *
  generalize polyQ qs = P at *
  have e0 : m_is_led_at [P, .int n, B] w = endO (s_is_led_at [.fz P, .fz (.int n), .fz B, .un, .un] w) := by
    unfold m_is_led_at
    rw [e_body]; rfl
  have e1 : s_is_led_at = sSeq (sAsg (bTup 2 (bCons (bName 3) (bCons (bName 4) bNil))) [0, 1] (dCall 2 m_value_in (aCons (dVar 0) (aCons (dVar 1) aNil)))) (sRet (dAnd (dBin eqD (dVar 4) (dC (.int 1))) (dCall 2 m_has_member (aCons (dVar 2) (aCons (dVar 3) aNil))))) := rfl
  have t1 : sAsg (bTup 2 (bCons (bName 3) (bCons (bName 4) bNil))) [0, 1] (dCall 2 m_value_in (aCons (dVar 0) (aCons (dVar 1) aNil))) [.fz P, .fz (.int n), .fz B, .un, .un] w = .nx [.fz P, .fz (.int n), .fz B, .fz (.int NN), .fz (.int DD)] w := by
    have g0 : dVar 0 [.fz P, .fz (.int n), .fz B, .un, .un] w = .ok P w := rfl
    have g1 : dVar 1 [.fz P, .fz (.int n), .fz B, .un, .un] w = .ok (.int n) w := rfl
    rw [e_sAsg, dc2, g0, bind_ok, g1, bind_ok, v, obind_ok]; rfl
  have g2 : dVar 2 [.fz P, .fz (.int n), .fz B, .fz (.int NN), .fz (.int DD)] w = .ok B w := rfl
  have g3 : dVar 3 [.fz P, .fz (.int n), .fz B, .fz (.int NN), .fz (.int DD)] w = .ok (.int NN) w := rfl
  have g4 : dVar 4 [.fz P, .fz (.int n), .fz B, .fz (.int NN), .fz (.int DD)] w = .ok (.int DD) w := rfl
  rw [e0, e1, e_sSeq, t1, e_sqn, e_sRet, e_dAnd, e_dBin, g4, bind_ok, e_dC, bind_ok, e_eqI, bind_ok, e_truB, bind_ok]
  cases decide (DD = 1) with
  | true => rw [if_pos rfl, dc2, g2, bind_ok, g3, bind_ok, hs]; rfl
  | false => rfl

theorem round_ok {b b2 : Int} {rs ms rs2 ms2 : List Int} {qs : List Rat} (h : OkQ qs) {U : Nat} (hU : rowU 1 qs = U) (h1 : 1 ≤ b) (h2 : b ≤ 10) (h3 : 1 ≤ b2) (h4 : b2 ≤ 10) (u1 : U ≠ 0) (u2 : U ≤ 2) {w : W} : m_round_in [setD b rs ms, polyQ qs, setD b2 rs2 ms2] w = .ok (.int (Nat.lcm b.toNat (b2.toNat * U))) w := by
  have rw0 := row_ok h (w := w)
  rw [hU] at rw0
  have cb : (b.toNat : Int) = b := Int.toNat_of_nonneg (by omega)
  have cb2 : (b2.toNat : Int) = b2 := Int.toNat_of_nonneg (by omega)
  have bu : b2.toNat * U ≤ 10 * 2 := Nat.mul_le_mul (by omega) u2
  have bp : b2.toNat * U ≠ 0 := Nat.mul_ne_zero (by omega) u1
  have l := least_ok (a := b.toNat) (b := b2.toNat * U) (w := w) (by omega) bp (by omega) (by omega)
  have le : Nat.lcm b.toNat (b2.toNat * U) ≤ 200 := Nat.le_trans (lcm_le (by omega) bp) (Nat.le_trans (Nat.mul_le_mul (show b.toNat ≤ 10 by omega) bu) (by omega))
  rw [Int.natCast_mul, cb, cb2] at l
  have ml : mulD (.int b2) (.int (U : Int)) w = .ok (.int (b2 * (U : Int))) w := e_mulr (by omega) (by omega)
  have i0 : ixD (setD b rs ms) (.int 0) w = .ok (.int b) w := ix_t0
  have i2 : ixD (setD b2 rs2 ms2) (.int 0) w = .ok (.int b2) w := ix_t0
  have gt : gtD (.int ((Nat.lcm b.toNat (b2.toNat * U) : Nat) : Int)) (.int 20000) w = .ok (.bl false) w := by rw [e_gt, decide_eq_false (by omega)]
  have ix : ixD (.tup [.int (U : Int), .lst ((rowL U qs).map .int)]) (.int 0) w = .ok (.int (U : Int)) w := ix_t0
  clear le bu bp cb cb2
  generalize ((Nat.lcm b.toNat (b2.toNat * U) : Nat) : Int) = ST at *
  generalize setD b rs ms = A at *
  generalize setD b2 rs2 ms2 = B at *
  generalize polyQ qs = P at *
  generalize D.tup [.int (U : Int), .lst ((rowL U qs).map .int)] = RW at *
  generalize (U : Int) = UU at *
  have e0 : m_round_in [A, P, B] w = endO (s_round_in [.fz A, .fz P, .fz B, .un] w) := by
    unfold m_round_in
    rw [e_body]; rfl
  have g0 : dVar 0 [.fz A, .fz P, .fz B, .un] w = .ok A w := rfl
  have g1 : dVar 1 [.fz A, .fz P, .fz B, .un] w = .ok P w := rfl
  have g2 : dVar 2 [.fz A, .fz P, .fz B, .un] w = .ok B w := rfl
  have g3 : dVar 3 [.fz A, .fz P, .fz B, .fz (.int ST)] w = .ok (.int ST) w := rfl
  have es : s_round_in = sSeq (sAsg (bName 3) [] (dCall 2 m_least_of (aCons (dBin ixD (dVar 0) (dC (.int 0))) (aCons (dBin mulD (dBin ixD (dVar 2) (dC (.int 0))) (dBin ixD (dCall 1 m_whole_row (aCons (dVar 1) aNil)) (dC (.int 0)))) aNil)))) (sSeq (sIf (dB (dBin gtD (dVar 3) (dC k_MOST_STEPS))) (sRaise ⟨"TooMany", none⟩) sNil) (sRet (dVar 3))) := rfl
  have s1 : (sAsg (bName 3) [] (dCall 2 m_least_of (aCons (dBin ixD (dVar 0) (dC (.int 0))) (aCons (dBin mulD (dBin ixD (dVar 2) (dC (.int 0))) (dBin ixD (dCall 1 m_whole_row (aCons (dVar 1) aNil)) (dC (.int 0)))) aNil)))) [.fz A, .fz P, .fz B, .un] w = .nx [.fz A, .fz P, .fz B, .fz (.int ST)] w := by
    generalize m_least_of = F at *
    generalize m_whole_row = F2 at *
    rw [e_sAsg, dc2, e_dBin, g0, bind_ok, e_dC, bind_ok, i0, bind_ok, e_dBin, e_dBin, g2, bind_ok, e_dC, bind_ok, i2, bind_ok, e_dBin, dc1, g1, bind_ok, rw0, bind_ok, e_dC, bind_ok, ix, bind_ok, ml, bind_ok, l, obind_ok]
    rfl
  have k : (dB (dBin gtD (dVar 3) (dC k_MOST_STEPS))) [.fz A, .fz P, .fz B, .fz (.int ST)] w = .ok false w := by
    rw [e_dB, e_dBin, g3, bind_ok, e_dC, bind_ok, k_MOST_STEPS, gt, bind_ok, e_boolM]
  rw [e0, es, e_sSeq, s1, e_sqn, e_sSeq, e_sIf, k, obind_ok, if_neg (by simp), e_sNil, e_sqn, e_sRet, g3, obind_ok, e_endr]
/-! out_in -/
def lapN : EM (List D) := (dUn rng1 (dBin addD (dBin mulD (dUn lenD (dBin ixD (dVar 2) (dC (.int 2)))) (dBin maxD (dUn lenD (dVar 1)) (dC (.int 1)))) (dC (.int 2))))
def lapB : SM := (sSeq (sIf (dNotT (dTru (dCall 3 m_is_led_at (aCons (dVar 1) (aCons (dBin addD (dVar 6) (dBin mulD (dVar 7) (dVar 3))) (aCons (dVar 2) aNil)))))) (sRet (dBin addD (dVar 6) (dBin mulD (dVar 7) (dVar 3)))) sNil) (sIf (dB (dBin (inD false) (dBin modD (dBin ixD (dCall 2 m_value_in (aCons (dVar 1) (aCons (dBin addD (dVar 6) (dBin mulD (dVar 7) (dVar 3))) aNil))) (dC (.int 0))) (dBin ixD (dVar 2) (dC (.int 0)))) (dBin ixD (dVar 2) (dC (.int 1))))) sBreak sNil))
def numB : SM := sFor [] lapN (bName 7) lapB
def restB : SM := sFor [] (dTri rng3 (dVar 4) (dVar 3) (dBin ixD (dVar 0) (dC (.int 0)))) (bName 6) numB
section
variable {b b2 step : Int} {rs ms rs2 ms2 : List Int} {qs : List Rat} {w : W}
def oenv (A P B : D) (step : Int) (s4 s6 s7 s8 : Slot) : DL.Env := [.fz A, .fz P, .fz B, .fz (.int step), s4, .un, s6, s7, s8]
theorem lap_body (G2 : GoodS b2 rs2 ms2) (h : OkQ qs) (hs : 0 < step) (hs2 : step ≤ 1000) {n : Int} (hn : 0 ≤ n) (hn2 : n ≤ 1000) {lap : Nat} (hl : lap ≤ 1000) {A : D} {s4 : Slot} :
    let env := oenv A (polyQ qs) (setD b2 rs2 ms2) step s4 (.fz (.int n)) (.fz (.int lap)) .un
    (leadB b2 rs2 ms2 (wv qs (n + lap * step)) = false ∧ lapB env w = .rt (.int (n + lap * step)) w) ∨
    (leadB b2 rs2 ms2 (wv qs (n + lap * step)) = true ∧ (((wv qs (n + lap * step)).num % b2 ∈ rs2 ∧ lapB env w = .bk env w) ∨ ((wv qs (n + lap * step)).num % b2 ∉ rs2 ∧ lapB env w = .nx env w))) := by
  intro env
  have b0 : 0 < b2 := by have := G2.b1; omega
  have lb : (lap : Int) * step ≤ 1000 * 1000 := Int.le_trans (Int.mul_le_mul_of_nonneg_right (show (lap : Int) ≤ 1000 by omega) (by omega)) (Int.mul_le_mul_of_nonneg_left hs2 (by omega))
  have lb0 : 0 ≤ (lap : Int) * step := Int.mul_nonneg (by omega) (by omega)
  have jb : (n + lap * step).natAbs < JB := Nat.lt_of_lt_of_le (show (n + lap * step).natAbs < 2 ^ 40 by omega) (Nat.pow_le_pow_right (by omega) (by omega))
  have ld := led_ok G2 h jb (w := w)
  have v := value_ok h jb (w := w)
  have ml : mulD (.int (lap : Int)) (.int step) w = .ok (.int (lap * step)) w := e_mulr (by omega) (by omega)
  have i0 : ixD (setD b2 rs2 ms2) (.int 0) w = .ok (.int b2) w := ix_t0
  have i1 : ixD (setD b2 rs2 ms2) (.int 1) w = .ok (.tup (rs2.map .int)) w := ix_t1
  have md : modD (.int (wv qs (n + lap * step)).num) (.int b2) w = .ok (.int ((wv qs (n + lap * step)).num % b2)) w := e_modp b0
  have inn := in_tup (neg := false) (n := (wv qs (n + lap * step)).num % b2) (l := rs2) (w := w)
  unfold fq at v
  have he : env = oenv A (polyQ qs) (setD b2 rs2 ms2) step s4 (.fz (.int n)) (.fz (.int lap)) .un := rfl
  clear_value env
  generalize (wv qs (n + lap * step)).num = NN at *
  generalize ((wv qs (n + lap * step)).den : Int) = DD at *
  generalize leadB b2 rs2 ms2 (wv qs (n + lap * step)) = LB at *
  generalize polyQ qs = P at *
  generalize setD b2 rs2 ms2 = B at *
  clear lb lb0 jb
  generalize (lap : Int) = lp at *
  have g1 : dVar 1 env w = .ok P w := by rw [he]; rfl
  have g2 : dVar 2 env w = .ok B w := by rw [he]; rfl
  have g3 : dVar 3 env w = .ok (.int step) w := by rw [he]; rfl
  have g6 : dVar 6 env w = .ok (.int n) w := by rw [he]; rfl
  have g7 : dVar 7 env w = .ok (.int lp) w := by rw [he]; rfl
  have at' : (dBin addD (dVar 6) (dBin mulD (dVar 7) (dVar 3))) env w = .ok (.int (n + lp * step)) w := by
    rw [e_dBin, g6, bind_ok, e_dBin, g7, bind_ok, g3, bind_ok, ml, bind_ok, e_add]
  have k1 : (dNotT (dTru (dCall 3 m_is_led_at (aCons (dVar 1) (aCons (dBin addD (dVar 6) (dBin mulD (dVar 7) (dVar 3))) (aCons (dVar 2) aNil)))))) env w = .ok (!LB) w := by
    generalize m_is_led_at = F at *
    rw [e_dNotT, e_dTru, dc3, g1, bind_ok, at', bind_ok, g2, bind_ok, ld, bind_ok, e_truB, bind_ok]
  have k2 : (dB (dBin (inD false) (dBin modD (dBin ixD (dCall 2 m_value_in (aCons (dVar 1) (aCons (dBin addD (dVar 6) (dBin mulD (dVar 7) (dVar 3))) aNil))) (dC (.int 0))) (dBin ixD (dVar 2) (dC (.int 0)))) (dBin ixD (dVar 2) (dC (.int 1))))) env w = .ok (decide (NN % b2 ∈ rs2)) w := by
    generalize m_value_in = F at *
    rw [e_dB, e_dBin, e_dBin, e_dBin, dc2, g1, bind_ok, at', bind_ok, v, bind_ok, e_dC, bind_ok, ix_t0, bind_ok, e_dBin, g2, bind_ok, e_dC, bind_ok, i0, bind_ok, md, bind_ok, e_dBin, g2, bind_ok, e_dC, bind_ok, i1, bind_ok, inn, bind_ok]
    rfl
  cases LB with
  | false =>
    refine .inl ⟨rfl, ?_⟩
    unfold lapB
    rw [e_sSeq, e_sIf, k1, obind_ok, if_pos (by rfl), e_sRet, at', obind_ok]; rfl
  | true =>
    refine .inr ⟨rfl, ?_⟩
    by_cases hr : NN % b2 ∈ rs2
    · refine .inl ⟨hr, ?_⟩
      unfold lapB
      rw [e_sSeq, e_sIf, k1, obind_ok, if_neg (by simp), e_sNil, e_sqn, e_sIf, k2, decide_eq_true hr, obind_ok, if_pos rfl, e_sBreak]
    · refine .inr ⟨hr, ?_⟩
      unfold lapB
      rw [e_sSeq, e_sIf, k1, obind_ok, if_neg (by simp), e_sNil, e_sqn, e_sIf, k2, decide_eq_false hr, obind_ok, if_neg (by simp), e_sNil]
theorem lapN_ok {A : D} (hm : ms2.length ≤ 10) (hq : qs.length ≤ 6) {s4 s6 s7 : Slot} : lapN (oenv A (polyQ qs) (setD b2 rs2 ms2) step s4 s6 s7 .un) w = .ok (rngL 0 1 (ms2.length * max qs.length 1 + 2)) w := by
  have i2 : ixD (setD b2 rs2 ms2) (.int 2) w = .ok (.tup (ms2.map .int)) w := ix_t2
  have l1 : lenD (.tup (ms2.map .int)) w = .ok (.int ((ms2.map D.int).length : Int)) w := rfl
  have l2 : lenD (polyQ qs) w = .ok (.int ((qs.map fq).length : Int)) w := rfl
  rw [List.length_map] at l1 l2
  have mx : maxD (.int (qs.length : Int)) (.int 1) w = .ok (.int ((max qs.length 1 : Nat) : Int)) w := by
    rw [e_max]
    congr 2
    split <;> omega
  have pb : ms2.length * max qs.length 1 ≤ 10 * 6 := Nat.mul_le_mul hm (by omega)
  have ml : mulD (.int (ms2.length : Int)) (.int ((max qs.length 1 : Nat) : Int)) w = .ok (.int ((ms2.length * max qs.length 1 : Nat) : Int)) w := by
    rw [e_mulr (by omega) (by omega), Int.natCast_mul]
  have rg := DL.e_rng1 (j := ((ms2.length * max qs.length 1 : Nat) : Int) + 2) (w := w) (by omega) (by omega)
  rw [show (((ms2.length * max qs.length 1 : Nat) : Int) + 2).toNat = ms2.length * max qs.length 1 + 2 by omega] at rg
  have g1 : dVar 1 (oenv A (polyQ qs) (setD b2 rs2 ms2) step s4 s6 s7 .un) w = .ok (polyQ qs) w := rfl
  have g2 : dVar 2 (oenv A (polyQ qs) (setD b2 rs2 ms2) step s4 s6 s7 .un) w = .ok (setD b2 rs2 ms2) w := rfl
  unfold lapN
  rw [e_dUn, e_dBin, e_dBin, e_dUn, e_dBin, g2, bind_ok, e_dC, bind_ok, i2, bind_ok, l1, bind_ok, e_dBin, e_dUn, g1, bind_ok, l2, bind_ok, e_dC, bind_ok, mx, bind_ok, ml, bind_ok, e_dC, bind_ok, e_add, bind_ok, rg]
/-- one number's laps -/
theorem num_ok' (G2 : GoodS b2 rs2 ms2) (h : OkQ qs) (hm : ms2.length ≤ 10) (hs : 0 < step) (hs2 : step ≤ 1000) {n : Int} (hn : 0 ≤ n) (hn2 : n ≤ 1000) {A : D} {s4 s7 : Slot} (h7 : isF s7) :
    (∃ s7', isF s7' ∧ numB (oenv A (polyQ qs) (setD b2 rs2 ms2) step s4 (.fz (.int n)) s7 .un) w = .nx (oenv A (polyQ qs) (setD b2 rs2 ms2) step s4 (.fz (.int n)) s7' .un) w ∧ Cond b2 rs2 ms2 qs step (ms2.length * max qs.length 1 + 2) n) ∨
    ∃ lap : Nat, lap < ms2.length * max qs.length 1 + 2 ∧ leadB b2 rs2 ms2 (wv qs (n + lap * step)) = false ∧ numB (oenv A (polyQ qs) (setD b2 rs2 ms2) step s4 (.fz (.int n)) s7 .un) w = .rt (.int (n + lap * step)) w := by
  have pb : ms2.length * max qs.length 1 ≤ 10 * 6 := Nat.mul_le_mul hm (by have := h.1; omega)
  have hN := lapN_ok (b2 := b2) (rs2 := rs2) (ms2 := ms2) (qs := qs) (step := step) (A := A) (s4 := s4) (s6 := .fz (.int n)) (s7 := s7) hm h.1 (w := w)
  generalize hNN : ms2.length * max qs.length 1 + 2 = N at *
  have e0 : ∀ env, numB env w = Out.bind (lapN env w) fun ds w => DL.forM (bName 7) lapB ds (frzs env []) w := fun env => rfl
  rw [e0, hN, obind_ok, e_frzs0]
  rcases for_run (b := bName 7) (τ := lapB) (w := w) (fun env => ∃ s7', isF s7' ∧ env = oenv A (polyQ qs) (setD b2 rs2 ms2) step s4 (.fz (.int n)) s7' .un)
    (fun d => ∃ lap : Nat, d = .int lap ∧ leadB b2 rs2 ms2 (wv qs (n + lap * step)) = true ∧ (wv qs (n + lap * step)).num % b2 ∉ rs2)
    (fun d => ∃ lap : Nat, d = .int lap ∧ leadB b2 rs2 ms2 (wv qs (n + lap * step)) = true ∧ (wv qs (n + lap * step)).num % b2 ∈ rs2)
    (fun d v => ∃ lap : Nat, d = .int lap ∧ leadB b2 rs2 ms2 (wv qs (n + lap * step)) = false ∧ v = .int (n + lap * step)) (rngL 0 1 N) _ ⟨s7, h7, rfl⟩ (by
      rintro d hd env ⟨s7', h7', rfl⟩
      obtain ⟨k, hk, rfl⟩ := mem_rng hd
      rw [Int.zero_add]
      refine ⟨oenv A (polyQ qs) (setD b2 rs2 ms2) step s4 (.fz (.int n)) (.fz (.int k)) .un, rfl, ?_⟩
      rcases lap_body G2 h hs hs2 hn hn2 (lap := k) (by omega) (A := A) (s4 := s4) (w := w) with ⟨a, e⟩ | ⟨a, ⟨c, e⟩ | ⟨c, e⟩⟩
      · exact .inr (.inr ⟨_, e, k, rfl, a, rfl⟩)
      · exact .inr (.inl ⟨_, e, ⟨_, .inr ⟨_, rfl⟩, rfl⟩, k, rfl, a, c⟩)
      · exact .inl ⟨_, e, ⟨_, .inr ⟨_, rfl⟩, rfl⟩, k, rfl, a, c⟩) with ⟨env', e, ⟨s7', h7', rfl⟩, p⟩ | ⟨d, hd, v, e, lap, rfl, a, rfl⟩
  · refine .inl ⟨s7', h7', e, ?_⟩
    rcases p with p | ⟨d, hd, lap, rfl, a, c⟩
    · refine .inr fun lap hl => ?_
      obtain ⟨k, hk, a, c⟩ := p (.int lap) (by rw [rng_map]; exact List.mem_map.mpr ⟨lap, List.mem_range.mpr hl, by rw [Int.zero_add]⟩)
      have : lap = k := by have := D.int.inj hk; omega
      subst this
      exact ⟨a, c⟩
    · obtain ⟨k, hk, e2⟩ := mem_rng hd
      have : lap = k := by have := D.int.inj e2; omega
      subst this
      exact .inl ⟨lap, hk, a, c⟩
  · obtain ⟨k, hk, e2⟩ := mem_rng hd
    have : lap = k := by have := D.int.inj e2; omega
    subst this
    exact .inr ⟨lap, hk, a, e⟩
end
end K18
namespace K18
open PySem DL
theorem e_neLI {l m : List Int} {w : W} : neD (.lst (l.map .int)) (.lst (m.map .int)) w = .ok (.bl (!decide (l = m))) w := by
  unfold neD
  rw [sh_lints, sh_lints]
  show Res.ok (D.bl (!PyData.eqvAll (toPs (l.map .int)) (toPs (m.map .int)))) w = _
  rw [eqv_ints]
theorem e_neTI {l m : List Int} {w : W} : neD (.tup (l.map .int)) (.tup (m.map .int)) w = .ok (.bl (!decide (l = m))) w := by
  unfold neD
  rw [sh_tints, sh_tints]
  show Res.ok (D.bl (!PyData.eqvAll (toPs (l.map .int)) (toPs (m.map .int)))) w = _
  rw [eqv_ints]
theorem nilL {env : DL.Env} {w : W} : dL (dLst aNil) env w = .ok (.lst []) w := rfl
section
variable {b b2 step : Int} {rs ms rs2 ms2 : List Int} {qs : List Rat} {w : W}
theorem rest_ok (G : GoodS b rs ms) (G2 : GoodS b2 rs2 ms2) (h : OkQ qs) (hm : ms2.length ≤ 10) (hs2 : step ≤ 1000) (bs : b ≤ step) {r : Int} (hr : r ∈ rs) {s6 s7 : Slot} (h6 : isF s6) (h7 : isF s7) :
    (∃ s6' s7', isF s6' ∧ isF s7' ∧ restB (oenv (setD b rs ms) (polyQ qs) (setD b2 rs2 ms2) step (.fz (.int r)) s6 s7 .un) w = .nx (oenv (setD b rs ms) (polyQ qs) (setD b2 rs2 ms2) step (.fz (.int r)) s6' s7' .un) w ∧ ∀ n ∈ stepL r step b, Cond b2 rs2 ms2 qs step (ms2.length * max qs.length 1 + 2) n) ∨
    ∃ n ∈ stepL r step b, ∃ lap : Nat, lap < ms2.length * max qs.length 1 + 2 ∧ leadB b2 rs2 ms2 (wv qs (n + lap * step)) = false ∧ restB (oenv (setD b rs ms) (polyQ qs) (setD b2 rs2 ms2) step (.fz (.int r)) s6 s7 .un) w = .rt (.int (n + lap * step)) w := by
  have b1 := G.b1
  have rr := G.rr r hr
  have i0 : ixD (setD b rs ms) (.int 0) w = .ok (.int b) w := ix_t0
  have rg := DL.e_rng3 (i := r) (j := step) (c := b) (by omega) (by omega) rr.1 (by omega) (by omega) (w := w)
  have hin : ∀ n ∈ stepL r step b, 0 ≤ n ∧ n ≤ 1000 := fun n hn => by
    obtain ⟨k, rfl, lt⟩ := (step_mem (by omega) (by omega)).mp hn
    have : 0 ≤ (k : Int) * b := Int.mul_nonneg (by omega) (by omega)
    omega
  have g0 : dVar 0 (oenv (setD b rs ms) (polyQ qs) (setD b2 rs2 ms2) step (.fz (.int r)) s6 s7 .un) w = .ok (setD b rs ms) w := rfl
  have g3 : dVar 3 (oenv (setD b rs ms) (polyQ qs) (setD b2 rs2 ms2) step (.fz (.int r)) s6 s7 .un) w = .ok (.int step) w := rfl
  have g4 : dVar 4 (oenv (setD b rs ms) (polyQ qs) (setD b2 rs2 ms2) step (.fz (.int r)) s6 s7 .un) w = .ok (.int r) w := rfl
  have hi : (dTri rng3 (dVar 4) (dVar 3) (dBin ixD (dVar 0) (dC (.int 0)))) (oenv (setD b rs ms) (polyQ qs) (setD b2 rs2 ms2) step (.fz (.int r)) s6 s7 .un) w = .ok ((stepL r step b).map .int) w := by
    generalize setD b rs ms = A at *
    generalize oenv A (polyQ qs) (setD b2 rs2 ms2) step (.fz (.int r)) s6 s7 .un = env at *
    show ((dVar 4 env w).bind fun x w => (dVar 3 env w).bind fun y w => (dBin ixD (dVar 0) (dC (.int 0)) env w).bind fun z w => rng3 x y z w) = _
    rw [g4, bind_ok, g3, bind_ok, e_dBin, g0, bind_ok, e_dC, bind_ok, i0, bind_ok, rg]
  have e0 : ∀ env, restB env w = Out.bind ((dTri rng3 (dVar 4) (dVar 3) (dBin ixD (dVar 0) (dC (.int 0)))) env w) fun ds w => DL.forM (bName 6) numB ds (frzs env []) w := fun env => rfl
  rw [e0, hi, obind_ok, e_frzs0]
  rcases for_run (b := bName 6) (τ := numB) (w := w) (fun env => ∃ s6' s7', isF s6' ∧ isF s7' ∧ env = oenv (setD b rs ms) (polyQ qs) (setD b2 rs2 ms2) step (.fz (.int r)) s6' s7' .un)
    (fun d => ∃ n : Int, d = .int n ∧ Cond b2 rs2 ms2 qs step (ms2.length * max qs.length 1 + 2) n) (fun _ => False)
    (fun d v => ∃ (n : Int) (lap : Nat), d = .int n ∧ lap < ms2.length * max qs.length 1 + 2 ∧ leadB b2 rs2 ms2 (wv qs (n + lap * step)) = false ∧ v = .int (n + lap * step)) ((stepL r step b).map .int) _ ⟨s6, s7, h6, h7, rfl⟩ (by
      rintro d hd env ⟨s6', s7', h6', h7', rfl⟩
      obtain ⟨n, hn, rfl⟩ := List.mem_map.mp hd
      obtain ⟨n0, n1⟩ := hin n hn
      refine ⟨oenv (setD b rs ms) (polyQ qs) (setD b2 rs2 ms2) step (.fz (.int r)) (.fz (.int n)) s7' .un, rfl, ?_⟩
      rcases num_ok' G2 h hm (show 0 < step by omega) hs2 n0 n1 (A := setD b rs ms) (s4 := .fz (.int r)) h7' (w := w) with ⟨s7'', h7'', e, c⟩ | ⟨lap, hl, a, e⟩
      · exact .inl ⟨_, e, ⟨_, _, .inr ⟨_, rfl⟩, h7'', rfl⟩, n, rfl, c⟩
      · exact .inr (.inr ⟨_, e, n, lap, rfl, hl, a, rfl⟩)) with ⟨env', e, ⟨s6', s7', h6', h7', rfl⟩, p⟩ | ⟨d, hd, v, e, n, lap, rfl, hl, a, rfl⟩
  · refine .inl ⟨s6', s7', h6', h7', e, fun n hn => ?_⟩
    rcases p with p | ⟨_, _, f⟩
    · obtain ⟨n', e2, c⟩ := p (.int n) (List.mem_map.mpr ⟨n, hn, rfl⟩)
      have := D.int.inj e2
      subst this
      exact c
    · exact f.elim
  · obtain ⟨n', hn, e2⟩ := List.mem_map.mp hd
    have := D.int.inj e2
    subst this
    exact .inr ⟨n', hn, lap, hl, a, e⟩
def allB : SM := sFor [] (dUn seqM (dBin ixD (dVar 0) (dC (.int 1)))) (bName 4) restB
theorem all_ok (G : GoodS b rs ms) (G2 : GoodS b2 rs2 ms2) (h : OkQ qs) (hm : ms2.length ≤ 10) (hs2 : step ≤ 1000) (bs : rs ≠ [] → b ≤ step) :
    (∃ s4 s6 s7, isF s4 ∧ isF s6 ∧ isF s7 ∧ allB (oenv (setD b rs ms) (polyQ qs) (setD b2 rs2 ms2) step .un .un .un .un) w = .nx (oenv (setD b rs ms) (polyQ qs) (setD b2 rs2 ms2) step s4 s6 s7 .un) w ∧ ∀ r ∈ rs, ∀ n ∈ stepL r step b, Cond b2 rs2 ms2 qs step (ms2.length * max qs.length 1 + 2) n) ∨
    ∃ r ∈ rs, ∃ n ∈ stepL r step b, ∃ lap : Nat, lap < ms2.length * max qs.length 1 + 2 ∧ leadB b2 rs2 ms2 (wv qs (n + lap * step)) = false ∧ allB (oenv (setD b rs ms) (polyQ qs) (setD b2 rs2 ms2) step .un .un .un .un) w = .rt (.int (n + lap * step)) w := by
  have i1 : ixD (setD b rs ms) (.int 1) w = .ok (.tup (rs.map .int)) w := ix_t1
  have sq : seqM (.tup (rs.map .int)) w = .ok (rs.map .int) w := rfl
  have g0 : dVar 0 (oenv (setD b rs ms) (polyQ qs) (setD b2 rs2 ms2) step .un .un .un .un) w = .ok (setD b rs ms) w := rfl
  have hi : (dUn seqM (dBin ixD (dVar 0) (dC (.int 1)))) (oenv (setD b rs ms) (polyQ qs) (setD b2 rs2 ms2) step .un .un .un .un) w = .ok (rs.map .int) w := by
    rw [e_dUn, e_dBin, g0, bind_ok, e_dC, bind_ok, i1, bind_ok, sq]
  have e0 : ∀ env, allB env w = Out.bind ((dUn seqM (dBin ixD (dVar 0) (dC (.int 1)))) env w) fun ds w => DL.forM (bName 4) restB ds (frzs env []) w := fun env => rfl
  rw [e0, hi, obind_ok, e_frzs0]
  rcases for_run (b := bName 4) (τ := restB) (w := w) (fun env => ∃ s4 s6' s7', isF s4 ∧ isF s6' ∧ isF s7' ∧ env = oenv (setD b rs ms) (polyQ qs) (setD b2 rs2 ms2) step s4 s6' s7' .un)
    (fun d => ∃ r : Int, d = .int r ∧ ∀ n ∈ stepL r step b, Cond b2 rs2 ms2 qs step (ms2.length * max qs.length 1 + 2) n) (fun _ => False)
    (fun d v => ∃ (r n : Int) (lap : Nat), d = .int r ∧ n ∈ stepL r step b ∧ lap < ms2.length * max qs.length 1 + 2 ∧ leadB b2 rs2 ms2 (wv qs (n + lap * step)) = false ∧ v = .int (n + lap * step)) (rs.map .int) _ ⟨.un, .un, .un, .inl rfl, .inl rfl, .inl rfl, rfl⟩ (by
      rintro d hd env ⟨s4, s6', s7', h4', h6', h7', rfl⟩
      obtain ⟨r, hr, rfl⟩ := List.mem_map.mp hd
      refine ⟨oenv (setD b rs ms) (polyQ qs) (setD b2 rs2 ms2) step (.fz (.int r)) s6' s7' .un, rfl, ?_⟩
      rcases rest_ok G G2 h hm hs2 (bs (by intro e; rw [e] at hr; cases hr)) hr h6' h7' (w := w) with ⟨s6'', s7'', h6'', h7'', e, c⟩ | ⟨n, hn, lap, hl, a, e⟩
      · exact .inl ⟨_, e, ⟨_, _, _, .inr ⟨_, rfl⟩, h6'', h7'', rfl⟩, r, rfl, c⟩
      · exact .inr (.inr ⟨_, e, r, n, lap, rfl, hn, hl, a, rfl⟩)) with ⟨env', e, ⟨s4, s6', s7', h4', h6', h7', rfl⟩, p⟩ | ⟨d, hd, v, e, r, n, lap, rfl, hn, hl, a, rfl⟩
  · refine .inl ⟨s4, s6', s7', h4', h6', h7', e, fun r hr => ?_⟩
    rcases p with p | ⟨_, _, f⟩
    · obtain ⟨r', e2, c⟩ := p (.int r) (List.mem_map.mpr ⟨r, hr, rfl⟩)
      have := D.int.inj e2
      subst this
      exact c
    · exact f.elim
  · obtain ⟨r', hr, e2⟩ := List.mem_map.mp hd
    have := D.int.inj e2
    subst this
    exact .inr ⟨r', hr, n, hn, lap, hl, a, e⟩
def badE : EM (List D) := (dComp3 [] [8] [8] (dUn seqM (dBin ixD (dVar 0) (dC (.int 2)))) (bName 8) (dNotT (dTru (dCall 3 m_is_led_at (aCons (dVar 1) (aCons (dVar 8) (aCons (dVar 2) aNil)))))) (dVar 8))
def firstE : EM D := (dIf (dB (dBin neD (dBin ixD (dVar 0) (dC (.int 1))) (dTup aNil))) (dCall 3 m_round_in (aCons (dVar 0) (aCons (dVar 1) (aCons (dVar 2) aNil)))) (dC (.int 1)))
def lastE : EM D := (dIf (dB (dBin neD (dVar 5) (dL (dLst aNil)))) (dBin ixD (dVar 5) (dC (.int 0))) (dC .non))
theorem out_eq : s_out_in = sSeq (sAsg (bName 3) [0, 1, 2] firstE) (sSeq allB (sSeq (sOwn 5 [8] badE) (sRet lastE))) := rfl
def oD : Option Int → D
  | none => .non
  | some x => .int x
theorem out_ok (G : GoodS b rs ms) (G2 : GoodS b2 rs2 ms2) (h : OkQ qs) (hm : ms2.length ≤ 10) (hmb : ∀ m ∈ ms, m.natAbs ≤ 1000) (hs2 : step ≤ 1000) (bs : b ≤ step) (hr : m_round_in [setD b rs ms, polyQ qs, setD b2 rs2 ms2] w = .ok (.int step) w) :
    ∃ o, m_out_in [setD b rs ms, polyQ qs, setD b2 rs2 ms2] w = .ok (oD o) w ∧ Found b rs ms b2 rs2 ms2 qs step o := by
  have b1 := G.b1
  have e0 : m_out_in [setD b rs ms, polyQ qs, setD b2 rs2 ms2] w = endO (s_out_in [.fz (setD b rs ms), .fz (polyQ qs), .fz (setD b2 rs2 ms2), .un, .un, .un, .un, .un, .un] w) := by
    unfold m_out_in
    rw [e_body]; rfl
  obtain ⟨st, hst⟩ : ∃ st, st = if rs = [] then 1 else step := ⟨_, rfl⟩
  have f1 : sAsg (bName 3) [0, 1, 2] firstE [.fz (setD b rs ms), .fz (polyQ qs), .fz (setD b2 rs2 ms2), .un, .un, .un, .un, .un, .un] w = .nx (oenv (setD b rs ms) (polyQ qs) (setD b2 rs2 ms2) st .un .un .un .un) w := by
    have i1 : ixD (setD b rs ms) (.int 1) w = .ok (.tup (rs.map .int)) w := ix_t1
    have ne : neD (.tup (rs.map .int)) (.tup []) w = .ok (.bl (!decide (rs = []))) w := e_neTI (l := rs) (m := [])
    generalize setD b rs ms = A at *
    generalize setD b2 rs2 ms2 = B at *
    generalize polyQ qs = P at *
    have g0 : dVar 0 [.fz A, .fz P, .fz B, .un, .un, .un, .un, .un, .un] w = .ok A w := rfl
    have g1 : dVar 1 [.fz A, .fz P, .fz B, .un, .un, .un, .un, .un, .un] w = .ok P w := rfl
    have g2 : dVar 2 [.fz A, .fz P, .fz B, .un, .un, .un, .un, .un, .un] w = .ok B w := rfl
    have v : firstE [.fz A, .fz P, .fz B, .un, .un, .un, .un, .un, .un] w = .ok (.int st) w := by
      unfold firstE
      generalize m_round_in = F at *
      rw [e_dIf, e_dB, e_dBin, e_dBin, g0, bind_ok, e_dC, bind_ok, i1, bind_ok, dt0, bind_ok, ne, bind_ok, e_boolM, bind_ok]
      by_cases hq : rs = []
      · rw [decide_eq_true hq, if_neg (by simp), e_dC, hst, if_pos hq]
      · rw [decide_eq_false hq, if_pos (by simp), dc3, g0, bind_ok, g1, bind_ok, g2, bind_ok, hr, hst, if_neg hq]
    rw [e_sAsg, v, obind_ok]; rfl
  have st2 : st ≤ 1000 := by rw [hst]; split <;> omega
  have bst : rs ≠ [] → b ≤ st := fun hq => by rw [hst, if_neg hq]; exact bs
  rw [e0, out_eq, e_sSeq, f1, e_sqn, e_sSeq]
  rcases all_ok G G2 h hm st2 bst (w := w) with ⟨s4, s6, s7, h4, h6, h7, e, c⟩ | ⟨r, hr2, n, hn, lap, hl, a, e⟩
  · have i2 : ixD (setD b rs ms) (.int 2) w = .ok (.tup (ms.map .int)) w := ix_t2
    have g0 : dVar 0 (oenv (setD b rs ms) (polyQ qs) (setD b2 rs2 ms2) st s4 s6 s7 .un) w = .ok (setD b rs ms) w := rfl
    have bd : badE (oenv (setD b rs ms) (polyQ qs) (setD b2 rs2 ms2) st s4 s6 s7 .un) w = .ok ((ms.filter fun m => !leadB b2 rs2 ms2 (wv qs m)).map .int) w := by
      refine comp_gen (l := ms) (ac := []) (ac3 := [8]) (vs := [8]) (it := dUn seqM (dBin ixD (dVar 0) (dC (.int 2)))) (b := bName 8) (e := dVar 8) (env := oenv (setD b rs ms) (polyQ qs) (setD b2 rs2 ms2) st s4 s6 s7 .un) (w := w) (w1 := w) (fun m => !leadB b2 rs2 ms2 (wv qs m)) .int rfl (by rw [e_dUn, e_dBin, g0, bind_ok, e_dC, bind_ok, i2, bind_ok]; rfl) (by have := G.ml; omega) rfl fun i hi => ?_
      refine ⟨oenv (setD b rs ms) (polyQ qs) (setD b2 rs2 ms2) st s4 s6 s7 (.fz (.int i)), rfl, ?_, fun _ => rfl⟩
      have ld := led_ok G2 h (n := i) (Nat.lt_of_lt_of_le (show i.natAbs < 2 ^ 40 by have := hmb i hi; omega) (Nat.pow_le_pow_right (by omega) (by omega))) (w := w)
      have g1 : dVar 1 (oenv (setD b rs ms) (polyQ qs) (setD b2 rs2 ms2) st s4 s6 s7 (.fz (.int i))) w = .ok (polyQ qs) w := rfl
      have g2 : dVar 2 (oenv (setD b rs ms) (polyQ qs) (setD b2 rs2 ms2) st s4 s6 s7 (.fz (.int i))) w = .ok (setD b2 rs2 ms2) w := rfl
      have g8 : dVar 8 (oenv (setD b rs ms) (polyQ qs) (setD b2 rs2 ms2) st s4 s6 s7 (.fz (.int i))) w = .ok (.int i) w := rfl
      generalize m_is_led_at = F at *
      rw [e_dNotT, e_dTru, dc3, g1, bind_ok, g8, bind_ok, g2, bind_ok, ld, bind_ok, e_truB, bind_ok]
    have t2 : sOwn 5 [8] badE (oenv (setD b rs ms) (polyQ qs) (setD b2 rs2 ms2) st s4 s6 s7 .un) w = .nx [.fz (setD b rs ms), .fz (polyQ qs), .fz (setD b2 rs2 ms2), .fz (.int st), s4, .ow (.lst ((ms.filter fun m => !leadB b2 rs2 ms2 (wv qs m)).map .int)), s6, s7, .un] w := by
      rw [e_sOwn, bd, obind_ok]; rfl
    have g5 : dVar 5 [.fz (setD b rs ms), .fz (polyQ qs), .fz (setD b2 rs2 ms2), .fz (.int st), s4, .ow (.lst ((ms.filter fun m => !leadB b2 rs2 ms2 (wv qs m)).map .int)), s6, s7, .un] w = .ok (.lst ((ms.filter fun m => !leadB b2 rs2 ms2 (wv qs m)).map .int)) w := rfl
    have c' : ∀ r ∈ rs, ∀ n ∈ stepL r step b, Cond b2 rs2 ms2 qs step (ms2.length * max qs.length 1 + 2) n := fun r hr => by
      have : st = step := by rw [hst, if_neg (by intro e; rw [e] at hr; cases hr)]
      rw [← this]
      exact c r hr
    rw [e, e_sqn, e_sSeq, t2, e_sqn, e_sRet]
    cases hb : ms.filter fun m => !leadB b2 rs2 ms2 (wv qs m) with
    | nil =>
      rw [hb] at g5
      have ne : neD (.lst (([] : List Int).map .int)) (.lst []) w = .ok (.bl false) w := by
        have := e_neLI (l := []) (m := []) (w := w)
        rw [decide_eq_true rfl] at this
        exact this
      refine ⟨none, ?_, c', fun m hm => ?_⟩
      · unfold lastE
        rw [e_dIf, e_dB, e_dBin, g5, bind_ok, nilL, bind_ok, ne, bind_ok, e_boolM, bind_ok, if_neg (by simp), e_dC, obind_ok, e_endr]; rfl
      · cases hq : leadB b2 rs2 ms2 (wv qs m) with
        | true => rfl
        | false =>
          have : m ∈ ms.filter fun m => !leadB b2 rs2 ms2 (wv qs m) := List.mem_filter.mpr ⟨hm, by rw [hq]; rfl⟩
          rw [hb] at this; cases this
    | cons x t =>
      rw [hb] at g5
      have ne : neD (.lst ((x :: t).map .int)) (.lst []) w = .ok (.bl true) w := by
        have := e_neLI (l := x :: t) (m := []) (w := w)
        rw [decide_eq_false (by simp)] at this
        exact this
      have ix : ixD (.lst ((x :: t).map .int)) (.int 0) w = .ok (.int x) w := ix_l (by omega) rfl
      have hx : x ∈ ms.filter fun m => !leadB b2 rs2 ms2 (wv qs m) := by rw [hb]; exact List.mem_cons_self
      obtain ⟨x1, x2⟩ := List.mem_filter.mp hx
      refine ⟨some x, ?_, .inr x1, by simpa using x2⟩
      unfold lastE
      rw [e_dIf, e_dB, e_dBin, g5, bind_ok, nilL, bind_ok, ne, bind_ok, e_boolM, bind_ok, if_pos rfl, e_dBin, g5, bind_ok, e_dC, bind_ok, ix, obind_ok, e_endr]; rfl
  · have hst2 : st = step := by rw [hst, if_neg (by intro e; rw [e] at hr2; cases hr2)]
    subst hst2
    refine ⟨some (n + lap * st), ?_, .inl ⟨r, hr2, n, hn, lap, hl, rfl⟩, a⟩
    rw [e]; rfl
end
end K18
namespace K18
open PySem DL
section
variable {X P' Y A P B : D} {w : W}
theorem sure_lead_of (s1 : m_sure_set [X] w = .ok A w) (s3 : m_sure_low [P'] w = .ok P w) (s2 : m_sure_set [Y] w = .ok B w) : m_sure_lead [X, P', Y] w = .ok (.tup [A, P, B]) w := by
  have e0 : m_sure_lead [X, P', Y] w = endO (s_sure_lead [.fz X, .fz P', .fz Y, .un, .un] w) := by
    unfold m_sure_lead
    rw [e_body]; rfl
  have e1 : s_sure_lead = sSeq (sAsg (bName 3) [0] (dCall 1 m_sure_set (aCons (dVar 0) aNil))) (sSeq (sAsg (bName 4) [1] (dCall 1 m_sure_low (aCons (dVar 1) aNil))) (sRet (dTup (aCons (dVar 3) (aCons (dVar 4) (aCons (dCall 1 m_sure_set (aCons (dVar 2) aNil)) aNil)))))) := rfl
  have t1 : sAsg (bName 3) [0] (dCall 1 m_sure_set (aCons (dVar 0) aNil)) [.fz X, .fz P', .fz Y, .un, .un] w = .nx [.fz X, .fz P', .fz Y, .fz A, .un] w := by
    have g0 : dVar 0 [.fz X, .fz P', .fz Y, .un, .un] w = .ok X w := rfl
    rw [e_sAsg, dc1, g0, bind_ok, s1, obind_ok]; rfl
  have t2 : sAsg (bName 4) [1] (dCall 1 m_sure_low (aCons (dVar 1) aNil)) [.fz X, .fz P', .fz Y, .fz A, .un] w = .nx [.fz X, .fz P', .fz Y, .fz A, .fz P] w := by
    have g1 : dVar 1 [.fz X, .fz P', .fz Y, .fz A, .un] w = .ok P' w := rfl
    rw [e_sAsg, dc1, g1, bind_ok, s3, obind_ok]; rfl
  have g2 : dVar 2 [.fz X, .fz P', .fz Y, .fz A, .fz P] w = .ok Y w := rfl
  have g3 : dVar 3 [.fz X, .fz P', .fz Y, .fz A, .fz P] w = .ok A w := rfl
  have g4 : dVar 4 [.fz X, .fz P', .fz Y, .fz A, .fz P] w = .ok P w := rfl
  rw [e0, e1, e_sSeq, t1, e_sqn, e_sSeq, t2, e_sqn, e_sRet, dt3, g3, bind_ok, g4, bind_ok, dc1, g2, bind_ok, s2, bind_ok, obind_ok, e_endr]
theorem isD_o {o : Option Int} : isD (oD o) .non w = .ok (.bl (decide (o = none))) w := by
  cases o <;> rfl
theorem leads_ok {o : Option Int} (s : m_sure_lead [X, P', Y] w = .ok (.tup [A, P, B]) w) (h : m_out_in [A, P, B] w = .ok (oD o) w) : m_leads_into [X, P', Y] w = .ok (.bl (decide (o = none))) w := by
  have e0 : m_leads_into [X, P', Y] w = endO (s_leads_into [.fz X, .fz P', .fz Y, .un, .un, .un] w) := by
    unfold m_leads_into
    rw [e_body]; rfl
  have e1 : s_leads_into = sSeq (sAsg (bTup 3 (bCons (bName 3) (bCons (bName 4) (bCons (bName 5) bNil)))) [0, 1, 2] (dCall 3 m_sure_lead (aCons (dVar 0) (aCons (dVar 1) (aCons (dVar 2) aNil))))) (sRet (dBin isD (dCall 3 m_out_in (aCons (dVar 3) (aCons (dVar 4) (aCons (dVar 5) aNil)))) (dC .non))) := rfl
  have t1 : (sAsg (bTup 3 (bCons (bName 3) (bCons (bName 4) (bCons (bName 5) bNil)))) [0, 1, 2] (dCall 3 m_sure_lead (aCons (dVar 0) (aCons (dVar 1) (aCons (dVar 2) aNil))))) [.fz X, .fz P', .fz Y, .un, .un, .un] w = .nx [.fz X, .fz P', .fz Y, .fz A, .fz P, .fz B] w := by
    have g0 : dVar 0 [.fz X, .fz P', .fz Y, .un, .un, .un] w = .ok X w := rfl
    have g1 : dVar 1 [.fz X, .fz P', .fz Y, .un, .un, .un] w = .ok P' w := rfl
    have g2 : dVar 2 [.fz X, .fz P', .fz Y, .un, .un, .un] w = .ok Y w := rfl
    generalize m_sure_lead = F at *
    rw [e_sAsg, dc3, g0, bind_ok, g1, bind_ok, g2, bind_ok, s, obind_ok]; rfl
  have g3 : dVar 3 [.fz X, .fz P', .fz Y, .fz A, .fz P, .fz B] w = .ok A w := rfl
  have g4 : dVar 4 [.fz X, .fz P', .fz Y, .fz A, .fz P, .fz B] w = .ok P w := rfl
  have g5 : dVar 5 [.fz X, .fz P', .fz Y, .fz A, .fz P, .fz B] w = .ok B w := rfl
  generalize m_out_in = F at *
  rw [e0, e1, e_sSeq, t1, e_sqn, e_sRet, e_dBin, dc3, g3, bind_ok, g4, bind_ok, g5, bind_ok, h, bind_ok, e_dC, bind_ok, isD_o, obind_ok, e_endr]
theorem round_lead_ok {st : Int} (s : m_sure_lead [X, P', Y] w = .ok (.tup [A, P, B]) w) (h : m_round_in [A, P, B] w = .ok (.int st) w) : m_lead_round [X, P', Y] w = .ok (.int st) w := by
  have e0 : m_lead_round [X, P', Y] w = endO (s_lead_round [.fz X, .fz P', .fz Y, .un, .un, .un] w) := by
    unfold m_lead_round
    rw [e_body]; rfl
  have e1 : s_lead_round = sSeq (sAsg (bTup 3 (bCons (bName 3) (bCons (bName 4) (bCons (bName 5) bNil)))) [0, 1, 2] (dCall 3 m_sure_lead (aCons (dVar 0) (aCons (dVar 1) (aCons (dVar 2) aNil))))) (sRet (dCall 3 m_round_in (aCons (dVar 3) (aCons (dVar 4) (aCons (dVar 5) aNil))))) := rfl
  have t1 : (sAsg (bTup 3 (bCons (bName 3) (bCons (bName 4) (bCons (bName 5) bNil)))) [0, 1, 2] (dCall 3 m_sure_lead (aCons (dVar 0) (aCons (dVar 1) (aCons (dVar 2) aNil))))) [.fz X, .fz P', .fz Y, .un, .un, .un] w = .nx [.fz X, .fz P', .fz Y, .fz A, .fz P, .fz B] w := by
    have g0 : dVar 0 [.fz X, .fz P', .fz Y, .un, .un, .un] w = .ok X w := rfl
    have g1 : dVar 1 [.fz X, .fz P', .fz Y, .un, .un, .un] w = .ok P' w := rfl
    have g2 : dVar 2 [.fz X, .fz P', .fz Y, .un, .un, .un] w = .ok Y w := rfl
    generalize m_sure_lead = F at *
    rw [e_sAsg, dc3, g0, bind_ok, g1, bind_ok, g2, bind_ok, s, obind_ok]; rfl
  have g3 : dVar 3 [.fz X, .fz P', .fz Y, .fz A, .fz P, .fz B] w = .ok A w := rfl
  have g4 : dVar 4 [.fz X, .fz P', .fz Y, .fz A, .fz P, .fz B] w = .ok P w := rfl
  have g5 : dVar 5 [.fz X, .fz P', .fz Y, .fz A, .fz P, .fz B] w = .ok B w := rfl
  generalize m_round_in = F at *
  rw [e0, e1, e_sSeq, t1, e_sqn, e_sRet, dc3, g3, bind_ok, g4, bind_ok, g5, bind_ok, h, obind_ok, e_endr]
theorem why_ok {o : Option Int} (s : m_sure_lead [X, P', Y] w = .ok (.tup [A, P, B]) w) (h : m_out_in [A, P, B] w = .ok (oD o) w) : m_why_no_lead [X, P', Y] w = match o with | none => .ex ⟨"CanNot", none⟩ w | some x => .ok (.int x) w := by
  have e0 : m_why_no_lead [X, P', Y] w = endO (s_why_no_lead [.fz X, .fz P', .fz Y, .un, .un, .un, .un] w) := by
    unfold m_why_no_lead
    rw [e_body]; rfl
  have e1 : s_why_no_lead = (sSeq (sAsg (bTup 3 (bCons (bName 4) (bCons (bName 5) (bCons (bName 6) bNil)))) [0, 1, 2] (dCall 3 m_sure_lead (aCons (dVar 0) (aCons (dVar 1) (aCons (dVar 2) aNil))))) (sSeq (sAsg (bName 3) [4, 5, 6] (dCall 3 m_out_in (aCons (dVar 4) (aCons (dVar 5) (aCons (dVar 6) aNil))))) (sSeq (sIf (dB (dBin isD (dVar 3) (dC .non))) (sRaise ⟨"CanNot", none⟩) sNil) (sRet (dVar 3))))) := rfl
  have t1 : (sAsg (bTup 3 (bCons (bName 4) (bCons (bName 5) (bCons (bName 6) bNil)))) [0, 1, 2] (dCall 3 m_sure_lead (aCons (dVar 0) (aCons (dVar 1) (aCons (dVar 2) aNil))))) [.fz X, .fz P', .fz Y, .un, .un, .un, .un] w = .nx [.fz X, .fz P', .fz Y, .un, .fz A, .fz P, .fz B] w := by
    have g0 : dVar 0 [.fz X, .fz P', .fz Y, .un, .un, .un, .un] w = .ok X w := rfl
    have g1 : dVar 1 [.fz X, .fz P', .fz Y, .un, .un, .un, .un] w = .ok P' w := rfl
    have g2 : dVar 2 [.fz X, .fz P', .fz Y, .un, .un, .un, .un] w = .ok Y w := rfl
    generalize m_sure_lead = F at *
    rw [e_sAsg, dc3, g0, bind_ok, g1, bind_ok, g2, bind_ok, s, obind_ok]; rfl
  have g4 : dVar 4 [.fz X, .fz P', .fz Y, .un, .fz A, .fz P, .fz B] w = .ok A w := rfl
  have g5 : dVar 5 [.fz X, .fz P', .fz Y, .un, .fz A, .fz P, .fz B] w = .ok P w := rfl
  have g6 : dVar 6 [.fz X, .fz P', .fz Y, .un, .fz A, .fz P, .fz B] w = .ok B w := rfl
  have t2 : (sAsg (bName 3) [4, 5, 6] (dCall 3 m_out_in (aCons (dVar 4) (aCons (dVar 5) (aCons (dVar 6) aNil))))) [.fz X, .fz P', .fz Y, .un, .fz A, .fz P, .fz B] w = .nx [.fz X, .fz P', .fz Y, .fz (oD o), .fz A, .fz P, .fz B] w := by
    generalize m_out_in = F at *
    rw [e_sAsg, dc3, g4, bind_ok, g5, bind_ok, g6, bind_ok, h, obind_ok]; rfl
  have g3 : dVar 3 [.fz X, .fz P', .fz Y, .fz (oD o), .fz A, .fz P, .fz B] w = .ok (oD o) w := rfl
  rw [e0, e1, e_sSeq, t1, e_sqn, e_sSeq, t2, e_sqn, e_sSeq, e_sIf, e_dB, e_dBin, g3, bind_ok, e_dC, bind_ok, isD_o, bind_ok, e_boolM, obind_ok]
  cases o with
  | none => rfl
  | some x => rfl
theorem astray_ok {o : Option Int} (h : m_why_no_lead [X, P', Y] w = match o with | none => .ex ⟨"CanNot", none⟩ w | some x => .ok (.int x) w) : m__law_astray [X, P', Y] w = .ok (match o with | none => .lst [.str "can not"] | some x => .int x) w := by
  have e0 : m__law_astray [X, P', Y] w = endO (s__law_astray [.fz X, .fz P', .fz Y, .un, .un] w) := by
    unfold m__law_astray
    rw [e_body]; rfl
  have e1 : s__law_astray = (sSeq (sAsg (bTup 2 (bCons (bName 3) (bCons (bName 4) bNil))) [] (dTup (aCons (dC .non) (aCons (dC .non) aNil)))) (sSeq (sTryU Us 5 [("CanNot", (sAsg (bName 3) [] (dL (dLst (aCons (dC (.str "can not")) aNil)))))] (sAsg (bName 4) [0, 1, 2] (dCall 3 m_why_no_lead (aCons (dVar 0) (aCons (dVar 1) (aCons (dVar 2) aNil)))))) (sRet (dIf (dB (dBin isD (dVar 3) (dC .non))) (dVar 4) (dVar 3))))) := rfl
  have t1 : (sAsg (bTup 2 (bCons (bName 3) (bCons (bName 4) bNil))) [] (dTup (aCons (dC .non) (aCons (dC .non) aNil)))) [.fz X, .fz P', .fz Y, .un, .un] w = .nx [.fz X, .fz P', .fz Y, .fz .non, .fz .non] w := rfl
  have g0 : dVar 0 [.fz X, .fz P', .fz Y, .fz .non, .fz .non] w = .ok X w := rfl
  have g1 : dVar 1 [.fz X, .fz P', .fz Y, .fz .non, .fz .non] w = .ok P' w := rfl
  have g2 : dVar 2 [.fz X, .fz P', .fz Y, .fz .non, .fz .non] w = .ok Y w := rfl
  rw [e0, e1, e_sSeq, t1, e_sqn, e_sSeq]
  cases o with
  | none =>
    have h : m_why_no_lead [X, P', Y] w = .ex ⟨"CanNot", none⟩ w := h
    have b : (sAsg (bName 4) [0, 1, 2] (dCall 3 m_why_no_lead (aCons (dVar 0) (aCons (dVar 1) (aCons (dVar 2) aNil))))) [.fz X, .fz P', .fz Y, .fz .non, .fz .non] w = .ex ⟨"CanNot", none⟩ w := by
      generalize m_why_no_lead = F at *
      rw [e_sAsg, dc3, g0, bind_ok, g1, bind_ok, g2, bind_ok, h]; rfl
    unfold sTryU
    rw [b]
    rfl
  | some x =>
    have h : m_why_no_lead [X, P', Y] w = .ok (.int x) w := h
    have b : (sAsg (bName 4) [0, 1, 2] (dCall 3 m_why_no_lead (aCons (dVar 0) (aCons (dVar 1) (aCons (dVar 2) aNil))))) [.fz X, .fz P', .fz Y, .fz .non, .fz .non] w = .nx [.fz X, .fz P', .fz Y, .fz .non, .fz (.int x)] w := by
      generalize m_why_no_lead = F at *
      rw [e_sAsg, dc3, g0, bind_ok, g1, bind_ok, g2, bind_ok, h, obind_ok]; rfl
    unfold sTryU
    rw [b]
    rfl
end
section
variable {b b2 : Int} {rs ms rs2 ms2 : List Int} {qs : List Rat} {w : W}
theorem is_why_ok (G : GoodS b rs ms) (G2 : GoodS b2 rs2 ms2) (h : OkQ qs) (he : Ends0 qs) {x : Int} (hx : x.natAbs < JB) : m_is_why_no_lead [setD b rs ms, polyQ qs, setD b2 rs2 ms2, .int x] w = .ok (.bl (hasB b rs ms x && !leadB b2 rs2 ms2 (wv qs x))) w := by
  have s := sure_lead_of (X := setD b rs ms) (P' := polyQ qs) (Y := setD b2 rs2 ms2) (sure_set_ok G) (sure_low_ok h he) (sure_set_ok G2) (w := w)
  have hh := has_ok (b := b) (rs := rs) (ms := ms) (by have := G.b1; omega) (n := x) (w := w)
  have ld := led_ok G2 h hx (w := w)
  have nn : m_is_number [.int x] w = .ok (.bl true) w := is_number_ok (d := .int x) rfl
  generalize leadB b2 rs2 ms2 (wv qs x) = LB at *
  generalize hasB b rs ms x = HB at *
  generalize setD b rs ms = A at *
  generalize setD b2 rs2 ms2 = B at *
  generalize polyQ qs = P at *
  have e0 : m_is_why_no_lead [A, P, B, .int x] w = endO (s_is_why_no_lead [.fz A, .fz P, .fz B, .fz (.int x), .un, .un, .un] w) := by
    unfold m_is_why_no_lead
    rw [e_body]; rfl
  have e1 : s_is_why_no_lead = (sSeq (sAsg (bTup 3 (bCons (bName 4) (bCons (bName 5) (bCons (bName 6) bNil)))) [0, 1, 2] (dCall 3 m_sure_lead (aCons (dVar 0) (aCons (dVar 1) (aCons (dVar 2) aNil))))) (sRet (dAnd (dCall 1 m_is_number (aCons (dVar 3) aNil)) (dAnd (dCall 2 m_has_member (aCons (dVar 4) (aCons (dVar 3) aNil))) (dNot (dCall 3 m_is_led_at (aCons (dVar 5) (aCons (dVar 3) (aCons (dVar 6) aNil))))))))) := rfl
  have t1 : (sAsg (bTup 3 (bCons (bName 4) (bCons (bName 5) (bCons (bName 6) bNil)))) [0, 1, 2] (dCall 3 m_sure_lead (aCons (dVar 0) (aCons (dVar 1) (aCons (dVar 2) aNil))))) [.fz A, .fz P, .fz B, .fz (.int x), .un, .un, .un] w = .nx [.fz A, .fz P, .fz B, .fz (.int x), .fz A, .fz P, .fz B] w := by
    have g0 : dVar 0 [.fz A, .fz P, .fz B, .fz (.int x), .un, .un, .un] w = .ok A w := rfl
    have g1 : dVar 1 [.fz A, .fz P, .fz B, .fz (.int x), .un, .un, .un] w = .ok P w := rfl
    have g2 : dVar 2 [.fz A, .fz P, .fz B, .fz (.int x), .un, .un, .un] w = .ok B w := rfl
    generalize m_sure_lead = F at *
    rw [e_sAsg, dc3, g0, bind_ok, g1, bind_ok, g2, bind_ok, s, obind_ok]; rfl
  have g3 : dVar 3 [.fz A, .fz P, .fz B, .fz (.int x), .fz A, .fz P, .fz B] w = .ok (.int x) w := rfl
  have g4 : dVar 4 [.fz A, .fz P, .fz B, .fz (.int x), .fz A, .fz P, .fz B] w = .ok A w := rfl
  have g5 : dVar 5 [.fz A, .fz P, .fz B, .fz (.int x), .fz A, .fz P, .fz B] w = .ok P w := rfl
  have g6 : dVar 6 [.fz A, .fz P, .fz B, .fz (.int x), .fz A, .fz P, .fz B] w = .ok B w := rfl
  rw [e0, e1, e_sSeq, t1, e_sqn]
  generalize m_is_number = F1 at *
  generalize m_has_member = F2 at *
  generalize m_is_led_at = F3 at *
  rw [e_sRet, e_dAnd, dc1, g3, bind_ok, nn, bind_ok, e_truB, bind_ok, if_pos rfl, e_dAnd, dc2, g4, bind_ok, g3, bind_ok, hh, bind_ok, e_truB, bind_ok]
  cases HB with
  | false => rfl
  | true =>
    rw [if_pos rfl, e_dNot, e_dTru, dc3, g5, bind_ok, g3, bind_ok, g6, bind_ok, ld, bind_ok, e_truB, bind_ok, obind_ok, e_endr]
    rfl
theorem fits_ok (G2 : GoodS b2 rs2 ms2) (h : OkQ qs) {n : Int} (hn : n.natAbs < JB) : m__law_fits [polyQ qs, .int n, setD b2 rs2 ms2] w = .ok (.bl (leadB b2 rs2 ms2 (wv qs n))) w := by
  have v := lvalue_ok h hn (w := w)
  have hs := lhas_ok (b := b2) (rs := rs2) (ms := ms2) (by have := G2.b1; omega) (n := (wv qs n).num) (w := w)
  unfold leadB
  unfold fq at v
  clear hn
  generalize wv qs n = q at *
  generalize hasB b2 rs2 ms2 q.num = HB at *
  generalize q.num = NN at *
  generalize (q.den : Int) = DD at *
  generalize setD b2 rs2 ms2 = B at *
  generalize polyQ qs = P at *
  have e0 : m__law_fits [P, .int n, B] w = endO (s__law_fits [.fz P, .fz (.int n), .fz B, .un, .un] w) := by
    unfold m__law_fits
    rw [e_body]; rfl
  have e1 : s__law_fits = sSeq (sAsg (bTup 2 (bCons (bName 3) (bCons (bName 4) bNil))) [0, 1] (dCall 2 m__law_value (aCons (dVar 0) (aCons (dVar 1) aNil)))) (sRet (dAnd (dBin eqD (dVar 4) (dC (.int 1))) (dCall 2 m__law_has (aCons (dVar 2) (aCons (dVar 3) aNil))))) := rfl
  have t1 : sAsg (bTup 2 (bCons (bName 3) (bCons (bName 4) bNil))) [0, 1] (dCall 2 m__law_value (aCons (dVar 0) (aCons (dVar 1) aNil))) [.fz P, .fz (.int n), .fz B, .un, .un] w = .nx [.fz P, .fz (.int n), .fz B, .fz (.int NN), .fz (.int DD)] w := by
    have g0 : dVar 0 [.fz P, .fz (.int n), .fz B, .un, .un] w = .ok P w := rfl
    have g1 : dVar 1 [.fz P, .fz (.int n), .fz B, .un, .un] w = .ok (.int n) w := rfl
    rw [e_sAsg, dc2, g0, bind_ok, g1, bind_ok, v, obind_ok]; rfl
  have g2 : dVar 2 [.fz P, .fz (.int n), .fz B, .fz (.int NN), .fz (.int DD)] w = .ok B w := rfl
  have g3 : dVar 3 [.fz P, .fz (.int n), .fz B, .fz (.int NN), .fz (.int DD)] w = .ok (.int NN) w := rfl
  have g4 : dVar 4 [.fz P, .fz (.int n), .fz B, .fz (.int NN), .fz (.int DD)] w = .ok (.int DD) w := rfl
  rw [e0, e1, e_sSeq, t1, e_sqn, e_sRet, e_dAnd, e_dBin, g4, bind_ok, e_dC, bind_ok, e_eqI, bind_ok, e_truB, bind_ok]
  cases decide (DD = 1) with
  | true => rw [if_pos rfl, dc2, g2, bind_ok, g3, bind_ok, hs]; rfl
  | false => rfl
end
end K18
namespace K18
open PySem DL
theorem lc_ok {a b : Nat} {w : W} (ha : a ≠ 0) (ha2 : a < 2 ^ 50) (hb2 : b < 2 ^ 50) : m__law_gcd [.int a, .int b] w = .ok (.int ((Nat.gcd a b : Nat) : Int)) w ∧ divD (.int (a : Int)) (.int ((Nat.gcd a b : Nat) : Int)) w = .ok (.int ((a / Nat.gcd a b : Nat) : Int)) w ∧ mulD (.int ((a / Nat.gcd a b : Nat) : Int)) (.int (b : Int)) w = .ok (.int ((Nat.lcm a b : Nat) : Int)) w := by
  have gp : 0 < Nat.gcd a b := Nat.gcd_pos_of_pos_left _ (Nat.pos_of_ne_zero ha)
  have gl : Nat.gcd a b ≤ a := Nat.gcd_le_left _ (Nat.pos_of_ne_zero ha)
  refine ⟨lgcd_ok (a := a) (b := b) (Nat.lt_of_lt_of_le (show (b : Int).natAbs < 2 ^ 50 by omega) (Nat.pow_le_pow_right (by omega) (by omega))), ?_, ?_⟩
  · have hG : ((Nat.gcd a b : Nat) : Int) < 2 ^ 9000 := Int.lt_trans (show ((Nat.gcd a b : Nat) : Int) < 2 ^ 60 by omega) (by decide)
    rw [e_divp (by omega) hG, Int.natCast_ediv]
  · rw [e_mulr (by omega) (by omega)]
    congr 2
    rw [← Int.natCast_mul]
    congr 1
    unfold Nat.lcm
    rw [Nat.div_mul_right_comm (Nat.gcd_dvd_left a b)]
theorem law_of_ok {ds : List D} {w : W} {m : Int} (h : BI w m) (hm : m < 2 ^ 39) (hne : ds ≠ []) (hz : ds.length ≤ 100000) : ∃ d ∈ ds, ∃ w', m__law_of [.box 0, .lst ds] w = .ok d w' ∧ BI w' (m + 1) := by
  have hp : 0 < ds.length := by cases ds with
    | nil => exact absurd rfl hne
    | cons => simp
  obtain ⟨x, w', t, x0, x1, B⟩ := take_ok (n := (ds.length : Int)) h (by omega) (by omega) (by omega)
  have hx : x.toNat < ds.length := by omega
  refine ⟨ds[x.toNat], List.getElem_mem hx, w', ?_, B⟩
  have ix : ixD (.lst ds) (.int x) w' = .ok ds[x.toNat] w' := ix_l x0 (List.getElem?_eq_getElem hx)
  have e0 : m__law_of [.box 0, .lst ds] w = endO (s__law_of [.fz (.box 0), .fz (.lst ds)] w) := by
    unfold m__law_of
    rw [e_body]; rfl
  have e1 : s__law_of = sRet (dBin ixD (dVar 1) (dCall 2 m__law_take (aCons (dVar 0) (aCons (dUn lenD (dVar 1)) aNil)))) := rfl
  have g0 : dVar 0 [.fz (.box 0), .fz (.lst ds)] w = .ok (.box 0) w := rfl
  have g1 : dVar 1 [.fz (.box 0), .fz (.lst ds)] w = .ok (.lst ds) w := rfl
  have ln : lenD (.lst ds) w = .ok (.int (ds.length : Int)) w := rfl
  generalize m__law_take = F at *
  rw [e0, e1, e_sRet, e_dBin, g1, bind_ok, dc2, g0, bind_ok, e_dUn, g1, bind_ok, ln, bind_ok, t, bind_ok, ix, obind_ok, e_endr]
/-! the drawn POLYS -/
structure PolyP (qs : List Rat) : Prop where
  ok : OkQ qs
  ends : Ends0 qs
  dens : ∀ q ∈ qs, q.den ≤ 2
  len : qs.length ≤ 4
theorem rowU_two : ∀ (qs : List Rat) (u : Nat), u ∣ 2 → (∀ q ∈ qs, q.den ≤ 2) → rowU u qs ∣ 2
  | [], u, h, _ => h
  | q :: qs, u, h, hq => by
    show rowU (Nat.lcm u q.den) qs ∣ 2
    refine rowU_two qs _ (Nat.lcm_dvd h ?_) fun r hr => hq r (List.mem_cons_of_mem _ hr)
    have h1 := hq q List.mem_cons_self
    have h2 := q.den_pos
    obtain h3 | h3 : q.den = 1 ∨ q.den = 2 := by omega
    · rw [h3]; exact ⟨2, rfl⟩
    · rw [h3]; exact ⟨1, rfl⟩
theorem rowU_le {qs : List Rat} (h : PolyP qs) : rowU 1 qs ≠ 0 ∧ rowU 1 qs ≤ 2 :=
  ⟨(okQ_U h.ok).1, Nat.le_of_dvd (by omega) (rowU_two qs 1 ⟨2, rfl⟩ h.dens)⟩
def chosenQ : List Rat := [0, mkRat (-1) 2, mkRat 1 2]
def squareQ : List Rat := [0, 0, 1]
theorem polyP_chosen : PolyP chosenQ := ⟨⟨by decide, by decide +kernel⟩, .inr ⟨[0, mkRat (-1) 2], mkRat 1 2, rfl, by decide +kernel⟩, by decide +kernel, by decide⟩
theorem polyP_square : PolyP squareQ := ⟨⟨by decide, by decide +kernel⟩, .inr ⟨[0, 0], 1, rfl, by decide +kernel⟩, by decide +kernel, by decide⟩
theorem polyP_line {c b2 : Int} (h1 : 0 ≤ c) (h2 : c ≤ 9) (h3 : 1 ≤ b2) (h4 : b2 ≤ 10) : PolyP [(c : Rat), (b2 : Rat)] := by
  have hd : ∀ q ∈ [(c : Rat), (b2 : Rat)], q.den = 1 ∧ q.num.natAbs ≤ 100 := fun q hq => by
    simp only [List.mem_cons, List.not_mem_nil, or_false] at hq
    rcases hq with rfl | rfl
    · exact ⟨rfl, show c.natAbs ≤ 100 by omega⟩
    · exact ⟨rfl, show b2.natAbs ≤ 100 by omega⟩
  refine ⟨⟨by simp, fun q hq => ⟨by rw [(hd q hq).1]; omega, (hd q hq).2⟩⟩, .inr ⟨[(c : Rat)], (b2 : Rat), rfl, fun e => ?_⟩, fun q hq => by rw [(hd q hq).1]; omega, by simp⟩
  have : (b2 : Rat).num = 0 := by rw [e]; rfl
  have : b2 = 0 := this
  omega
theorem chosen_ok {w : W} : m__law_chosen [.int 2] w = .ok (polyQ chosenQ) w := by kernel_rfl
def PR1 : SM := (sAsg (bName 1) [0] (dCall 2 m__law_of (aCons (dVar 0) (aCons (dL (dLst (aCons (dCall 4 m__law_some_poly (aCons (dVar 0) (aCons (dC (.int 3)) (aCons (dC (.int 6)) (aCons (dC (.int 1)) aNil))))) (aCons (dCall 4 m__law_some_poly (aCons (dVar 0) (aCons (dC (.int 2)) (aCons (dC (.int 4)) (aCons (dC (.int 2)) aNil))))) (aCons (dCall 1 m__law_chosen (aCons (dC (.int 2)) aNil)) (aCons (dTup (aCons (dTup (aCons (dC (.int 0)) (aCons (dC (.int 1)) aNil))) (aCons (dTup (aCons (dC (.int 0)) (aCons (dC (.int 1)) aNil))) (aCons (dTup (aCons (dC (.int 1)) (aCons (dC (.int 1)) aNil))) aNil)))) (aCons (dTup (aCons (dTup (aCons (dCall 2 m__law_take (aCons (dVar 0) (aCons (dC (.int 9)) aNil))) (aCons (dC (.int 1)) aNil))) (aCons (dTup (aCons (dBin ixD (dVar 10) (dC (.int 0))) (aCons (dC (.int 1)) aNil))) aNil))) aNil))))))) aNil))))
theorem pr1_ok {b2 : Int} {rs2 ms2 : List Int} {A : D} {w : W} {m : Int} (hw : BI w m) (hm : m < 2 ^ 35) (h3 : 1 ≤ b2) (h4 : b2 ≤ 10) : ∃ qs w', PolyP qs ∧ PR1 [.fz (.box 0), .un, .un, .un, .un, .un, .un, .un, .un, .fz A, .fz (setD b2 rs2 ms2)] w = .nx [.fz (.box 0), .fz (polyQ qs), .un, .un, .un, .un, .un, .un, .un, .fz A, .fz (setD b2 rs2 ms2)] w' ∧ BI w' (m + 60) := by
  obtain ⟨q1, w1, e1, o1, n1, b1, d1, l1⟩ := poly_draw (deg := 3) (top := 6) (low := 1) hw (by omega) (by omega) (by omega) (by omega) (by omega) (by omega) (by omega)
  obtain ⟨q2, w2, e2, o2, n2, bb, d2, l2⟩ := poly_draw (deg := 2) (top := 4) (low := 2) b1 (by omega) (by omega) (by omega) (by omega) (by omega) (by omega) (by omega)
  obtain ⟨c, w3, e3, c0, c1, b3⟩ := take_ok (n := 9) bb (by omega) (by omega) (by omega)
  obtain ⟨d, hd, w4, e4, b4⟩ := law_of_ok (ds := [polyQ q1, polyQ q2, polyQ chosenQ, polyQ squareQ, polyQ [(c : Rat), (b2 : Rat)]]) b3 (by omega) (by simp) (by simp)
  have hq : ∃ qs, PolyP qs ∧ d = polyQ qs := by
    simp only [List.mem_cons, List.not_mem_nil, or_false] at hd
    rcases hd with rfl | rfl | rfl | rfl | rfl
    · exact ⟨q1, ⟨o1, n1, fun q hq => by have := d1 q hq; omega, by omega⟩, rfl⟩
    · exact ⟨q2, ⟨o2, n2, fun q hq => by have := d2 q hq; omega, by omega⟩, rfl⟩
    · exact ⟨_, polyP_chosen, rfl⟩
    · exact ⟨_, polyP_square, rfl⟩
    · exact ⟨_, polyP_line c0 (by omega) h3 h4, rfl⟩
  obtain ⟨qs, hp, rfl⟩ := hq
  refine ⟨qs, w4, hp, ?_, b4.mono (by omega)⟩
  have i0 : ∀ w, ixD (setD b2 rs2 ms2) (.int 0) w = .ok (.int b2) w := fun w => ix_t0
  have ch := chosen_ok (w := w2)
  have e1 : m__law_some_poly [.box 0, .int 3, .int 6, .int 1] w = .ok (polyQ q1) w1 := e1
  have e2 : m__law_some_poly [.box 0, .int 2, .int 4, .int 2] w1 = .ok (polyQ q2) w2 := e2
  have e5 : polyQ [(c : Rat), (b2 : Rat)] = .tup [.tup [.int c, .int 1], .tup [.int b2, .int 1]] := rfl
  have e6 : polyQ squareQ = .tup [.tup [.int 0, .int 1], .tup [.int 0, .int 1], .tup [.int 1, .int 1]] := by kernel_rfl
  rw [e5, e6] at e4
  generalize polyQ q1 = Q1 at *
  generalize polyQ q2 = Q2 at *
  generalize polyQ chosenQ = Q3 at *
  generalize polyQ qs = Q at *
  generalize setD b2 rs2 ms2 = B at *
  generalize henv : ([.fz (.box 0), .un, .un, .un, .un, .un, .un, .un, .un, .fz A, .fz B] : DL.Env) = env at *
  have g0 : ∀ w, dVar 0 env w = .ok (.box 0) w := fun w => by rw [← henv]; rfl
  have g10 : ∀ w, dVar 10 env w = .ok B w := fun w => by rw [← henv]; rfl
  have dc4 : ∀ (φ : List D → M D) (n1 n2 n3 : Int) (w w' : W) (d : D), φ [.box 0, .int n1, .int n2, .int n3] w = .ok d w' → dCall 4 φ (aCons (dVar 0) (aCons (dC (.int n1)) (aCons (dC (.int n2)) (aCons (dC (.int n3)) aNil)))) env w = .ok d w' := fun φ n1 n2 n3 w w' d h => by
    simp only [e_dCall, e_aCons, e_aNil, g0, e_dC, bind_ok]
    exact h
  have row : (dL (dLst (aCons (dCall 4 m__law_some_poly (aCons (dVar 0) (aCons (dC (.int 3)) (aCons (dC (.int 6)) (aCons (dC (.int 1)) aNil))))) (aCons (dCall 4 m__law_some_poly (aCons (dVar 0) (aCons (dC (.int 2)) (aCons (dC (.int 4)) (aCons (dC (.int 2)) aNil))))) (aCons (dCall 1 m__law_chosen (aCons (dC (.int 2)) aNil)) (aCons (dTup (aCons (dTup (aCons (dC (.int 0)) (aCons (dC (.int 1)) aNil))) (aCons (dTup (aCons (dC (.int 0)) (aCons (dC (.int 1)) aNil))) (aCons (dTup (aCons (dC (.int 1)) (aCons (dC (.int 1)) aNil))) aNil)))) (aCons (dTup (aCons (dTup (aCons (dCall 2 m__law_take (aCons (dVar 0) (aCons (dC (.int 9)) aNil))) (aCons (dC (.int 1)) aNil))) (aCons (dTup (aCons (dBin ixD (dVar 10) (dC (.int 0))) (aCons (dC (.int 1)) aNil))) aNil))) aNil))))))) env w = .ok (.lst [Q1, Q2, Q3, .tup [.tup [.int 0, .int 1], .tup [.int 0, .int 1], .tup [.int 1, .int 1]], .tup [.tup [.int c, .int 1], .tup [.int b2, .int 1]]]) w3 := by
    rw [e_dL, e_dLst, e_aCons, dc4 _ 3 6 1 w w1 Q1 e1, bind_ok, e_aCons, dc4 _ 2 4 2 w1 w2 Q2 e2, bind_ok, e_aCons, dc1, e_dC, bind_ok, ch, bind_ok, e_aCons, dt3, dt2, e_dC, bind_ok, e_dC, bind_ok, bind_ok, dt2, e_dC, bind_ok, e_dC, bind_ok, bind_ok, dt2, e_dC, bind_ok, e_dC, bind_ok, bind_ok, bind_ok, e_aCons, dt2, dt2, dc2, g0, bind_ok, e_dC, bind_ok, e3, bind_ok, e_dC, bind_ok, bind_ok, dt2, e_dBin, g10, bind_ok, e_dC, bind_ok, i0, bind_ok, e_dC, bind_ok, bind_ok, bind_ok, e_aNil, bind_ok, bind_ok, bind_ok, bind_ok, bind_ok, bind_ok, if_pos (sl_of (by simp)), bind_ok]
  have eq : PR1 = sAsg (bName 1) [0] (dCall 2 m__law_of (aCons (dVar 0) (aCons (dL (dLst (aCons (dCall 4 m__law_some_poly (aCons (dVar 0) (aCons (dC (.int 3)) (aCons (dC (.int 6)) (aCons (dC (.int 1)) aNil))))) (aCons (dCall 4 m__law_some_poly (aCons (dVar 0) (aCons (dC (.int 2)) (aCons (dC (.int 4)) (aCons (dC (.int 2)) aNil))))) (aCons (dCall 1 m__law_chosen (aCons (dC (.int 2)) aNil)) (aCons (dTup (aCons (dTup (aCons (dC (.int 0)) (aCons (dC (.int 1)) aNil))) (aCons (dTup (aCons (dC (.int 0)) (aCons (dC (.int 1)) aNil))) (aCons (dTup (aCons (dC (.int 1)) (aCons (dC (.int 1)) aNil))) aNil)))) (aCons (dTup (aCons (dTup (aCons (dCall 2 m__law_take (aCons (dVar 0) (aCons (dC (.int 9)) aNil))) (aCons (dC (.int 1)) aNil))) (aCons (dTup (aCons (dBin ixD (dVar 10) (dC (.int 0))) (aCons (dC (.int 1)) aNil))) aNil))) aNil))))))) aNil))) := rfl
  rw [eq, e_sAsg, dc2, g0, bind_ok, row, bind_ok, e4, obind_ok, ← henv]
  rfl
/-! the law's own unders and rounds -/
def underB : SM := (sAsg (bName 2) [] (dBin mulD (dBin divD (dVar 2) (dCall 2 m__law_gcd (aCons (dVar 2) (aCons (dBin ixD (dVar 3) (dC (.int 1))) aNil)))) (dBin ixD (dVar 3) (dC (.int 1)))))
theorem under_for {A B P : D} {w : W} : ∀ (qs : List Rat) (u : Nat) (s3 : Slot), u ∣ 2 → (∀ q ∈ qs, q.den ≤ 2) → isF s3 → ∃ s3', isF s3' ∧ DL.forM (bName 3) underB (qs.map fq) [.fz (.box 0), .fz P, .fz (.int (u : Int)), s3, .un, .un, .un, .un, .un, .fz A, .fz B] w = .nx [.fz (.box 0), .fz P, .fz (.int ((rowU u qs : Nat) : Int)), s3', .un, .un, .un, .un, .un, .fz A, .fz B] w
  | [], u, s3, _, _, h => ⟨s3, h, rfl⟩
  | q :: qs, u, s3, hu, hq, _ => by
    have h1 := hq q List.mem_cons_self
    have h2 := q.den_pos
    have hd : q.den ∣ 2 := by
      obtain h3 | h3 : q.den = 1 ∨ q.den = 2 := by omega
      · rw [h3]; exact ⟨2, rfl⟩
      · rw [h3]; exact ⟨1, rfl⟩
    have u0 : u ≠ 0 := by rintro rfl; obtain ⟨c, hc⟩ := hu; omega
    have u2 : u ≤ 2 := Nat.le_of_dvd (by omega) hu
    obtain ⟨k1, k2, k3⟩ := lc_ok (a := u) (b := q.den) (w := w) u0 (by omega) (by omega)
    obtain ⟨s3', hs, e⟩ := under_for (A := A) (B := B) (P := P) (w := w) qs (Nat.lcm u q.den) (.fz (fq q)) (Nat.lcm_dvd hu hd) (fun r hr => hq r (List.mem_cons_of_mem _ hr)) (.inr ⟨_, rfl⟩)
    refine ⟨s3', hs, ?_⟩
    have b : underB [.fz (.box 0), .fz P, .fz (.int (u : Int)), .fz (fq q), .un, .un, .un, .un, .un, .fz A, .fz B] w = .nx [.fz (.box 0), .fz P, .fz (.int ((Nat.lcm u q.den : Nat) : Int)), .fz (fq q), .un, .un, .un, .un, .un, .fz A, .fz B] w := by
      unfold fq
      generalize ((Nat.lcm u q.den : Nat) : Int) = L at *
      generalize ((u / Nat.gcd u q.den : Nat) : Int) = V at *
      generalize ((Nat.gcd u q.den : Nat) : Int) = GG at *
      generalize (q.den : Int) = DD at *
      generalize (u : Int) = UU at *
      have g2 : dVar 2 [.fz (.box 0), .fz P, .fz (.int UU), .fz (.tup [.int q.num, .int DD]), .un, .un, .un, .un, .un, .fz A, .fz B] w = .ok (.int UU) w := rfl
      have g3 : dVar 3 [.fz (.box 0), .fz P, .fz (.int UU), .fz (.tup [.int q.num, .int DD]), .un, .un, .un, .un, .un, .fz A, .fz B] w = .ok (.tup [.int q.num, .int DD]) w := rfl
      unfold underB
      generalize m__law_gcd = F at *
      rw [e_sAsg, e_dBin, e_dBin, g2, bind_ok, dc2, g2, bind_ok, e_dBin, g3, bind_ok, e_dC, bind_ok, ix_t1, bind_ok, k1, bind_ok, k2, bind_ok, e_dBin, g3, bind_ok, e_dC, bind_ok, ix_t1, bind_ok, k3, obind_ok]
      rfl
    rw [List.map_cons, for_nx (env1 := [.fz (.box 0), .fz P, .fz (.int (u : Int)), .fz (fq q), .un, .un, .un, .un, .un, .fz A, .fz B]) rfl b, e]
    rfl
end K18
namespace DL
open PySem
/-! ### what a run must do, step by step. What stands behind a step is an instance: simp does not go into it. -/
class KF (α β : Type) where
  f : α → W → β
class KS where
  s : SM
class KQ (α : Type) where
  q : α → W → Prop
  x : Ex → W → Prop
class PO where
  nx : Env → W → Prop
  rt : D → W → Prop
  bk : Env → W → Prop
  ct : Env → W → Prop
  ex : Ex → W → Prop
def bI {α β : Type} (r : Res α) [k : KF α (Res β)] : Res β := r.bind k.f
def oI {α : Type} (r : Res α) [k : KF α Out] : Out := Out.bind r k.f
def sI (o : Out) [k : KS] : Out := seqO o k.s
def wpI {α : Type} (r : Res α) [k : KQ α] : Prop := match r with
  | .ok a w => k.q a w
  | .ex e w => k.x e w
  | .st => False
def wpO (o : Out) [P : PO] : Prop := match o with
  | .nx e w => P.nx e w
  | .rt d w => P.rt d w
  | .bk e w => P.bk e w
  | .ct e w => P.ct e w
  | .ex e w => P.ex e w
  | .st => False
@[reducible] def wpR {α : Type} (r : Res α) (Q : α → W → Prop) (X : Ex → W → Prop) : Prop := @wpI α r ⟨Q, X⟩
@[reducible] def wpS (o : Out) (P : PO) : Prop := @wpO o P
section
variable {α β : Type} {r : Res α} {Q : α → W → Prop} {X : Ex → W → Prop} {P : PO} {o p : Out} {w : W} {n b c : Env → W → Prop} {t : D → W → Prop} {x : Ex → W → Prop}
theorem wpR_def : wpR r Q X = @wpI α r ⟨Q, X⟩ := Eq.trans rfl rfl
theorem wpS_def : wpS o P = @wpO o P := Eq.trans rfl rfl
theorem po_nx : @PO.nx ⟨n, t, b, c, x⟩ = n := Eq.trans rfl rfl
theorem po_rt : @PO.rt ⟨n, t, b, c, x⟩ = t := Eq.trans rfl rfl
theorem po_bk : @PO.bk ⟨n, t, b, c, x⟩ = b := Eq.trans rfl rfl
theorem po_ct : @PO.ct ⟨n, t, b, c, x⟩ = c := Eq.trans rfl rfl
theorem po_ex : @PO.ex ⟨n, t, b, c, x⟩ = x := Eq.trans rfl rfl
theorem wpR_bind {f : α → W → Res β} {Q : β → W → Prop} : wpR (r.bind f) Q X = wpR r (fun a w => wpR (f a w) Q X) X := by cases r <;> rfl
theorem wpR_ok {a : α} : wpR (.ok a w) Q X = Q a w := Eq.trans rfl rfl
theorem wpR_noX : wpR (noX r) Q X = wpR r Q (fun _ _ => False) := by cases r <;> rfl
theorem wpI_bI {f : α → W → Res β} {Q : β → W → Prop} : @wpI β (@bI α β r ⟨f⟩) ⟨Q, X⟩ = @wpI α r ⟨fun a w => @wpI β (f a w) ⟨Q, X⟩, X⟩ := by cases r <;> rfl
theorem wpO_oI {f : α → W → Out} : @wpO (@oI α r ⟨f⟩) ⟨n, t, b, c, x⟩ = @wpI α r ⟨fun a w => @wpO (f a w) ⟨n, t, b, c, x⟩, x⟩ := by cases r <;> rfl
theorem wpO_sI {ν : SM} : @wpO (@sI o ⟨ν⟩) ⟨n, t, b, c, x⟩ = @wpO o ⟨fun e w => @wpO (ν e w) ⟨n, t, b, c, x⟩, t, b, c, x⟩ := by cases o <;> rfl
theorem wpI_end {Q : D → W → Prop} : @wpI D (endO o) ⟨Q, X⟩ = @wpO o ⟨fun _ w => Q .non w, Q, fun _ _ => False, fun _ _ => False, X⟩ := by cases o <;> rfl
theorem wpI_ok {a : α} : @wpI α (.ok a w) ⟨Q, X⟩ = Q a w := Eq.trans rfl rfl
theorem wpI_ex {e : Ex} : @wpI α (.ex e w : Res α) ⟨Q, X⟩ = X e w := Eq.trans rfl rfl
theorem wpI_st : @wpI α (.st : Res α) ⟨Q, X⟩ = False := Eq.trans rfl rfl
theorem wpO_nx {e : Env} : @wpO (.nx e w) ⟨n, t, b, c, x⟩ = n e w := Eq.trans rfl rfl
theorem wpO_rt {d : D} : @wpO (.rt d w) ⟨n, t, b, c, x⟩ = t d w := Eq.trans rfl rfl
theorem wpO_bk {e : Env} : @wpO (.bk e w) ⟨n, t, b, c, x⟩ = b e w := Eq.trans rfl rfl
theorem wpO_ct {e : Env} : @wpO (.ct e w) ⟨n, t, b, c, x⟩ = c e w := Eq.trans rfl rfl
theorem wpO_ex {e : Ex} : @wpO (.ex e w) ⟨n, t, b, c, x⟩ = x e w := Eq.trans rfl rfl
theorem wpO_st : @wpO .st ⟨n, t, b, c, x⟩ = False := Eq.trans rfl rfl
theorem wpI_ite {c : Prop} {d : Decidable c} {r s : Res α} {k : KQ α} : @wpI α (@ite (Res α) c d r s) k = ((c → @wpI α r k) ∧ (¬ c → @wpI α s k)) := by
  split
  · rename_i h; simp [h]
  · rename_i h; simp [h]
theorem wpO_ite {c : Prop} {d : Decidable c} : @wpO (@ite Out c d o p) P = ((c → @wpO o P) ∧ (¬ c → @wpO p P)) := by
  split
  · rename_i h; simp [h]
  · rename_i h; simp [h]
theorem wpI_noX : @wpI α (noX r) ⟨Q, X⟩ = @wpI α r ⟨Q, fun _ _ => False⟩ := by cases r <;> rfl
theorem bI_ok {a : α} {f : α → W → Res β} : @bI α β (.ok a w) ⟨f⟩ = f a w := Eq.trans rfl rfl
theorem bI_ex {e : Ex} {f : α → W → Res β} : @bI α β (.ex e w) ⟨f⟩ = .ex e w := Eq.trans rfl rfl
theorem oI_ok {a : α} {f : α → W → Out} : @oI α (.ok a w) ⟨f⟩ = f a w := Eq.trans rfl rfl
theorem oI_ex {e : Ex} {f : α → W → Out} : @oI α (.ex e w) ⟨f⟩ = .ex e w := Eq.trans rfl rfl
theorem sI_nx {e : Env} {ν : SM} : @sI (.nx e w) ⟨ν⟩ = ν e w := Eq.trans rfl rfl
theorem sI_rt {d : D} {ν : SM} : @sI (.rt d w) ⟨ν⟩ = .rt d w := Eq.trans rfl rfl
theorem sI_ex {e : Ex} {ν : SM} : @sI (.ex e w) ⟨ν⟩ = .ex e w := Eq.trans rfl rfl
theorem sI_bk {e : Env} {ν : SM} : @sI (.bk e w) ⟨ν⟩ = .bk e w := Eq.trans rfl rfl
theorem sI_ct {e : Env} {ν : SM} : @sI (.ct e w) ⟨ν⟩ = .ct e w := Eq.trans rfl rfl
end
/-! the constructs -/
section
variable {α β : Type} {env : Env} {w : W} {e f g h : EM D} {κ μ : EM Bool} {τ ν : SM} {d x y : D} {ds es : List D} {i j n k : Int}
theorem w_dBin {q : D → D → M D} : dBin q e f env w = @bI D D (e env w) ⟨fun x w => @bI D D (f env w) ⟨fun y w => q x y w⟩⟩ := Eq.trans rfl rfl
theorem w_dBinF {q : D → D → M (List D)} : dBinF q e f env w = @bI D (List D) (e env w) ⟨fun x w => @bI D (List D) (f env w) ⟨fun y w => q x y w⟩⟩ := Eq.trans rfl rfl
theorem w_dTri {q : D → D → D → M α} : dTri q e f g env w = @bI D α (e env w) ⟨fun x w => @bI D α (f env w) ⟨fun y w => @bI D α (g env w) ⟨fun z w => q x y z w⟩⟩⟩ := Eq.trans rfl rfl
theorem w_dUn {q : D → M α} : dUn q e env w = @bI D α (e env w) ⟨q⟩ := Eq.trans rfl rfl
theorem w_dTru : dTru e env w = @bI D Bool (e env w) ⟨truM⟩ := Eq.trans rfl rfl
theorem w_dB : dB e env w = @bI D Bool (e env w) ⟨boolM⟩ := Eq.trans rfl rfl
theorem w_dAndT : dAndT κ μ env w = @bI Bool Bool (κ env w) ⟨fun b w => if b then μ env w else .ok false w⟩ := Eq.trans rfl rfl
theorem w_dOrT : dOrT κ μ env w = @bI Bool Bool (κ env w) ⟨fun b w => if b then .ok true w else μ env w⟩ := Eq.trans rfl rfl
theorem w_dNotT : dNotT κ env w = @bI Bool Bool (κ env w) ⟨fun b w => .ok (!b) w⟩ := Eq.trans rfl rfl
theorem w_dNot : dNot e env w = @bI Bool D (dTru e env w) ⟨fun b w => .ok (.bl (!b)) w⟩ := Eq.trans rfl rfl
theorem w_dAnd : dAnd e f env w = @bI D D (e env w) ⟨fun d w => @bI Bool D (truM d w) ⟨fun b w => if b then f env w else .ok d w⟩⟩ := Eq.trans rfl rfl
theorem w_dOr : dOr e f env w = @bI D D (e env w) ⟨fun d w => @bI Bool D (truM d w) ⟨fun b w => if b then .ok d w else f env w⟩⟩ := Eq.trans rfl rfl
theorem w_dIf : dIf κ e f env w = @bI Bool D (κ env w) ⟨fun b w => if b then e env w else f env w⟩ := Eq.trans rfl rfl
theorem w_dChain {q p : D → D → M D} : dChain q p e f g env w = @bI D D (e env w) ⟨fun x w => @bI D D (f env w) ⟨fun y w => @bI D D (q x y w) ⟨fun z w => @bI Bool D (boolM z w) ⟨fun k w => if k then @bI D D (g env w) ⟨fun u w => p y u w⟩ else .ok (.bl false) w⟩⟩⟩⟩ := Eq.trans rfl rfl
theorem w_dNeg : dNeg e env w = @bI D D (e env w) ⟨unI' fun i => -i⟩ := Eq.trans rfl rfl
theorem w_aCons {r : EM (List D)} : aCons e r env w = @bI D (List D) (e env w) ⟨fun d w => @bI (List D) (List D) (r env w) ⟨fun ds w => .ok (d :: ds) w⟩⟩ := Eq.trans rfl rfl
theorem w_dTup {r : EM (List D)} : dTup r env w = @bI (List D) D (r env w) ⟨fun ds w => if ds.length ≤ sizeLine then .ok (.tup ds) w else .st⟩ := Eq.trans rfl rfl
theorem w_dLst {r : EM (List D)} : dLst r env w = @bI (List D) (List D) (r env w) ⟨fun ds w => if ds.length ≤ sizeLine then .ok ds w else .st⟩ := Eq.trans rfl rfl
theorem w_dL {r : EM (List D)} : dL r env w = @bI (List D) D (r env w) ⟨fun ds w => .ok (.lst ds) w⟩ := Eq.trans rfl rfl
theorem w_oSo : oSo e env w = @bI D (Option Int) (e env w) ⟨intM⟩ := Eq.trans rfl rfl
theorem w_dSl {q : D → Option Int → Option Int → M α} {lo hi : EM (Option Int)} : dSl q e lo hi env w = @bI D α (e env w) ⟨fun d w => @bI (Option Int) α (lo env w) ⟨fun l w => @bI (Option Int) α (hi env w) ⟨fun h w => q d l h w⟩⟩⟩ := Eq.trans rfl rfl
theorem w_dCall {m : Nat} {φ : List D → M D} {r : EM (List D)} : dCall m φ r env w = @bI (List D) D (r env w) ⟨fun ds w => if ds.length = m then φ ds w else .st⟩ := Eq.trans rfl rfl
theorem w_dCallK {m l : Nat} {φ : List D → M D} {r q : EM (List D)} : dCallK m l φ r q env w = @bI (List D) D (r env w) ⟨fun ds w => @bI (List D) D (q env w) ⟨fun es w => if ds.length = l ∧ (ds ++ es).length = m then φ (ds ++ es) w else .st⟩⟩ := Eq.trans rfl rfl
theorem w_sDrop : sDrop e env w = @oI D (e env w) ⟨fun _ w => .nx env w⟩ := Eq.trans rfl rfl
theorem w_sRet : sRet e env w = @oI D (e env w) ⟨fun d w => .rt d w⟩ := Eq.trans rfl rfl
theorem w_sIf : sIf κ τ ν env w = @oI Bool (κ env w) ⟨fun b w => if b then τ env w else ν env w⟩ := Eq.trans rfl rfl
theorem w_sSeq : sSeq τ ν env w = @sI (τ env w) ⟨ν⟩ := Eq.trans rfl rfl
theorem w_sAsg {b : TM} {al : List Nat} : sAsg b al e env w = @oI D (e env w) ⟨fun d w => nxO (b d (frzs env al)) w⟩ := Eq.trans rfl rfl
theorem w_sOwn {m : Nat} {ac : List Nat} {r : EM (List D)} : sOwn m ac r env w = @oI (List D) (r env w) ⟨fun ds w => .nx ((frzs env ac).set m (.ow (.lst ds))) w⟩ := Eq.trans rfl rfl
theorem w_sApp {m : Nat} {al : List Nat} : sApp m al e env w = app1 (ownL env m) (@oI D (e env w) ⟨fun d w => app2 (ownL (frzs env al) m) (frzs env al) m d w⟩) := e_sApp
def ext2 (o : Option (List D)) (env : Env) (m : Nat) (d : D) (w : W) : Out := match o, d with
  | some ds, .lst es => if ds.length + es.length ≤ sizeLine then .nx (env.set m (.ow (.lst (ds ++ es)))) w else .st
  | _, _ => .st
theorem e_ext2 {m : Nat} : ext2 (some ds) env m (.lst es) w = if ds.length + es.length ≤ sizeLine then .nx (env.set m (.ow (.lst (ds ++ es)))) w else .st := Eq.trans rfl rfl
theorem w_sExt {m : Nat} {al : List Nat} : sExt m al e env w = app1 (ownL env m) (@oI D (e env w) ⟨fun d w => ext2 (ownL (frzs env al) m) (frzs env al) m d w⟩) := by
  unfold sExt app1 ext2
  cases ownL env m with
  | none => rfl
  | some ds => rfl
def pop2 (o : Option (List D)) (env : Env) (m : Nat) (w : W) : Out := match o with
  | some ds => if ds.isEmpty then .st else .nx (env.set m (.ow (.lst ds.dropLast))) w
  | none => .st
theorem e_pop2 {m : Nat} : pop2 (some ds) env m w = if ds.isEmpty then .st else .nx (env.set m (.ow (.lst ds.dropLast))) w := Eq.trans rfl rfl
theorem w_sPop {m : Nat} : sPop m env w = pop2 (ownL env m) env m w := Eq.trans rfl rfl
def set2 (o : Option (List D)) (env : Env) (m : Nat) (q d : D) (w : W) : Out := match q, o with
  | .int n, some ds => (match L2.ixN ds.length n with
    | some j => .nx (env.set m (.ow (.lst (ds.set j d)))) w
    | none => .st)
  | _, _ => .st
theorem e_set2 {m j : Nat} (hj : j < ds.length) : set2 (some ds) env m (.int (j : Int)) d w = .nx (env.set m (.ow (.lst (ds.set j d)))) w := by
  have : L2.ixN ds.length (j : Int) = some j := by
    unfold L2.ixN
    rw [if_pos (show (0 : Int) ≤ (j : Int) by omega), if_pos (by omega)]
    simp
  unfold set2
  simp only [this]
theorem w_sSet {m : Nat} {al : List Nat} : sSet m al f e env w = @oI D (e env w) ⟨fun d w => app1 (ownL env m) (@oI D (f env w) ⟨fun q w => set2 (ownL (frzs env al) m) (frzs env al) m q d w⟩)⟩ := by
  unfold sSet
  cases ownL env m with
  | none => rfl
  | some ds => 
    unfold oI app1 set2
    rfl
theorem w_kOwn {r : EM (List PK1)} : kOwn r env w = @bI (List PK1) (List PK1) (r env w) ⟨fun ks w => .ok (.nil :: ks) w⟩ := Eq.trans rfl rfl
theorem w_kDic {r : EM (List PK1)} : kDic r env w = @bI (List PK1) (List PK1) (r env w) ⟨fun ks w => .ok (.dic0 :: ks) w⟩ := Eq.trans rfl rfl
theorem w_kVal {r : EM (List PK1)} : kVal e r env w = @bI D (List PK1) (e env w) ⟨fun d w => @bI (List PK1) (List PK1) (r env w) ⟨fun ks w => .ok (.val d :: ks) w⟩⟩ := Eq.trans rfl rfl
theorem w_kLstG {q : EM (List D)} {r : EM (List PK1)} : kLstG q r env w = @bI (List D) (List PK1) (q env w) ⟨fun ds w => @bI (List PK1) (List PK1) (r env w) ⟨fun ks w => .ok (.own ds :: ks) w⟩⟩ := Eq.trans rfl rfl
def kInts (ds : List D) (r : EM (List PK1)) (env : Env) (w : W) : Res (List PK1) := match intsOf ds with
  | some l => @bI (List PK1) (List PK1) (r env w) ⟨fun ks w => .ok (.ints l :: ks) w⟩
  | none => .st
theorem e_kInts {l : List Int} {r : EM (List PK1)} : kInts (l.map .int) r env w = @bI (List PK1) (List PK1) (r env w) ⟨fun ks w => .ok (.ints l :: ks) w⟩ := by
  unfold kInts; rw [ints_map]
theorem w_kLst {q : EM (List D)} {r : EM (List PK1)} : kLst q r env w = @bI (List D) (List PK1) (q env w) ⟨fun ds w => kInts ds r env w⟩ := Eq.trans rfl rfl
theorem e_kSo : kSlot (.own ds) = .ow (.lst ds) := Eq.trans rfl rfl
theorem e_kSi {l : List Int} : kSlot (.ints l) = .ow (.lst (l.map .int)) := Eq.trans rfl rfl
theorem w_sPar {is al : List Nat} {r : EM (List PK1)} : sPar is al r env w = @oI (List PK1) (r env w) ⟨fun ks w => if al.all (· < env.length) then nxO (setK is ks (frzs env al)) w else .st⟩ := e_sPar
theorem w_sFor {al : List Nat} {it : EM (List D)} {b : TM} : sFor al it b τ env w = @oI (List D) (it env w) ⟨fun ds w => forM b τ ds (frzs env al) w⟩ := Eq.trans rfl rfl
theorem w_dOrF {r q : EM (List D)} : dOrF r q env w = @bI (List D) (List D) (r env w) ⟨fun ds w => if ds.isEmpty then q env w else .ok ds w⟩ := Eq.trans rfl rfl
theorem w_dBox {r : EM (List D)} : dBox r env w = @bI (List D) D (r env w) ⟨boxM⟩ := Eq.trans rfl rfl
def boxI (o : Option Slot) (k : EM D) (env : Env) (w : W) (d : D) : Out := match o with
  | some (.fz (.box b)) => @oI D (k env w) ⟨fun q w => setW env w b d q w[b]?⟩
  | _ => .st
theorem e_boxI {b : Nat} : boxI (some (.fz (.box b))) e env w d = @oI D (e env w) ⟨fun q w => setW env w b d q w[b]?⟩ := Eq.trans rfl rfl
theorem w_sBoxSet {m : Nat} : sBoxSet m e f env w = @oI D (f env w) ⟨fun d w => boxI env[m]? e env w d⟩ := Eq.trans rfl rfl
theorem w_aNil : aNil env w = .ok [] w := Eq.trans rfl rfl
end
/-! from a walk to what it gives -/
section
variable {α β : Type} {r : Res α} {Q : α → W → Prop} {X : Ex → W → Prop} {o : Out} {w : W}
theorem wp_eq {d : α} {v : W} (h : wpR r (fun a w => a = d ∧ w = v) (fun _ _ => False)) : r = .ok d v := by
  cases r with
  | ok a w => obtain ⟨rfl, rfl⟩ := h; rfl
  | ex e w => exact h.elim
  | st => exact h.elim
theorem wp_ex (h : wpR r Q (fun _ _ => False)) : ∃ a w, r = .ok a w ∧ Q a w := by
  cases r with
  | ok a w => exact ⟨a, w, rfl, h⟩
  | ex e w => exact h.elim
  | st => exact h.elim
theorem wp_of {a : α} (h : r = .ok a w) (k : Q a w) : wpR r Q X := by rw [h]; exact k
theorem wpO_of {o o' : Out} {P : PO} (h : o = o') (k : @wpO o' P) : @wpO o P := by rw [h]; exact k
theorem wp_mono {Q' : α → W → Prop} {X' : Ex → W → Prop} (h : wpR r Q X) (k : ∀ a w, Q a w → Q' a w) (k2 : ∀ e w, X e w → X' e w) : wpR r Q' X' := by
  cases r with
  | ok a w => exact k a w h
  | ex e w => exact k2 e w h
  | st => exact h
theorem wp_mono0 {Q' : α → W → Prop} {X' : Ex → W → Prop} (h : wpR r Q (fun _ _ => False)) (k : ∀ a w, Q a w → Q' a w) : wpR r Q' X' := wp_mono h k fun _ _ h => h.elim
end
theorem e_div64 {i j : Int} {w : W} (h : 0 < j) (h2 : j < 2 ^ 64) : divD (.int i) (.int j) w = .ok (.int (i / j)) w := e_divp h (Int.lt_trans h2 (by decide))
theorem e_modn {i j : Int} {w : W} (h : j ≠ 0) : modD (.int i) (.int j) w = .ok (.int (i.fmod j)) w := e_mod h
section
variable {cs : List String} {w : W} {i : Int} {b : Bool} {x : Str} {ds : List D}
theorem isi_int : isiD cs (.int i) w = .ok (.bl (cs.any (subTy "int"))) w := Eq.trans rfl rfl
theorem isi_bl : isiD cs (.bl b) w = .ok (.bl (cs.any (subTy "bool"))) w := Eq.trans rfl rfl
theorem isi_str : isiD cs (.str x) w = .ok (.bl (cs.any (subTy "str"))) w := Eq.trans rfl rfl
theorem isi_non : isiD cs .non w = .ok (.bl (cs.any (subTy "NoneType"))) w := Eq.trans rfl rfl
theorem isi_tup : isiD cs (.tup ds) w = .ok (.bl (cs.any (subTy "tuple"))) w := Eq.trans rfl rfl
theorem isi_lst : isiD cs (.lst ds) w = .ok (.bl (cs.any (subTy "list"))) w := Eq.trans rfl rfl
end
section
variable {w : W} {i : Int} {a b : Bool} {x : Str} {ds : List D} {d : D}
theorem is_non : isD d .non w = .ok (.bl (isNonD d)) w := by cases d <;> rfl
theorem isnot_non : isnotD d .non w = .ok (.bl (!isNonD d)) w := by cases d <;> rfl
theorem is_bl : isD (.bl a) (.bl b) w = .ok (.bl (decide (a = b))) w := Eq.trans rfl rfl
theorem isnot_bl : isnotD (.bl a) (.bl b) w = .ok (.bl (!decide (a = b))) w := Eq.trans rfl rfl
theorem nonD_non : isNonD .non = true := Eq.trans rfl rfl
theorem nonD_int : isNonD (.int i) = false := Eq.trans rfl rfl
theorem nonD_bl : isNonD (.bl a) = false := Eq.trans rfl rfl
theorem nonD_str : isNonD (.str x) = false := Eq.trans rfl rfl
theorem nonD_tup : isNonD (.tup ds) = false := Eq.trans rfl rfl
theorem nonD_lst : isNonD (.lst ds) = false := Eq.trans rfl rfl
end
theorem subTy_def {t c : String} : subTy t c = (t == c || (t == "bool" && c == "int")) := Eq.trans rfl rfl
theorem anyc {α : Type} {p : α → Bool} {a : α} {l : List α} : (a :: l).any p = (p a || l.any p) := Eq.trans rfl rfl
theorem anyn {α : Type} {p : α → Bool} : ([] : List α).any p = false := Eq.trans rfl rfl
section
variable {w : W} {ds es : List D} {lo hi : Option Int}
theorem e_slL : slD (.lst ds) lo hi w = .ok (.lst (cutG ds lo hi)) w := Eq.trans rfl rfl
theorem e_slT : slD (.tup ds) lo hi w = .ok (.tup (cutG ds lo hi)) w := Eq.trans rfl rfl
theorem e_lstT : listF (.tup ds) w = .ok ds w := Eq.trans rfl rfl
theorem e_lstL : listF (.lst ds) w = .ok ds w := Eq.trans rfl rfl
theorem e_addF : addF (.lst ds) (.lst es) w = if ds.length + es.length ≤ sizeLine then .ok (ds ++ es) w else .st := Eq.trans rfl rfl
theorem e_addL : addD (.lst ds) (.lst es) w = if ds.length + es.length ≤ sizeLine then .ok (.lst (ds ++ es)) w else .st := Eq.trans rfl rfl
theorem e_addT : addD (.tup ds) (.tup es) w = if ds.length + es.length ≤ sizeLine then .ok (.tup (ds ++ es)) w else .st := Eq.trans rfl rfl
theorem e_tupT : tupleD (.tup ds) w = .ok (.tup ds) w := Eq.trans rfl rfl
theorem cutR_all {α : Type} {xs : List α} {m : Nat} (h : xs.length ≤ m) : cutG xs none (some (m : Int)) = xs := by
  refine cut_all ⟨rfl, ?_⟩
  rw [HT.sIx_nat, Nat.min_eq_right h]
theorem cutR_take {α : Type} {xs : List α} {m : Nat} : cutG xs none (some (m : Int)) = xs.take m := by
  unfold cutG
  rw [HT.sIx_nat, HT.sIx_none]
  simp [Nat.min_comm, ← List.take_eq_take_min]
theorem cutL_drop {α : Type} {xs : List α} {m : Nat} : cutG xs (some (m : Int)) none = xs.drop m := by
  unfold cutG
  rw [HT.sIx_nat, HT.sIx_none]
  by_cases h : m ≤ xs.length
  · rw [Nat.min_eq_left h, List.take_of_length_le (by simp)]
  · rw [Nat.min_eq_right (by omega), List.drop_of_length_le (Nat.le_refl _), List.drop_of_length_le (by omega)]; simp
end
/-! loops -/
theorem for_wp {b : TM} {τ : SM} {P : PO} (I : List D → Env → W → Prop) : ∀ (ds acc : List D) (env : Env) (w : W), I acc env w →
    (∀ d acc env w, d ∈ ds → I acc env w → ∃ env1, b d env = some env1 ∧ wpS (τ env1 w) ⟨I (acc ++ [d]), P.rt, P.nx, I (acc ++ [d]), P.ex⟩) →
    (∀ env w, I (acc ++ ds) env w → P.nx env w) → wpS (forM b τ ds env w) P
  | [], acc, env, w, h0, _, h2 => h2 env w (by rw [List.append_nil]; exact h0)
  | d :: ds, acc, env, w, h0, h1, h2 => by
    obtain ⟨env1, e, k⟩ := h1 d acc env w List.mem_cons_self h0
    have ih := fun env w h => for_wp (b := b) (τ := τ) (P := P) I ds (acc ++ [d]) env w h (fun d acc env w hd => h1 d acc env w (List.mem_cons_of_mem _ hd)) (fun env w h => h2 env w (by rw [List.append_assoc] at h; exact h))
    unfold forM
    rw [e]
    dsimp only
    cases q : τ env1 w with
    | nx env w => rw [q] at k; exact ih env w k
    | ct env w => rw [q] at k; exact ih env w k
    | bk env w => rw [q] at k; exact k
    | rt d w => rw [q] at k; exact k
    | ex e w => rw [q] at k; exact k
    | st => rw [q] at k; exact k
/-- over a typed list, by the number of turns -/
theorem for_wpm {α : Type} {enc : α → D} {b : TM} {τ : SM} {P : PO} (xs : List α) (I : Nat → Env → W → Prop) {env : Env} {w : W} (h0 : I 0 env w)
    (h1 : ∀ (i : Nat) (h : i < xs.length) env w, I i env w → ∃ env1, b (enc xs[i]) env = some env1 ∧ wpS (τ env1 w) ⟨I (i + 1), P.rt, P.nx, I (i + 1), P.ex⟩)
    (h2 : ∀ env w, I xs.length env w → P.nx env w) : wpS (forM b τ (xs.map enc) env w) P := by
  suffices ∀ (ys zs : List α) env w, xs = zs ++ ys → I zs.length env w → wpS (forM b τ (ys.map enc) env w) P by
    exact this xs [] env w rfl h0
  intro ys
  induction ys with
  | nil => intro zs env w e h; rw [List.append_nil] at e; subst e; exact h2 env w h
  | cons y ys ih =>
    intro zs env w e h
    have hl : zs.length < xs.length := by rw [e]; simp
    obtain ⟨env1, e1, k⟩ := h1 zs.length hl env w h
    have ey : xs[zs.length] = y := by simp [e]
    rw [ey] at e1
    have nxt := fun env w h => ih (zs ++ [y]) env w (by rw [e]; simp) h
    rw [List.length_append, List.length_singleton] at nxt
    rw [List.map_cons]
    unfold forM
    rw [e1]
    dsimp only
    cases q : τ env1 w with
    | nx env w => rw [q] at k; exact nxt env w k
    | ct env w => rw [q] at k; exact nxt env w k
    | bk env w => rw [q] at k; exact k
    | rt d w => rw [q] at k; exact k
    | ex e w => rw [q] at k; exact k
    | st => rw [q] at k; exact k
theorem while_wp {κ : EM Bool} {τ : SM} {P : PO} (I : Nat → Env → W → Prop) : ∀ (n k : Nat) (env : Env) (w : W), k < n → I k env w →
    (∀ k env w, I k env w → wpR (κ env w) (fun b w => (b = true → wpS (τ env w) ⟨fun e w => ∃ j, j < k ∧ I j e w, P.rt, P.nx, fun e w => ∃ j, j < k ∧ I j e w, P.ex⟩) ∧ (b = false → P.nx env w)) P.ex) → wpS (whileM κ τ n env w) P
  | 0, _, _, _, h, _, _ => absurd h (by omega)
  | n + 1, k, env, w, hk, h0, h1 => by
    have s := h1 k env w h0
    unfold whileM
    cases q : κ env w with
    | ok b w2 =>
      rw [q] at s
      obtain ⟨s1, s2⟩ := s
      cases b with
      | false => exact s2 rfl
      | true =>
        have s3 := s1 rfl
        show wpS (match τ env w2 with | .nx env w => whileM κ τ n env w | .ct env w => whileM κ τ n env w | .bk env w => .nx env w | .rt d w => .rt d w | .ex e w => .ex e w | .st => .st) P
        cases q2 : τ env w2 with
        | nx e w => rw [q2] at s3; obtain ⟨j, hj, hi⟩ := s3; exact while_wp I n j e w (by omega) hi h1
        | ct e w => rw [q2] at s3; obtain ⟨j, hj, hi⟩ := s3; exact while_wp I n j e w (by omega) hi h1
        | bk e w => rw [q2] at s3; exact s3
        | rt e w => rw [q2] at s3; exact s3
        | ex e w => rw [q2] at s3; exact s3
        | st => rw [q2] at s3; exact s3
    | ex e w2 => rw [q] at s; exact s
    | st => rw [q] at s; exact s
/-! comprehensions -/
theorem compM_wp {b : TM} {κ : EM Bool} {e : EM D} {env : Env} {X : Ex → W → Prop} (I : List D → List D → W → Prop) : ∀ (ds acc ys : List D) (w : W) (Q : List D → W → Prop), I acc ys w →
    (∀ d acc ys w, d ∈ ds → I acc ys w → ∃ env', b d env = some env' ∧ wpR (κ env' w) (fun t w => (t = true → wpR (e env' w) (fun y w => I (acc ++ [d]) (ys ++ [y]) w) X) ∧ (t = false → I (acc ++ [d]) ys w)) X) →
    (∀ zs w, I (acc ++ ds) (ys ++ zs) w → Q zs w) → wpR (compM b κ e ds env w) Q X
  | [], acc, ys, w, Q, h0, _, h2 => h2 [] w (by rw [List.append_nil, List.append_nil]; exact h0)
  | d :: ds, acc, ys, w, Q, h0, h1, h2 => by
    obtain ⟨env1, e1, k⟩ := h1 d acc ys w List.mem_cons_self h0
    have hs := fun d acc ys w hd => h1 d acc ys w (List.mem_cons_of_mem _ hd)
    unfold compM
    rw [e1]
    dsimp only
    rw [wpR_bind]
    refine wp_mono k (fun t w1 ⟨k1, k2⟩ => ?_) fun _ _ h => h
    cases t with
    | true =>
      rw [if_pos rfl, wpR_bind]
      refine wp_mono (k1 rfl) (fun y w2 hi => ?_) fun _ _ h => h
      rw [wpR_bind]
      refine compM_wp I ds (acc ++ [d]) (ys ++ [y]) w2 _ hi hs fun zs w h => ?_
      rw [wpR_ok]
      exact h2 (y :: zs) w (by rw [List.append_assoc, List.append_assoc] at h; exact h)
    | false =>
      rw [if_neg (by simp)]
      exact compM_wp I ds (acc ++ [d]) ys w1 _ (k2 rfl) hs fun zs w h => h2 zs w (by rw [List.append_assoc] at h; exact h)
theorem comp_pre {ac ac3 vs : List Nat} {it : EM (List D)} {b : TM} {κ : EM Bool} {e : EM D} {env : Env} {w : W} {Q : List D → W → Prop} {X : Ex → W → Prop} (hac : ac3.all (· < env.length) = true) (hn : noOw (frzs env ac) vs = true)
    (h : wpR (it env w) (fun ds w => ds.length ≤ sizeLine ∧ wpR (compM b κ e ds (wipeE (frzs env ac) vs) w) Q (fun _ _ => False)) X) : wpR (dComp3 ac ac3 vs it b κ e env w) Q X := by
  rw [e_dComp3, if_pos hac, wpR_bind]
  refine wp_mono h (fun ds w ⟨h1, h2⟩ => ?_) fun _ _ h => h
  rw [if_pos ⟨h1, hn⟩, wpR_noX]
  exact h2
theorem compX_pre {ac ac3 vs : List Nat} {it : EM (List D)} {b : TM} {κ : EM Bool} {e : EM D} {env : Env} {w : W} {Q : List D → W → Prop} {X : Ex → W → Prop} (hac : ac3.all (· < env.length) = true) (hn : noOw (frzs env ac) vs = true)
    (h : wpR (it env w) (fun ds w => ds.length ≤ sizeLine ∧ wpR (compM b κ e ds (wipeE (frzs env ac) vs) w) Q X) X) : wpR (dCompX ac ac3 vs it b κ e env w) Q X := by
  rw [e_dCompX, if_pos hac, wpR_bind]
  refine wp_mono h (fun ds w ⟨h1, h2⟩ => ?_) fun _ _ h => h
  rw [if_pos ⟨h1, hn⟩]
  exact h2
/-- each turn gives one, typed; what stands behind i turns -/
theorem compM_wpm {α β : Type} {enc : α → D} {enc2 : β → D} {b : TM} {e : EM D} {env : Env} {X : Ex → W → Prop} {Q : List D → W → Prop} {w : W} (xs : List α) (I : Nat → List β → W → Prop) (h0 : I 0 [] w)
    (h1 : ∀ (i : Nat) (h : i < xs.length) ys w, I i ys w → ∃ env', b (enc xs[i]) env = some env' ∧ wpR (e env' w) (fun y w => ∃ z, y = enc2 z ∧ I (i + 1) (ys ++ [z]) w) X)
    (h2 : ∀ zs w, I xs.length zs w → Q (zs.map enc2) w) : wpR (compM b tYesM e (xs.map enc) env w) Q X := by
  suffices ∀ (us vs : List α) (ys : List β) w (Q : List D → W → Prop), xs = vs ++ us → I vs.length ys w → (∀ zs w, I xs.length (ys ++ zs) w → Q (zs.map enc2) w) → wpR (compM b tYesM e (us.map enc) env w) Q X by
    exact this xs [] [] w Q rfl h0 (by simpa using h2)
  intro us
  induction us with
  | nil => intro vs ys w Q e h k; rw [List.append_nil] at e; subst e; exact k [] w (by rw [List.append_nil]; exact h)
  | cons u us ih =>
    intro vs ys w Q e1 h k
    have hl : vs.length < xs.length := by rw [e1]; simp
    obtain ⟨env1, e2, k1⟩ := h1 vs.length hl ys w h
    have ey : xs[vs.length] = u := by simp [e1]
    rw [ey] at e2
    rw [List.map_cons]
    unfold compM
    rw [e2]
    dsimp only
    rw [wpR_bind, e_tYes, wpR_ok, if_pos rfl, wpR_bind]
    refine wp_mono k1 (fun y w1 ⟨z, hz, hi⟩ => ?_) fun _ _ h => h
    rw [wpR_bind]
    refine ih (vs ++ [u]) (ys ++ [z]) w1 _ (by rw [e1]; simp) (by rw [List.length_append, List.length_singleton]; exact hi) fun zs w hw => ?_
    rw [wpR_ok]
    subst hz
    exact k (z :: zs) w (by rw [List.append_assoc] at hw; exact hw)
/-- a comprehension that draws nothing -/
theorem compM_eq {α : Type} {enc : α → D} {b : TM} {κ : EM Bool} {e : EM D} {env : Env} {w : W} (p : α → Bool) (g : α → D) (xs : List α) (h : ∀ x ∈ xs, ∃ env', b (enc x) env = some env' ∧ κ env' w = .ok (p x) w ∧ (p x = true → e env' w = .ok (g x) w)) :
    compM b κ e (xs.map enc) env w = .ok ((xs.filter p).map g) w := by
  induction xs with
  | nil => rfl
  | cons x xs ih =>
    obtain ⟨env', h1, h2, h3⟩ := h x List.mem_cons_self
    have ih := ih fun x hx => h x (List.mem_cons_of_mem _ hx)
    rw [List.map_cons]
    unfold compM
    rw [h1]
    dsimp only
    rw [h2, bind_ok]
    cases q : p x with
    | true => rw [if_pos rfl, h3 q, bind_ok, ih, bind_ok, List.filter_cons, q, if_pos rfl, List.map_cons]
    | false => rw [if_neg (by simp), ih, List.filter_cons, q, if_neg (by simp)]
theorem compM_map {α : Type} {enc : α → D} {b : TM} {e : EM D} {env : Env} {w : W} (g : α → D) (xs : List α) (h : ∀ x ∈ xs, ∃ env', b (enc x) env = some env' ∧ e env' w = .ok (g x) w) :
    compM b tYesM e (xs.map enc) env w = .ok (xs.map g) w := by
  have := compM_eq (b := b) (κ := tYesM) (e := e) (env := env) (w := w) (enc := enc) (fun _ => true) g xs fun x hx => by
    obtain ⟨env', h1, h2⟩ := h x hx
    exact ⟨env', h1, rfl, fun _ => h2⟩
  rwa [List.filter_eq_self.mpr (fun _ _ => rfl)] at this
end DL
namespace K18
open PySem DL 
local macro_rules | `(tactic| simp_arith [$as,*]) => `(tactic| simp (failIfUnchanged := false) -implicitDefEqProofs (disch := first | assumption | omega) only [↓wpR_def, ↓wpS_def, po_nx, po_rt, po_bk, po_ct, po_ex, wpI_bI, wpO_oI, wpO_sI, wpI_end, wpI_ok, wpI_ex, wpI_st, wpO_nx, wpO_rt, wpO_bk, wpO_ct, wpO_ex, wpO_st, wpI_ite, wpO_ite, wpI_noX, bI_ok, bI_ex, oI_ok, oI_ex, sI_nx, sI_rt, sI_ex, sI_bk, sI_ct, e_dC, e_dVar, e_getS, e_getO, g_0, g_s, w_dBin, w_dBinF, w_dTri, w_dUn, w_dTru, w_dB, w_dAndT, w_dOrT, w_dNotT, w_dNot, w_dAnd, w_dOr, w_dIf, w_dChain, w_dNeg, e_neg, w_aNil, w_aCons, w_dTup, w_dLst, w_dL, w_dCall, w_dCallK, e_oNo, w_oSo, e_intM, w_dSl, e_tYes, e_sNil, e_sBreak, e_sCont, w_sDrop, w_sRet, w_sIf, w_sSeq, e_sRaise, w_sAsg, e_bName, e_nxO, e_frzs0, e_frzs, e_frz1, e_frzO, e_frzf, e_frzu, e_frzn, st_0, st_s, e_bTup2, e_bTup3, e_bTup2l, w_sOwn, e_ownO, e_ownL, e_app1, e_app2, w_sApp, w_sExt, e_ext2, w_sPop, e_pop2, w_sSet, e_set2, e_kNil, w_kOwn, w_kDic, w_kVal, w_kLstG, w_kLst, e_kInts, w_sPar, e_setK, e_setK0, e_kS, e_kSn, e_kSo, e_kSi, w_sFor, e_sWhile, w_dOrF, e_noX, e_wipe0, e_wipe, e_body, w_dBox, e_boxM, e_boxI, w_sBoxSet, e_setW0, e_setW1, e_setW2, w_0, w_s0, e_add, e_sub, e_lt, e_le, e_gt, e_ge, e_max, e_min, e_modp, e_div64, e_mull, e_mulr, e_int, e_intb, e_abs, e_lenT, e_lenL, e_truB, e_boolM, e_seqT, e_seqL, e_revT, e_revL, e_enT, e_enL, e_tupL, e_eqI, e_neI, ix_t0, ix_t1, ix_t2, ix_box0, ix_box1, ix_box2, PySem.sizeLine_eq, Nat.reduceLeDiff, eq_self, e_slL, e_slT, e_lstT, e_lstL, e_addF, e_addL, e_addT, e_tupT, is_non, isnot_non, is_bl, isnot_bl, nonD_non, nonD_int, nonD_bl, nonD_str, nonD_tup, nonD_lst, isi_int, isi_bl, isi_str, isi_non, isi_tup, isi_lst, subTy_def, anyc, anyn, String.reduceBEq, String.reduceEq, Bool.or_false, Bool.false_or, Bool.or_true, Bool.and_false, Bool.false_and, Bool.true_or, e_eqB, e_neB, ne_eq, Bool.not_eq_true, bind_ok, List.map_cons, List.map_nil, List.cons_append, List.nil_append, List.length_cons, List.length_nil, List.replicate_succ, List.replicate_zero, Nat.reduceAdd, Nat.reduceSub, Nat.reduceLT, Nat.reduceEqDiff, List.all_cons, List.all_nil, decide_eq_true_eq, if_true, if_false, ite_true, ite_false, Bool.and_true, Bool.true_and, Bool.not_true, Bool.not_false, decide_true, decide_false, reduceIte, true_and, and_true, true_implies, false_implies, not_false_eq_true, not_true_eq_false, implies_true, Bool.false_eq_true, Option.bind_some, Option.bind, reduceCtorEq, $as,*])
theorem ix_set0 {b : Int} {rs ms : List Int} {w : W} : ixD (setD b rs ms) (.int 0) w = .ok (.int b) w := ix_t0
theorem ix_set1 {b : Int} {rs ms : List Int} {w : W} : ixD (setD b rs ms) (.int 1) w = .ok (.tup (rs.map .int)) w := ix_t1
theorem ix_set2 {b : Int} {rs ms : List Int} {w : W} : ixD (setD b rs ms) (.int 2) w = .ok (.tup (ms.map .int)) w := ix_t2
theorem lmembers_ok {b lo hi : Int} {rs ms : List Int} (hb : 0 < b) {w : W} (h1 : -10000 ≤ lo) (h2 : lo ≤ 10000) (h3 : -10000 ≤ hi) (h4 : hi ≤ 10000) : m__law_members [setD b rs ms, .int lo, .int hi] w = .ok (.lst (((spanL lo hi).filter (hasB b rs ms)).map .int)) w := by
  refine wp_eq ?_
  simp_arith [m__law_members, s__law_members]
  refine comp_pre rfl rfl ?_
  simp_arith [rng_span (lo := lo) (hi := hi) (w := w) (by omega) (by omega) (by omega) (by omega)]
  refine ⟨by rw [List.length_map, span_len]; omega, ?_⟩
  rw [compM_eq (hasB b rs ms) (fun x => .int x) _ fun x _ => ⟨_, rfl, by simp_arith [lhas_ok hb], fun _ => by simp_arith []⟩]
  simp_arith []
theorem same_int {k : Nat} {i j : Int} {w : W} : m__law_same (k + 1) [.int i, .int j] w = .ok (.bl (decide (i = j))) w := by
  refine wp_eq ?_
  simp_arith [m__law_same, s__law_same, e_isi, tyD]
theorem seq_poly {qs : List Rat} {w : W} : seqM (polyQ qs) w = .ok (qs.map fq) w := rfl
theorem len_poly {qs : List Rat} {w : W} : lenD (polyQ qs) w = .ok (.int qs.length) w := by unfold polyQ; rw [e_lenT, List.length_map]
theorem frz_poly {qs : List Rat} {m : Nat} {env : DL.Env} : frzO (some (.fz (polyQ qs))) env m = env := rfl
theorem right_wp {w : W} {m : Int} (hw : BI w m) (hm : m < 2 ^ 34) : wpR (m__law_right [.box 0] w) (fun d w' => d = .bl true ∧ BI w' (m + 300)) (fun _ _ => False) := by
  simp_arith [m__law_right, s__law_right]
  obtain ⟨b, rs, ms, w1, e, G, B1, hb, hs, hms⟩ := some_set_ok (by' := 6) hw (by omega) (by omega) (by omega) (by omega)
  refine wp_of e ?_
  simp_arith []
  obtain ⟨b2, rs2, ms2, w2, e2, G2, B2, hb2, hs2, hms2⟩ := some_set_ok (by' := 8) B1 (by omega) (by omega) (by omega) (by omega)
  refine wp_of e2 ?_
  simp_arith []
  obtain ⟨q1, w3, e3, o1, n1, B3, d1, l1⟩ := poly_draw (deg := 3) (top := 6) (low := 1) B2 (by omega) (by omega) (by omega) (by omega) (by omega) (by omega) (by omega)
  refine wp_of e3 ?_
  simp_arith []
  obtain ⟨q2, w4, e4, o2, n2, B4, d2, l2⟩ := poly_draw (deg := 2) (top := 4) (low := 2) B3 (by omega) (by omega) (by omega) (by omega) (by omega) (by omega) (by omega)
  refine wp_of e4 ?_
  simp_arith [chosen_ok]
  obtain ⟨c, w5, e5, c0, c1, B5⟩ := take_ok (n := 9) B4 (by omega) (by omega) (by omega)
  refine wp_of e5 ?_
  simp_arith [ix_set0]
  obtain ⟨d, hd, w6, e6, B6⟩ := law_of_ok (ds := [polyQ q1, polyQ q2, polyQ chosenQ, polyQ squareQ, polyQ [(c : Rat), (b2 : Rat)]]) B5 (by omega) (by simp) (by simp)
  refine wp_of e6 ?_
  have hq : ∃ qs, PolyP qs ∧ d = polyQ qs := by
    simp only [List.mem_cons, List.not_mem_nil, or_false] at hd
    rcases hd with rfl | rfl | rfl | rfl | rfl
    · exact ⟨q1, ⟨o1, n1, fun q hq => by have := d1 q hq; omega, by omega⟩, rfl⟩
    · exact ⟨q2, ⟨o2, n2, fun q hq => by have := d2 q hq; omega, by omega⟩, rfl⟩
    · exact ⟨_, polyP_chosen, rfl⟩
    · exact ⟨_, polyP_square, rfl⟩
    · exact ⟨_, polyP_line c0 (by omega) G2.b1 (by omega), rfl⟩
  obtain ⟨qs, hp, rfl⟩ := hq
  clear e e2 e3 e4 e5 e6 hd o1 n1 o2 n2 d1 d2 l1 l2
  simp_arith [seq_poly]
  obtain ⟨s3', h3', ef⟩ := under_for (P := polyQ qs) (A := setD b rs ms) (B := setD b2 rs2 ms2) (w := w6) qs 1 .un ⟨2, rfl⟩ hp.dens (.inl rfl)
  refine wpO_of ef ?_
  obtain ⟨u0, u2⟩ := rowU_le hp
  generalize hU : rowU 1 qs = U at *
  have g1 := G.b1
  have g2 := G2.b1
  obtain ⟨B, rfl⟩ := Int.eq_ofNat_of_zero_le (show 0 ≤ b by omega)
  obtain ⟨B', rfl⟩ := Int.eq_ofNat_of_zero_le (show 0 ≤ b2 by omega)
  have rd := fun w => round_ok hp.ok hU (rs := rs) (ms := ms) (rs2 := rs2) (ms2 := ms2) g1 (by omega) g2 (by omega) u0 u2 (w := w)
  rw [Int.toNat_natCast, Int.toNat_natCast] at rd
  have bu : B' * U ≤ 8 * 2 := Nat.mul_le_mul (by omega) u2
  have B0 : B ≠ 0 := by omega
  have B50 : B < 2 ^ 50 := Nat.lt_of_le_of_lt (show B ≤ 6 by omega) (by decide)
  have C50 : B' * U < 2 ^ 50 := Nat.lt_of_le_of_lt bu (by decide)
  have lc := lc_ok (a := B) (b := B' * U) (w := w6) B0 B50 C50
  have k1 := lc.1
  have k2 := lc.2.1
  have k3 := lc.2.2
  clear lc
  rw [Int.natCast_mul] at k1 k3
  have lt : Nat.lcm B (B' * U) ≤ B * (B' * U) := lcm_le (by omega) (Nat.mul_ne_zero (by omega) u0)
  have lt2 : B * (B' * U) ≤ 6 * (8 * 2) := Nat.mul_le_mul (by omega) bu
  have lpos : 0 < Nat.lcm B (B' * U) := Nat.lcm_pos (by omega) (Nat.mul_pos (by omega) (Nat.pos_of_ne_zero u0))
  have dvB : (B : Int) ∣ ((Nat.lcm B (B' * U) : Nat) : Int) := Int.natCast_dvd_natCast.mpr (Nat.dvd_lcm_left _ _)
  have dvU : (B' : Int) * U ∣ ((Nat.lcm B (B' * U) : Nat) : Int) := by rw [← Int.natCast_mul]; exact Int.natCast_dvd_natCast.mpr (Nat.dvd_lcm_right _ _)
  generalize hS : Nat.lcm B (B' * U) = S at *
  simp_arith [ix_set0, k1, k2, k3]
  have rl : rs.length ≤ 6 := Nat.le_trans (asc_len (lo := 0) (n := B) G.ra (by simpa using G.rr)) (by omega)
  have rl2 : rs2.length ≤ 8 := Nat.le_trans (asc_len (lo := 0) (n := B') G2.ra (by simpa using G2.rr)) (by omega)
  obtain ⟨y, w7, e7, mx, B7⟩ := mix_set (b := B) (rs := rs) (ms := ms) B6 (by omega) (by omega) (by omega)
  refine wp_of e7 ?_
  have sl := fun w => sure_lead_of (sure_set_of G (mx w)) (sure_low_ok hp.ok hp.ends (w := w)) (sure_set_ok G2 (w := w))
  have sz : ms2.length ≤ 9 := by rcases hs2 with h | h <;> omega
  have pl := hp.len
  have hmx : max qs.length 1 ≤ 4 := by omega
  have hi1 : ms2.length * max qs.length 1 ≤ 36 := Nat.le_trans (Nat.mul_le_mul sz hmx) (by decide)
  have hhi : S * (2 + ms2.length * max qs.length 1) ≤ 2000 := by
    rcases hs2 with ⟨hb1, h⟩ | h
    · have : B' = 1 := by omega
      subst this
      have : S ≤ 12 := Nat.le_trans lt (Nat.le_trans (Nat.mul_le_mul (show B ≤ 6 by omega) (show 1 * U ≤ 2 by omega)) (by decide))
      exact Nat.le_trans (Nat.mul_le_mul this (show 2 + ms2.length * max qs.length 1 ≤ 38 by omega)) (by decide)
    · have : ms2.length * max qs.length 1 ≤ 12 := Nat.le_trans (Nat.mul_le_mul h hmx) (by decide)
      exact Nat.le_trans (Nat.mul_le_mul (show S ≤ 96 by omega) (show 2 + ms2.length * max qs.length 1 ≤ 14 by omega)) (by decide)
  have ehi : (S : Int) * (2 + (ms2.length : Int) * (if (1 : Int) > (qs.length : Int) then 1 else (qs.length : Int))) = (S : Int) * (2 + ((ms2.length * max qs.length 1 : Nat) : Int)) := by
    rw [show (if (1 : Int) > (qs.length : Int) then 1 else (qs.length : Int)) = ((max qs.length 1 : Nat) : Int) by split <;> omega, Int.natCast_mul]
  have ehi2 : (S : Int) * (2 + ((ms2.length * max qs.length 1 : Nat) : Int)) = ((S * (2 + ms2.length * max qs.length 1) : Nat) : Int) := by push_cast; rfl
  have lm := fun w => lmembers_ok (b := B) (rs := rs) (ms := ms) (w := w) (lo := 0) (hi := (S : Int) * (2 + ((ms2.length * max qs.length 1 : Nat) : Int))) (by omega) (by omega) (by omega) (by rw [ehi2]; omega) (by rw [ehi2]; omega)
  have hcut : (((spanL 0 ((S : Int) * (2 + ((ms2.length * max qs.length 1 : Nat) : Int)))).filter (hasB B rs ms)).map D.int).length ≤ 3000 := by
    rw [List.length_map]
    refine Nat.le_trans (List.length_filter_le _ _) ?_
    rw [span_len, ehi2]; omega
  have hc2 : cutG (((spanL 0 ((S : Int) * (2 + ((ms2.length * max qs.length 1 : Nat) : Int)))).filter (hasB B rs ms)).map D.int) none (some 3000) = (((spanL 0 ((S : Int) * (2 + ((ms2.length * max qs.length 1 : Nat) : Int)))).filter (hasB B rs ms)).map D.int) := cutR_all (m := 3000) hcut
  have ml : ms.length ≤ 9 := by rcases hs with h | h <;> omega
  have es : ((spanL 0 ((S : Int) * (2 + ((ms2.length * max qs.length 1 : Nat) : Int)))).filter (hasB B rs ms)).length + ms.length ≤ 16777216 := by rw [List.length_map] at hcut; omega
  generalize hW : wideL B rs ms ((S : Int) * (2 + ((ms2.length * max qs.length 1 : Nat) : Int))) = W at *
  have hW2 : (((spanL 0 ((S : Int) * (2 + ((ms2.length * max qs.length 1 : Nat) : Int)))).filter (hasB B rs ms)).map D.int) ++ ms.map D.int = W.map .int := by rw [← hW]; unfold wideL; rw [List.map_append]
  simp_arith [round_lead_ok (sl w7) (rd w7), same_int, ix_set0, ix_set2, len_poly, List.length_map, ehi, lm, hc2]
  simp_arith [es, hW2, ix_set2]
  have wJ : ∀ x ∈ W, x.natAbs < JB := fun x hx => by
    rw [← hW] at hx
    have : x.natAbs ≤ 2000 := by
      rcases wide_mem.mp hx with h | h
      · rw [ehi2] at h; omega
      · have := hms x h; omega
    exact Nat.lt_of_le_of_lt this (by decide +kernel)
  have wl : W.length ≤ 3010 := by
    have := congrArg List.length hW2
    rw [List.length_append, List.length_map (as := ms), List.length_map (as := W)] at this
    omega
  have W0 : W ≠ [] := by
    intro h0
    rw [h0] at hW
    have nm : ∀ x, x ∉ wideL B rs ms ((S : Int) * (2 + ((ms2.length * max qs.length 1 : Nat) : Int))) := fun x hx => by rw [hW] at hx; cases hx
    rcases G.ne with h | h
    · obtain ⟨r, l, rfl⟩ := List.exists_cons_of_ne_nil h
      have hr := G.rr r List.mem_cons_self
      have bs : (B : Int) ≤ S := Int.le_of_dvd (by omega) dvB
      refine nm r (wide_mem.mpr (.inl ⟨⟨hr.1, ?_⟩, has_iff.mpr (.inl (by rw [Int.emod_eq_of_lt hr.1 hr.2]; exact List.mem_cons_self))⟩))
      have : (S : Int) * 1 ≤ S * (2 + ((ms2.length * max qs.length 1 : Nat) : Int)) := Int.mul_le_mul_of_nonneg_left (by omega) (by omega)
      omega
    · obtain ⟨r, l, rfl⟩ := List.exists_cons_of_ne_nil h
      exact nm r (wide_mem.mpr (.inr List.mem_cons_self))
  refine comp_pre rfl (by rcases h3' with rfl | ⟨_, rfl⟩ <;> rfl) ?_
  simp_arith []
  refine ⟨by rw [List.length_map]; exact sl_of (by omega), ?_⟩
  rw [compM_eq (fun x => !leadB B' rs2 ms2 (wv qs x)) (fun x => .int x) _ fun x hx => ⟨_, rfl, by simp_arith [fits_ok G2 hp.ok (wJ x hx)], fun _ => by simp_arith []⟩]
  have eqn : ∀ l : List Int, ∀ w, eqD (.lst (l.map fun x => .int x)) (.lst []) w = .ok (.bl (decide (l = []))) w := fun l w => e_eqLI (l := l) (m := [])
  have ol := out_ok G G2 hp.ok (by omega) (fun m hm => by have := hms m hm; omega) (show (S : Int) ≤ 1000 by omega) (show (B : Int) ≤ S from Int.le_of_dvd (by omega) dvB) (rd w7)
  obtain ⟨o, eo, fo⟩ := ol
  have hbb := fun x => has_iff (b := (B : Int)) (rs := rs) (ms := ms) (x := x)
  have fine : decide (W.filter (fun x => !leadB B' rs2 ms2 (wv qs x)) = []) = decide (o = none) := by
    refine decide_eq_decide.mpr ⟨fun h => ?_, fun h => ?_⟩
    · cases o with
      | none => rfl
      | some x =>
        obtain ⟨f1, f2, f3⟩ := found_some (by omega) (by omega) dvB G.rr fo
        rw [hW] at f1
        have : x ∈ W.filter (fun x => !leadB B' rs2 ms2 (wv qs x)) := List.mem_filter.mpr ⟨f1, by rw [f3]; rfl⟩
        rw [h] at this; cases this
    · subst h
      refine List.filter_eq_nil_iff.mpr fun x hx => ?_
      rw [← hW] at hx
      have := found_none hU u0 (by omega) (by omega) (by omega) dvU dvB G.rr fo (y := x) (by
        rcases wide_mem.mp hx with h | h
        · exact (hbb x).mp h.2
        · exact .inr h)
      rw [this]; simp
  have lp := fun w => lists_poly (qs := qs) (by omega) (w := w)
  have tp := fun w => tupled_polyL (qs := qs) (by omega) (w := w)
  have sl2 := fun w => sure_lead_of (sure_set_ok G (w := w)) (sure_low_of hp.ok (sure_poly_of hp.ok hp.ends (tp w))) (sure_set_ok G2 (w := w))
  simp_arith [eqn, fine, hW2, lp, leads_ok (sl2 w7) eo, same_bl]
  obtain ⟨y2, w8, e8, mx2, B8⟩ := mix_set (b := B') (rs := rs2) (ms := ms2) B7 (by omega) (by omega) (by omega)
  refine wp_of e8 ?_
  have eo8 := out_ok G G2 hp.ok (w := w8) (by omega) (fun m hm => by have := hms m hm; omega) (show (S : Int) ≤ 1000 by omega) (show (B : Int) ≤ S from Int.le_of_dvd (by omega) dvB) (rd w8)
  obtain ⟨o', eo', fo'⟩ := eo8
  have sl3 := sure_lead_of (sure_set_ok G (w := w8)) (sure_low_ok hp.ok hp.ends (w := w8)) (sure_set_of G2 (mx2 w8))
  have oo : (o' = none) ↔ (o = none) := by
    constructor
    · intro h
      subst h
      cases o with
      | none => rfl
      | some x =>
        obtain ⟨f1, f2, f3⟩ := found_some (by omega) (by omega) dvB G.rr fo
        have := found_none hU u0 (by omega) (by omega) (by omega) dvU dvB G.rr fo' (y := x) ((hbb x).mp f2)
        rw [f3] at this; cases this
    · intro h
      subst h
      cases o' with
      | none => rfl
      | some x =>
        obtain ⟨f1, f2, f3⟩ := found_some (by omega) (by omega) dvB G.rr fo'
        have := found_none hU u0 (by omega) (by omega) (by omega) dvU dvB G.rr fo (y := x) ((hbb x).mp f2)
        rw [f3] at this; cases this
  have hw8 : m_why_no_lead [setD B rs ms, polyQ qs, y2] w8 = match o' with | none => .ex ⟨"CanNot", none⟩ w8 | some x => .ok (.int x) w8 := by
    cases o' with
    | none => exact why_ok sl3 eo'
    | some x => exact why_ok sl3 eo'
  have as : m__law_astray [setD B rs ms, polyQ qs, y2] w8 = .ok (match o' with | none => .lst [.str "can not"] | some x => .int x) w8 := by
    cases o' with
    | none => exact astray_ok (o := none) hw8
    | some x => exact astray_ok (o := some x) hw8
  simp_arith [as]
  cases o with
  | none =>
    have : o' = none := oo.mpr rfl
    subst this
    obtain ⟨d, hd, w9, e9, B9⟩ := law_of_ok (ds := W.map D.int) B8 (by omega) (by simpa using W0) (by rw [List.length_map]; omega)
    obtain ⟨x, hx, rfl⟩ := List.mem_map.mp hd
    have cn : eqD (.lst [.str "can not"]) (.lst [.str "can not"]) w8 = .ok (.bl true) w8 := by kernel_rfl
    simp_arith [cn, hW2]
    refine wp_of e9 ?_
    have hl : leadB B' rs2 ms2 (wv qs x) = true := by
      have hx2 := hx
      rw [← hW] at hx2
      exact found_none hU u0 (by omega) (by omega) (by omega) dvU dvB G.rr fo (y := x) (by
        rcases wide_mem.mp hx2 with h | h
        · exact (hbb x).mp h.2
        · exact .inr h)
    simp_arith [is_why_ok G G2 hp.ok hp.ends (wJ x hx), hl]
    exact B9.mono (by omega)
  | some x0 =>
    obtain ⟨x, rfl⟩ : ∃ x, o' = some x := by
      cases o' with
      | none => cases oo.mp rfl
      | some x => exact ⟨x, rfl⟩
    obtain ⟨f1, f2, f3⟩ := found_some (by omega) (by omega) dvB G.rr fo'
    rw [hW] at f1
    simp_arith [m__law_is_int, s__law_is_int, lhas_ok (show 0 < (B : Int) by omega), f2, fits_ok G2 hp.ok (wJ x f1), f3, is_why_ok G G2 hp.ok hp.ends (wJ x f1)]
    exact B8.mono (by omega)
end K18
namespace K18
open PySem DL
theorem right_ok {w : W} {m : Int} (hw : BI w m) (hm : m < 2 ^ 34) : ∃ w', m__law_right [.box 0] w = .ok (.bl true) w' ∧ BI w' (m + 300) := by
  obtain ⟨d, w', e, h1, h2⟩ := wp_ex (right_wp hw hm)
  subst h1
  exact ⟨w', e, h2⟩
end K18
namespace K18
open PySem DL
def sL1 : SM := (sAsg (bName 1) [0] (dCall 2 m__law_box (aCons (dCall 2 m__law_cells (aCons (dVar 0) (aCons (dC (.int 1)) aNil))) (aCons (dC (.int 0)) aNil))))
def sM0 : SM := (sAsg (bTup 2 (bCons (bName 3) (bCons (bName 4) bNil))) [] (dTup (aCons (dTup (aCons (dC (.int 1)) (aCons (dTup (aCons (dC (.int 0)) aNil)) (aCons (dTup aNil) aNil)))) (aCons (dTup (aCons (dTup (aCons (dC (.int 0)) (aCons (dC (.int 1)) aNil))) (aCons (dTup (aCons (dC (.int 0)) (aCons (dC (.int 1)) aNil))) (aCons (dTup (aCons (dC (.int 1)) (aCons (dC (.int 1)) aNil))) aNil)))) aNil))))
def sM1 : SM := (sAsg (bName 2) [3, 4] (dL (dLst (aCons (dCall 3 m_leads_into (aCons (dVar 3) (aCons (dVar 4) (aCons (dTup (aCons (dC (.int 8)) (aCons (dTup (aCons (dC (.int 0)) (aCons (dC (.int 1)) (aCons (dC (.int 4)) aNil)))) (aCons (dTup aNil) aNil)))) aNil)))) (aCons (dCall 3 m_leads_into (aCons (dVar 3) (aCons (dVar 4) (aCons (dTup (aCons (dC (.int 8)) (aCons (dTup (aCons (dC (.int 0)) (aCons (dC (.int 1)) aNil))) (aCons (dTup aNil) aNil)))) aNil)))) (aCons (dCall 3 m_leads_into (aCons (dVar 3) (aCons (dTup (aCons (dTup (aCons (dC (.int 7)) (aCons (dC (.int 1)) aNil))) aNil)) (aCons (dTup (aCons (dC (.int 1)) (aCons (dTup aNil) (aCons (dTup (aCons (dC (.int 7)) aNil)) aNil)))) aNil)))) (aCons (dCall 3 m_leads_into (aCons (dVar 3) (aCons (dTup (aCons (dTup (aCons (dC (.int 0)) (aCons (dC (.int 1)) aNil))) (aCons (dTup (aCons (dC (.int 1)) (aCons (dC (.int 1)) aNil))) aNil))) (aCons (dTup (aCons (dC (.int 2)) (aCons (dTup (aCons (dC (.int 0)) aNil)) (aCons (dTup (aCons (dC (.int 1)) (aCons (dC (.int 3)) (aCons (dC (.int 5)) aNil)))) aNil)))) aNil)))) (aCons (dCall 3 m_leads_into (aCons (dTup (aCons (dC (.int 1)) (aCons (dTup aNil) (aCons (dTup (aCons (dC (.int 1)) (aCons (dC (.int 3)) aNil))) aNil)))) (aCons (dTup (aCons (dTup (aCons (dC (.int 0)) (aCons (dC (.int 1)) aNil))) (aCons (dTup (aCons (dC (.int 1)) (aCons (dC (.int 1)) aNil))) aNil))) (aCons (dTup (aCons (dC (.int 2)) (aCons (dTup (aCons (dC (.int 0)) aNil)) (aCons (dTup (aCons (dC (.int 1)) (aCons (dC (.int 3)) (aCons (dC (.int 5)) aNil)))) aNil)))) aNil)))) aNil))))))))
def turnsE : EM (List D) := (dComp3 [] [1] [5] (dUn rng1 (dC (.int 6))) (bName 5) tYesM (dCall 1 m__law_right (aCons (dVar 1) aNil)))
def sameE : EM D := (dCall 2 (m__law_same 40) (aCons (dVar 2) (aCons (dL (dLst (aCons (dC (.bl true)) (aCons (dC (.bl false)) (aCons (dC (.bl true)) (aCons (dC (.bl false)) (aCons (dC (.bl true)) aNil))))))) aNil)))
def sLz : SM := (sRet (dAnd sameE (dUn allD (dL turnsE))))
theorem law_eq : s_law = sSeq sL1 (sSeq sM0 (sSeq sM1 sLz)) := rfl
def ZZ0 : Slot := .fz (.tup [.int 1, .tup [.int 0], .tup []])
def ZZ1 : Slot := .fz (.tup [.tup [.int 0, .int 1], .tup [.int 0, .int 1], .tup [.int 1, .int 1]])
def ZZ2 : Slot := .fz (.lst [.bl true, .bl false, .bl true, .bl false, .bl true])
theorem m0_ok {s0 : Slot} {w : W} : sM0 [s0, .fz (.box 0), .un, .un, .un, .un] w = .nx [s0, .fz (.box 0), .un, ZZ0, ZZ1, .un] w := by kernel_rfl
theorem m1_ok {s0 : Slot} {w : W} : sM1 [s0, .fz (.box 0), .un, ZZ0, ZZ1, .un] w = .nx [s0, .fz (.box 0), ZZ2, ZZ0, ZZ1, .un] w := by kernel_rfl
theorem same_ok {s0 : Slot} {w : W} : sameE [s0, .fz (.box 0), ZZ2, ZZ0, ZZ1, .un] w = .ok (.bl true) w := by kernel_rfl
theorem rngR (env : DL.Env) (w : W) : (dUn rng1 (dC (.int 6))) env w = .ok (rngL 0 1 6) w := by
  have := DL.e_rng1 (j := 6) (w := w) (by omega) (by omega)
  rw [e_dUn, e_dC, bind_ok, this]; rfl
theorem turns_ok {s0 : Slot} {w : W} (hw : BI w 0) : ∃ w', turnsE [s0, .fz (.box 0), ZZ2, ZZ0, ZZ1, .un] w = .ok (List.replicate 6 (.bl true)) w' := by
  obtain ⟨ys, w', h1, h2, h3, h4⟩ := comp3_inv3 (ac := []) (ac3 := [1]) (vs := [5]) (b := bName 5) (κ := tYesM) (e := dCall 1 m__law_right (aCons (dVar 1) aNil)) (ds := rngL 0 1 6) (env := [s0, .fz (.box 0), ZZ2, ZZ0, ZZ1, .un])
    (fun acc w => (∀ d ∈ acc, d = .bl true) ∧ BI w (300 * acc.length)) rfl (rngR _ w) (by rw [len_rng]; exact sl_of (by omega)) rfl ⟨by simp, by simpa using hw⟩ (by
      rintro d hd acc w ha ⟨h1, h2⟩
      rw [len_rng] at ha
      obtain ⟨w', e, bi⟩ := right_ok h2 (by omega)
      refine ⟨[s0, .fz (.box 0), ZZ2, ZZ0, ZZ1, .fz d], .bl true, w', rfl, rfl, ?_, fun z hz => ?_, bi.mono (by simp; omega)⟩
      · have g : dVar 1 [s0, .fz (.box 0), ZZ2, ZZ0, ZZ1, .fz d] w = .ok (.box 0) w := rfl
        rw [dc1, g, bind_ok, e]
      · rcases List.mem_append.mp hz with hz | hz
        · exact h1 z hz
        · exact List.mem_singleton.mp hz)
  rw [len_rng] at h2
  refine ⟨w', ?_⟩
  have : ys = List.replicate 6 (.bl true) := List.eq_replicate_iff.mpr ⟨h2, h3⟩
  rw [← this]
  exact h1
theorem law_true : ∀ ns : List Int, ns.length ≤ 63 → ∃ w', m_law [.scr ns] [] = .ok (.bl true) w' := by
  intro ns h
  obtain ⟨c, hc⟩ := cells_ok (ns := ns) (w := []) h
  obtain ⟨w0, hb, b0⟩ := box_ok (c := c)
  obtain ⟨w', ht⟩ := turns_ok (s0 := .fz (.scr ns)) b0
  refine ⟨w', ?_⟩
  have e1 : sL1 [.fz (.scr ns), .un, .un, .un, .un, .un] [] = .nx [.fz (.scr ns), .fz (.box 0), .un, .un, .un, .un] w0 := by
    have g : dVar 0 [.fz (.scr ns), .un, .un, .un, .un, .un] [] = .ok (.scr ns) [] := rfl
    unfold sL1
    rw [e_sAsg, dc2, dc2, g, bind_ok, e_dC, bind_ok, hc, bind_ok, e_dC, bind_ok, hb, obind_ok]
    rfl
  have al : allD (.lst (List.replicate 6 (.bl true))) w' = .ok (.bl true) w' := rfl
  have e0 : m_law [.scr ns] [] = endO (s_law [.fz (.scr ns), .un, .un, .un, .un, .un] []) := by
    unfold m_law
    rw [e_body]; rfl
  rw [e0, law_eq, e_sSeq, e1, e_sqn, e_sSeq, m0_ok, e_sqn, e_sSeq, m1_ok, e_sqn]
  unfold sLz
  rw [e_sRet, e_dAnd, same_ok, bind_ok, e_truB, bind_ok, if_pos rfl, e_dUn, e_dL, ht, bind_ok, bind_ok, al, obind_ok, e_endr]
end K18
open PySem PySem.W PyProof.Rows
set_option maxHeartbeats 0 in
theorem PySem.Challenge.cw_neverfraction_k18_main_sets_led_into_set_holds : PySem.Challenge.rw_neverfraction_k18_main_sets_led_into_set.Holds := by
  w_on; o_law; k_head; (case hw => w_witness2)
  k_fill
  refine L2.walk_of (l := PySem.Challenge.rw_neverfraction_k18_main_sets_led_into_set) (n := 63) (k := 48) (x := "script") (CX := fun w => L2.CX PySem.Challenge.rw_neverfraction_k18_main_sets_led_into_set.prog w) (sp := fun w => DL.spS _) rfl (by decide) rfl ⟨rfl, by decide, by decide⟩ (fun w h Y => PySem.W.kIn_of Y) ?F (fun _ _ a ns hl hO hS => ⟨a, ns, rfl, hS, hO, hl, fun _ => rfl⟩) (fun _ H s e s' h => DL.cx_none H s e s' h)
  case F =>
    intro w mg fa h KX G hmg
    refine' K18.all_mk KX G hmg ?nb ?c_MOST_BY ?c_MOST_MADE ?c_MOST_MORE ?c_MOST_MEMBER ?c_MOST_DEGREE ?c_MOST_ENTRY ?c_NOUGHT ?c_MOST_BASE ?c_MOST_STEPS ?e_CanNot ?e_TooMany ?e_Unfit ?nVE ?fU ?fUE ?d_is_number ?d_is_long ?d_are_numbers ?d_ascends ?d_tupled ?d_common_of ?d_least_of ?d_slim ?d_is_fraction ?d_told_set ?d_is_told ?d_is_set ?d_sure_set ?d_has_member ?d_is_poly ?d_sure_poly ?d_whole_row ?d_value_in ?d_sure_low ?d_round_in ?d_is_led_at ?d_out_in ?d_sure_lead ?d_leads_into ?d_why_no_lead ?d_is_why_no_lead ?d_lead_round ?d__law_box ?d__law_take ?d__law_cells ?d__law_of ?d__law_pick ?d__law_lists ?d__law_mixed ?d__law_same ?d__law_is_int ?d__law_gcd ?d__law_slim ?d__law_plus ?d__law_times ?d__law_thin ?d__law_scale ?d__law_mul ?d__law_value ?d__law_roots ?d__law_chosen ?d__law_some_fraction ?d__law_some_poly ?d__law_told ?d__law_has ?d__law_some_set ?d__law_members ?d__law_astray ?d__law_fits ?d__law_right ?d_law K18.law_true
    case nb => refine' DL.nb_mk KX G ?a1 ?a2 ?a3 ?a4 ?a5 ?a6 ?a7 ?a8 ?a9 ?a10 ?a11 ?a12 ?a13 ?a14 ?a15 ?a16 ?a17 ?a18 ?a19 ?a20 <;> k_is
    case c_MOST_BY => refine' DL.cst_int KX G ?a; (case a => k_is)
    case c_MOST_MADE => refine' DL.cst_int KX G ?a; (case a => k_is)
    case c_MOST_MORE => refine' DL.cst_int KX G ?a; (case a => k_is)
    case c_MOST_MEMBER => refine' DL.cst_int KX G ?a; (case a => k_is)
    case c_MOST_DEGREE => refine' DL.cst_int KX G ?a; (case a => k_is)
    case c_MOST_ENTRY => refine' DL.cst_int KX G ?a; (case a => k_is)
    case c_NOUGHT => refine' DL.cst_pair KX G ?a ?l; (case a => k_is); (case l => k_is)
    case c_MOST_BASE => refine' DL.cst_int KX G ?a; (case a => k_is)
    case c_MOST_STEPS => refine' DL.cst_int KX G ?a; (case a => k_is)
    case e_CanNot => refine' DL.exc_mk KX G ?a ?e ?k ?s ?t; (case a => k_is); (case e => first | k_exc | k_is); (case k => k_is); (case s => k_is); (case t => k_is)
    case e_TooMany => refine' DL.exc_mk KX G ?a ?e ?k ?s ?t; (case a => k_is); (case e => first | k_exc | k_is); (case k => k_is); (case s => k_is); (case t => k_is)
    case e_Unfit => refine' DL.exc_mk KX G ?a ?e ?k ?s ?t; (case a => k_is); (case e => first | k_exc | k_is); (case k => k_is); (case s => k_is); (case t => k_is)
    case nVE => refine' DL.none_mk KX G ?a; (case a => k_is)
    case fU => intro c hc; simp only [K18.Us, List.mem_cons, List.not_mem_nil, or_false] at hc; rcases hc with rfl | rfl | rfl <;> (refine' DL.exct_mk KX G ?a ?h1 ?h2 ?h3 ?h4 ?h5 ?h6 ?h7 ?h8 ?h9; (case a => k_is); (case h1 => k_is); (case h2 => k_is); (case h3 => k_is); (case h4 => k_is); (case h5 => k_is); (case h6 => k_is); (case h7 => k_is); (case h8 => k_is); (case h9 => first | kit_is | k_is))
    case fUE => intro c hc c2 hc2; simp only [K18.Us, List.mem_cons, List.not_mem_nil, or_false] at hc hc2; rcases hc with rfl | rfl | rfl <;> rcases hc2 with rfl | rfl | rfl <;> (refine' DL.exce_mk KX G ?a ?b ?e; (case a => k_is); (case b => k_is); (case e => first | kts_exm | k_is))
    case d_is_number => refine' ⟨_, DL.def_mk KX G ?a ?l ?c ?k⟩; (case a => k_is); (case l => k_is); (case c => k_is); (case k => k_is)
    case d_is_long => refine' ⟨_, DL.def_mk KX G ?a ?l ?c ?k⟩; (case a => k_is); (case l => k_is); (case c => k_is); (case k => k_is)
    case d_are_numbers => refine' ⟨_, DL.def_mk KX G ?a ?l ?c ?k⟩; (case a => k_is); (case l => k_is); (case c => k_is); (case k => k_is)
    case d_ascends => refine' ⟨_, DL.def_mk KX G ?a ?l ?c ?k⟩; (case a => k_is); (case l => k_is); (case c => k_is); (case k => k_is)
    case d_tupled => refine' ⟨_, DL.def_mk KX G ?a ?l ?c ?k⟩; (case a => k_is); (case l => k_is); (case c => k_is); (case k => k_is)
    case d_common_of => refine' ⟨_, DL.def_mk KX G ?a ?l ?c ?k⟩; (case a => k_is); (case l => k_is); (case c => k_is); (case k => k_is)
    case d_least_of => refine' ⟨_, DL.def_mk KX G ?a ?l ?c ?k⟩; (case a => k_is); (case l => k_is); (case c => k_is); (case k => k_is)
    case d_slim => refine' ⟨_, DL.def_mk KX G ?a ?l ?c ?k⟩; (case a => k_is); (case l => k_is); (case c => k_is); (case k => k_is)
    case d_is_fraction => refine' ⟨_, DL.def_mk KX G ?a ?l ?c ?k⟩; (case a => k_is); (case l => k_is); (case c => k_is); (case k => k_is)
    case d_told_set => refine' ⟨_, DL.def_mk KX G ?a ?l ?c ?k⟩; (case a => k_is); (case l => k_is); (case c => k_is); (case k => k_is)
    case d_is_told => refine' ⟨_, DL.def_mk KX G ?a ?l ?c ?k⟩; (case a => k_is); (case l => k_is); (case c => k_is); (case k => k_is)
    case d_is_set => refine' ⟨_, DL.def_mk KX G ?a ?l ?c ?k⟩; (case a => k_is); (case l => k_is); (case c => k_is); (case k => k_is)
    case d_sure_set => refine' ⟨_, DL.def_mk KX G ?a ?l ?c ?k⟩; (case a => k_is); (case l => k_is); (case c => k_is); (case k => k_is)
    case d_has_member => refine' ⟨_, DL.def_mk KX G ?a ?l ?c ?k⟩; (case a => k_is); (case l => k_is); (case c => k_is); (case k => k_is)
    case d_is_poly => refine' ⟨_, DL.def_mk KX G ?a ?l ?c ?k⟩; (case a => k_is); (case l => k_is); (case c => k_is); (case k => k_is)
    case d_sure_poly => refine' ⟨_, DL.def_mk KX G ?a ?l ?c ?k⟩; (case a => k_is); (case l => k_is); (case c => k_is); (case k => k_is)
    case d_whole_row => refine' ⟨_, DL.def_mk KX G ?a ?l ?c ?k⟩; (case a => k_is); (case l => k_is); (case c => k_is); (case k => k_is)
    case d_value_in => refine' ⟨_, DL.def_mk KX G ?a ?l ?c ?k⟩; (case a => k_is); (case l => k_is); (case c => k_is); (case k => k_is)
    case d_sure_low => refine' ⟨_, DL.def_mk KX G ?a ?l ?c ?k⟩; (case a => k_is); (case l => k_is); (case c => k_is); (case k => k_is)
    case d_round_in => refine' ⟨_, DL.def_mk KX G ?a ?l ?c ?k⟩; (case a => k_is); (case l => k_is); (case c => k_is); (case k => k_is)
    case d_is_led_at => refine' ⟨_, DL.def_mk KX G ?a ?l ?c ?k⟩; (case a => k_is); (case l => k_is); (case c => k_is); (case k => k_is)
    case d_out_in => refine' ⟨_, DL.def_mk KX G ?a ?l ?c ?k⟩; (case a => k_is); (case l => k_is); (case c => k_is); (case k => k_is)
    case d_sure_lead => refine' ⟨_, DL.def_mk KX G ?a ?l ?c ?k⟩; (case a => k_is); (case l => k_is); (case c => k_is); (case k => k_is)
    case d_leads_into => refine' ⟨_, DL.def_mk KX G ?a ?l ?c ?k⟩; (case a => k_is); (case l => k_is); (case c => k_is); (case k => k_is)
    case d_why_no_lead => refine' ⟨_, DL.def_mk KX G ?a ?l ?c ?k⟩; (case a => k_is); (case l => k_is); (case c => k_is); (case k => k_is)
    case d_is_why_no_lead => refine' ⟨_, DL.def_mk KX G ?a ?l ?c ?k⟩; (case a => k_is); (case l => k_is); (case c => k_is); (case k => k_is)
    case d_lead_round => refine' ⟨_, DL.def_mk KX G ?a ?l ?c ?k⟩; (case a => k_is); (case l => k_is); (case c => k_is); (case k => k_is)
    case d__law_box => refine' ⟨_, DL.def_mk KX G ?a ?l ?c ?k⟩; (case a => k_is); (case l => k_is); (case c => k_is); (case k => k_is)
    case d__law_take => refine' ⟨_, DL.def_mk KX G ?a ?l ?c ?k⟩; (case a => k_is); (case l => k_is); (case c => k_is); (case k => k_is)
    case d__law_cells => refine' ⟨_, DL.def_mk KX G ?a ?l ?c ?k⟩; (case a => k_is); (case l => k_is); (case c => k_is); (case k => k_is)
    case d__law_of => refine' ⟨_, DL.def_mk KX G ?a ?l ?c ?k⟩; (case a => k_is); (case l => k_is); (case c => k_is); (case k => k_is)
    case d__law_pick => refine' ⟨_, DL.def_mk KX G ?a ?l ?c ?k⟩; (case a => k_is); (case l => k_is); (case c => k_is); (case k => k_is)
    case d__law_lists => refine' ⟨_, DL.def_mk KX G ?a ?l ?c ?k⟩; (case a => k_is); (case l => k_is); (case c => k_is); (case k => k_is)
    case d__law_mixed => refine' ⟨_, DL.def_mk KX G ?a ?l ?c ?k⟩; (case a => k_is); (case l => k_is); (case c => k_is); (case k => k_is)
    case d__law_same => refine' ⟨_, DL.def_mk KX G ?a ?l ?c ?k⟩; (case a => k_is); (case l => k_is); (case c => k_is); (case k => k_is)
    case d__law_is_int => refine' ⟨_, DL.def_mk KX G ?a ?l ?c ?k⟩; (case a => k_is); (case l => k_is); (case c => k_is); (case k => k_is)
    case d__law_gcd => refine' ⟨_, DL.def_mk KX G ?a ?l ?c ?k⟩; (case a => k_is); (case l => k_is); (case c => k_is); (case k => k_is)
    case d__law_slim => refine' ⟨_, DL.def_mk KX G ?a ?l ?c ?k⟩; (case a => k_is); (case l => k_is); (case c => k_is); (case k => k_is)
    case d__law_plus => refine' ⟨_, DL.def_mk KX G ?a ?l ?c ?k⟩; (case a => k_is); (case l => k_is); (case c => k_is); (case k => k_is)
    case d__law_times => refine' ⟨_, DL.def_mk KX G ?a ?l ?c ?k⟩; (case a => k_is); (case l => k_is); (case c => k_is); (case k => k_is)
    case d__law_thin => refine' ⟨_, DL.def_mk KX G ?a ?l ?c ?k⟩; (case a => k_is); (case l => k_is); (case c => k_is); (case k => k_is)
    case d__law_scale => refine' ⟨_, DL.def_mk KX G ?a ?l ?c ?k⟩; (case a => k_is); (case l => k_is); (case c => k_is); (case k => k_is)
    case d__law_mul => refine' ⟨_, DL.def_mk KX G ?a ?l ?c ?k⟩; (case a => k_is); (case l => k_is); (case c => k_is); (case k => k_is)
    case d__law_value => refine' ⟨_, DL.def_mk KX G ?a ?l ?c ?k⟩; (case a => k_is); (case l => k_is); (case c => k_is); (case k => k_is)
    case d__law_roots => refine' ⟨_, DL.def_mk KX G ?a ?l ?c ?k⟩; (case a => k_is); (case l => k_is); (case c => k_is); (case k => k_is)
    case d__law_chosen => refine' ⟨_, DL.def_mk KX G ?a ?l ?c ?k⟩; (case a => k_is); (case l => k_is); (case c => k_is); (case k => k_is)
    case d__law_some_fraction => refine' ⟨_, DL.def_mk KX G ?a ?l ?c ?k⟩; (case a => k_is); (case l => k_is); (case c => k_is); (case k => k_is)
    case d__law_some_poly => refine' ⟨_, DL.def_mk KX G ?a ?l ?c ?k⟩; (case a => k_is); (case l => k_is); (case c => k_is); (case k => k_is)
    case d__law_told => refine' ⟨_, DL.def_mk KX G ?a ?l ?c ?k⟩; (case a => k_is); (case l => k_is); (case c => k_is); (case k => k_is)
    case d__law_has => refine' ⟨_, DL.def_mk KX G ?a ?l ?c ?k⟩; (case a => k_is); (case l => k_is); (case c => k_is); (case k => k_is)
    case d__law_some_set => refine' ⟨_, DL.def_mk KX G ?a ?l ?c ?k⟩; (case a => k_is); (case l => k_is); (case c => k_is); (case k => k_is)
    case d__law_members => refine' ⟨_, DL.def_mk KX G ?a ?l ?c ?k⟩; (case a => k_is); (case l => k_is); (case c => k_is); (case k => k_is)
    case d__law_astray => refine' ⟨_, DL.def_mk KX G ?a ?l ?c ?k⟩; (case a => k_is); (case l => k_is); (case c => k_is); (case k => k_is)
    case d__law_fits => refine' ⟨_, DL.def_mk KX G ?a ?l ?c ?k⟩; (case a => k_is); (case l => k_is); (case c => k_is); (case k => k_is)
    case d__law_right => refine' ⟨_, DL.def_mk KX G ?a ?l ?c ?k⟩; (case a => k_is); (case l => k_is); (case c => k_is); (case k => k_is)
    case d_law => refine' ⟨_, DL.def_mk KX G ?a ?l ?c ?k⟩; (case a => k_is); (case l => k_is); (case c => k_is); (case k => k_is)
