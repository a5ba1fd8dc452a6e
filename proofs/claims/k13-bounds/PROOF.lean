import PyProof.Rows.All
import Wide.All
import OpenK.AllK
import Wide.FinOn
import HandS.ForMost
import HandS.ForExc
import HandS.Flow
import HandS.Style
import HandS.TupAny
import HandS.TupMul
import HandS.StrMore
import HandS.IsInst
import HandS.Steps
import HandS.RaiseMore
import HandS.Defaults
import PyProof.ReprRoads
import PyProof.StrOps2
import HandS.Lambda
import KE.DataEq
import HandS.Wide
import HandS.Zip
import PyProof.Rows.IntBool
import HandS.CallLocal
import HandS.Dict
import HandS.More
import HandS.SetTxt0
import HandS.SetFor
import HandS.Strs
import KE.SortData
import HandS.Replace
import KE.KUnpackStar
import HandS.EndTab
import HandS.Nested
import HandS.DictComp
import HandS.Deep
import KE.GoesMore
import KE.GoesEnum
import HandS.NoneIn
import HandS.SetKeys
import HandS.TupSets
import PyProof.Rows.SortShell
import PySem.Challenge.RW_letterhall_k13_plans_at_their_bounds
set_option Elab.async false
set_option linter.all false
set_option maxRecDepth 100000
set_option maxHeartbeats 4000000
namespace DL
open L2 PyProof.Rows PySem PySem.Spec

abbrev D := PyData

/-! ### a value that stands for a datum -/
mutual
inductive Rp (K : PySem.W.Frag) (H : Hp) : V → D → Prop
  | non : Rp K H .non .none
  | bl (b : Bool) : Rp K H (.bl b) (.bool b)
  | int (i : Int) : Rp K H (.int i) (.int i)
  | str (x : Str) : Rp K H (.str x) (.str x)
  | lst {a : Addr} {xs : List V} {ds : List D} : H a = some (.lst xs) → RpAll K H xs ds → Rp K H (.ref a) (.list ds)
  | tup {a : Addr} {xs : List V} {ds : List D} : SqT K H a xs → RpAll K H xs ds → Rp K H (.ref a) (.tuple ds)
  | scr {a : Addr} {ns : List Int} : SqL K H a (ns.map V.int) → Rp K H (.ref a) (.dict [(.none, .list (ns.map PyData.int))])
  | fnc {f : Addr} {x : Str} : PySem.W.nsIn K mainGlobals x = some (some (.ref f)) → PySem.W.keepIn K (.ref f) = true → Rp K H (.ref f) (.dict [(.bool true, .str x)])
  | clo {f c a : Addr} {q : Str} {d : D} : H c = some (LamX.CodeO c q) → Rp K H (.ref a) d → Rp K H (.ref f) (.dict [(.bool false, .tuple [.int f, .int c, .int a, .str q, d])])
  | dic {a : Addr} {kvs : List (Key × V)} {ds : List (D × D)} : H a = some (.dK kvs) → RpKV K H kvs ds → Rp K H (.ref a) (.dict ds)
inductive RpAll (K : PySem.W.Frag) (H : Hp) : List V → List D → Prop
  | nil : RpAll K H [] []
  | cons {v : V} {vs : List V} {d : D} {ds : List D} : Rp K H v d → RpAll K H vs ds → RpAll K H (v :: vs) (d :: ds)
inductive RpKV (K : PySem.W.Frag) (H : Hp) : List (Key × V) → List (D × D) → Prop
  | nil : RpKV K H [] []
  | consI {i : Int} {v : V} {kvs : List (Key × V)} {d : D} {ds : List (D × D)} : Rp K H v d → RpKV K H kvs ds → RpKV K H ((.inl i, v) :: kvs) ((.int i, d) :: ds)
  | consS {x : Str} {v : V} {kvs : List (Key × V)} {d : D} {ds : List (D × D)} : Rp K H v d → RpKV K H kvs ds → RpKV K H ((.inr x, v) :: kvs) ((.str x, d) :: ds)
end

section
variable {K : PySem.W.Frag} {H H' : Hp}
theorem same_t {a : Addr} {xs : List V} (e : Same H H') (h : SqT K H a xs) : SqT K H' a xs := by
  rcases h with (h | ⟨o, h⟩) | h
  · exact .inl (.inl (e _ _ h))
  · exact .inl (.inr ⟨o, e _ _ h⟩)
  · exact .inr h
mutual
theorem Rp.mono (e : Same H H') : ∀ {v : V} {d : D}, Rp K H v d → Rp K H' v d
  | _, _, .non => .non
  | _, _, .bl b => .bl b
  | _, _, .int i => .int i
  | _, _, .str x => .str x
  | _, _, .lst h r => .lst (e _ _ h) (RpAll.mono e r)
  | _, _, .scr h => .scr (e.seq h)
  | _, _, .fnc h k => .fnc h k
  | _, _, .clo h r => .clo (e _ _ h) (Rp.mono e r)
  | _, _, .tup h r => .tup (same_t e h) (RpAll.mono e r)
  | _, _, .dic h r => .dic (e _ _ h) (RpKV.mono e r)
theorem RpAll.mono (e : Same H H') : ∀ {v : List V} {d : List D}, RpAll K H v d → RpAll K H' v d
  | _, _, .nil => .nil
  | _, _, .cons h r => .cons (Rp.mono e h) (RpAll.mono e r)
theorem RpKV.mono (e : Same H H') : ∀ {v : List (Key × V)} {d : List (D × D)}, RpKV K H v d → RpKV K H' v d
  | _, _, .nil => .nil
  | _, _, .consI h r => .consI (Rp.mono e h) (RpKV.mono e r)
  | _, _, .consS h r => .consS (Rp.mono e h) (RpKV.mono e r)
end
theorem RpAll.len : ∀ {vs : List V} {ds : List D}, RpAll K H vs ds → vs.length = ds.length
  | _, _, .nil => rfl
  | _, _, .cons _ r => by simp [RpAll.len r]
theorem RpAll.get : ∀ {vs : List V} {ds : List D} {i : Nat} {d : D}, RpAll K H vs ds → ds[i]? = some d → ∃ v, vs[i]? = some v ∧ Rp K H v d
  | _, _, _, _, .nil, e => by simp at e
  | _, _, 0, _, .cons h _, e => by simp at e; subst e; exact ⟨_, rfl, h⟩
  | _, _, i + 1, d, .cons _ r, e => by
    obtain ⟨v, h1, h2⟩ := RpAll.get (i := i) (d := d) r (by simpa using e)
    exact ⟨v, by simpa using h1, h2⟩
theorem RpAll.append : ∀ {vs ws : List V} {ds es : List D}, RpAll K H vs ds → RpAll K H ws es → RpAll K H (vs ++ ws) (ds ++ es)
  | _, _, _, _, .nil, s => s
  | _, _, _, _, .cons h r, s => .cons h (RpAll.append r s)
theorem RpAll.take : ∀ {vs : List V} {ds : List D} (n : Nat), RpAll K H vs ds → RpAll K H (vs.take n) (ds.take n)
  | _, _, 0, _ => .nil
  | _, _, _ + 1, .nil => .nil
  | _, _, n + 1, .cons h r => .cons h (RpAll.take n r)
theorem RpAll.drop : ∀ {vs : List V} {ds : List D} (n : Nat), RpAll K H vs ds → RpAll K H (vs.drop n) (ds.drop n)
  | _, _, 0, r => r
  | _, _, _ + 1, .nil => .nil
  | _, _, n + 1, .cons _ r => RpAll.drop n r
theorem RpAll.reverse : ∀ {vs : List V} {ds : List D}, RpAll K H vs ds → RpAll K H vs.reverse ds.reverse
  | _, _, .nil => .nil
  | _, _, .cons h r => by
    rw [List.reverse_cons, List.reverse_cons]
    exact (RpAll.reverse r).append (.cons h .nil)
theorem RpAll.rep {vs : List V} {ds : List D} (h : RpAll K H vs ds) : ∀ k : Nat, RpAll K H (List.replicate k vs).flatten (List.replicate k ds).flatten
  | 0 => .nil
  | k + 1 => by
    rw [List.replicate_succ, List.replicate_succ, List.flatten_cons, List.flatten_cons]
    exact h.append (RpAll.rep h k)
theorem RpAll.eraseIdx : ∀ {vs : List V} {ds : List D} (n : Nat), RpAll K H vs ds → RpAll K H (vs.eraseIdx n) (ds.eraseIdx n)
  | _, _, _, .nil => .nil
  | _, _, 0, .cons _ r => r
  | _, _, n + 1, .cons h r => .cons h (RpAll.eraseIdx n r)
theorem RpAll.ints : ∀ ns : List Int, RpAll K H (ns.map V.int) (ns.map PyData.int)
  | [] => .nil
  | n :: r => .cons (.int n) (RpAll.ints r)
mutual
theorem Rp.dp : ∀ {v : V} {d : D}, Rp K H v d → d.hasDict = false → Dp K H v d
  | _, _, .non, _ => .non
  | _, _, .bl b, _ => .bl b
  | _, _, .int i, _ => .int i
  | _, _, .str x, _ => .str x
  | _, _, .lst h r, e => .lst (.inl (.inl h)) (RpAll.dp r (by simpa [PyData.hasDict] using e))
  | _, _, .scr _, e => by simp [PyData.hasDict] at e
  | _, _, .fnc _ _, e => by simp [PyData.hasDict] at e
  | _, _, .clo _ _, e => by simp [PyData.hasDict] at e
  | _, _, .tup h r, e => .tup h (RpAll.dp r (by simpa [PyData.hasDict] using e))
  | _, _, .dic _ _, e => by simp [PyData.hasDict] at e
theorem RpAll.dp : ∀ {v : List V} {d : List D}, RpAll K H v d → PyData.hasDictAll d = false → DpAll K H v d
  | _, _, .nil, _ => .nil
  | _, _, .cons h r, e => by
    rw [PyData.hasDictAll, Bool.or_eq_false_iff] at e
    exact .cons (Rp.dp h e.1) (RpAll.dp r e.2)
end
end

/-- the script, as a datum of its own -/
abbrev scr (xs : List D) : D := .dict [(.none, .list xs)]
/-! ### values of the mirror: data, a live cell, a new list -/
inductive DV where
  | d (x : D) | c (i : Nat) | n (xs : List D)
inductive Cell where
  | dead | lst (xs : List DV) | dic (kvs : List (Key × DV))
abbrev Rho := List (Option DV)
abbrev Kap := List Cell
abbrev Fs := List (Str × D)
inductive Out (α : Type) where
  | ok (a : α) (κ : Kap) | ex (n : Str) (fs : Fs) (κ : Kap) | bad
inductive OutS where
  | nx (ρ : Rho) (κ : Kap) | bk (ρ : Rho) (κ : Kap) | ct (ρ : Rho) (κ : Kap) | rt (x : DV) (κ : Kap) | ex (n : Str) (fs : Fs) (κ : Kap) | bad
abbrev ME := Rho → Kap → Out DV
abbrev MT := Rho → Kap → Out Bool
abbrev MA := Rho → Kap → Out (List DV)
abbrev MS := Rho → Kap → OutS
abbrev MF := List DV → Kap → Out DV
def Out.bind {α β : Type} (o : Out α) (f : α → Kap → Out β) : Out β := match o with
  | .ok a κ => f a κ
  | .ex n fs κ => .ex n fs κ
  | .bad => .bad
def Out.bindS {α : Type} (o : Out α) (f : α → Kap → OutS) : OutS := match o with
  | .ok a κ => f a κ
  | .ex n fs κ => .ex n fs κ
  | .bad => .bad

/-! ### the state: F protected objects, B the frozen heap, ι the cells' addresses -/
section
variable (K : PySem.W.Frag)
def VOk (F : List Addr) (B : Hp) (ι : List Addr) (H : Hp) (v : V) : DV → Prop
  | .d x => Rp K B v x
  | .c i => ∃ a, ι[i]? = some a ∧ v = .ref a
  | .n xs => ∃ p vs, v = .ref p ∧ H p = some (.lst vs) ∧ B p = none ∧ p ∉ ι ∧ p ∉ F ∧ RpAll K B vs xs
/-- a stored value: no new list -/
def WOk (B : Hp) (ι : List Addr) (v : V) : DV → Prop
  | .d x => Rp K B v x
  | .c i => ∃ a, ι[i]? = some a ∧ v = .ref a
  | .n _ => False
def COk (B : Hp) (ι : List Addr) (H : Hp) (a : Addr) : Cell → Prop
  | .dead => True
  | .lst xs => ∃ vs, H a = some (.lst vs) ∧ Paired (WOk K B ι) vs xs
  | .dic kvs => ∃ ws, H a = some (.dK ws) ∧ Paired (fun (p : Key × V) (q : Key × DV) => p.1 = q.1 ∧ WOk K B ι p.2 q.2) ws kvs
/-- the defs that may make a lambda, and its name -/
def lamNames : List (Str × Str) := [("holds", "holds.<locals>.<lambda>"), ("holds_of", "holds_of.<locals>.<lambda>"), ("best_way", "best_way.<locals>.<lambda>")]
/-- the table of a def's code object -/
def tabOf (x : Str) : Option Addr := match PySem.W.nsIn K mainGlobals x with
  | some (some (.ref f)) => (match K.lookup f with
    | some ⟨_, _, .func fd, _⟩ => (match fd.code with
      | .ref c => (match K.lookup c with
        | some ⟨_, _, .fields vs, _⟩ => (match (vs[11]? : Option Value) with
          | some (.ref P) => some P
          | _ => none)
        | _ => none)
      | _ => none)
    | _ => none)
  | _ => none
def tabsOf : List (Addr × Str) := lamNames.filterMap fun p => (tabOf K p.1).map fun P => (P, p.2)
def TabI (F : List Addr) (B : Hp) (ι : List Addr) (H : Hp) (p : Addr × Str) : Prop :=
  (∃ ps : Array Value, H p.1 = some (.tbl ps) ∧ TriplesOk ps.toList ∧ ∀ (pos : Pos) (cv : Value), codeAmong pos ps.toList = some cv → ∃ c, cv = .ref c ∧ B c = some (LamX.CodeO c p.2)) ∧ B p.1 = none ∧ p.1 ∉ ι ∧ p.1 ∉ F
structure HSt (F : List Addr) (B : Hp) (ι : List Addr) (H : Hp) (κ : Kap) : Prop where
  ex : Same B H
  len : ι.length = κ.length
  nd : ι.Nodup
  out : ∀ (i : Nat) (a : Addr), ι[i]? = some a → κ[i]? ≠ some .dead → B a = none
  pro : ∀ a ∈ F, (∃ o, H a = some o) ∧ B a = none ∧ a ∉ ι
  cel : ∀ (i : Nat) (a : Addr) (cl : Cell), ι[i]? = some a → κ[i]? = some cl → COk K B ι H a cl
  tr : ∀ a ∈ ι, ∃ o, H a = some o
  tb : ∀ p ∈ tabsOf K, TabI F B ι H p
structure SOk (F : List Addr) (B : Hp) (ι : List Addr) (σ : L2.St) (H : Hp) (ρ : Rho) (κ : Kap) : Prop where
  hs : HSt K F B ι H κ
  sl : σ.length = ρ.length
  loc : ∀ (i : Nat) (x : DV), ρ[i]? = some (some x) → ∃ v, σ[i]? = some (some v) ∧ WOk K B ι v x
end
structure Grow (F : List Addr) (B : Hp) (ι : List Addr) (H B' : Hp) (ι' : List Addr) (H' : Hp) : Prop where
  b : Same B B'
  i : ∀ (j : Nat) (a : Addr), ι[j]? = some a → ι'[j]? = some a
  fr : ∀ a ∈ F, H' a = H a

section
variable {K : PySem.W.Frag} {F : List Addr} {B B' B1 : Hp} {ι ι' ι1 : List Addr} {σ : L2.St} {H H' H1 : Hp} {ρ : Rho} {κ κ' : Kap} {v : V} {x : DV}
theorem TabI.to {F' : List Addr} {p : Addr × Str} (t : TabI F B ι H p) (b : Same B B') (h : H' p.1 = H p.1) (n : B' p.1 = none) (i : p.1 ∉ ι') (f : p.1 ∉ F') : TabI F' B' ι' H' p := by
  obtain ⟨⟨ps, h1, h2, h3⟩, _⟩ := t
  refine ⟨⟨ps, h.trans h1, h2, fun pos cv e => ?_⟩, n, i, f⟩
  obtain ⟨c, e1, e2⟩ := h3 pos cv e
  exact ⟨c, e1, b _ _ e2⟩
theorem TabI.ne {p : Addr × Str} {a : Addr} {o : HO} (t : TabI F B ι H p) (h : H a = Option.some o) (n : ∀ ps, o ≠ .tbl ps) : p.1 ≠ a := fun e => by
  obtain ⟨⟨ps, h1, _⟩, _⟩ := t
  rw [e, h] at h1
  cases h1
  exact n ps rfl
theorem TabI.nn {p : Addr × Str} {a : Addr} (t : TabI F B ι H p) (h : H a = none) : p.1 ≠ a := fun e => by
  obtain ⟨⟨ps, h1, _⟩, _⟩ := t
  rw [e, h] at h1
  cases h1
theorem TabI.some {p : Addr × Str} (t : TabI F B ι H p) : ∃ ps, H p.1 = Option.some (.tbl ps) := let ⟨⟨ps, h, _⟩, _⟩ := t; ⟨ps, h⟩
theorem Grow.refl : Grow F B ι H B ι H := ⟨Same.refl _, fun _ _ h => h, fun _ _ => rfl⟩
theorem Grow.trans (g : Grow F B ι H B1 ι1 H1) (h : Grow F B1 ι1 H1 B' ι' H') : Grow F B ι H B' ι' H' :=
  ⟨g.b.trans h.b, fun j a e => h.i j a (g.i j a e), fun a m => (h.fr a m).trans (g.fr a m)⟩
theorem Grow.less {G : List Addr} (g : Grow G B ι H B' ι' H') (s : ∀ a ∈ F, a ∈ G) : Grow F B ι H B' ι' H' := ⟨g.b, g.i, fun a m => g.fr a (s a m)⟩
theorem WOk.mono (b : Same B B') (i : ∀ (j : Nat) (a : Addr), ι[j]? = some a → ι'[j]? = some a) : ∀ {v : V} {x : DV}, WOk K B ι v x → WOk K B' ι' v x
  | _, .d _, h => Rp.mono b h
  | _, .c _, ⟨a, h, e⟩ => ⟨a, i _ _ h, e⟩
  | _, .n _, h => h
theorem WOk.grow (g : Grow F B ι H B' ι' H') (h : WOk K B ι v x) : WOk K B' ι' v x := h.mono g.b g.i
theorem WOk.toV (h : WOk K B ι v x) : VOk K F B ι H v x := by
  cases x with
  | d x => exact h
  | c i => exact h
  | n xs => exact h.elim
theorem SOk.grow (s : SOk K F B ι σ H ρ κ) (g : Grow F B ι H B' ι' H') (h : HSt K F B' ι' H' κ') : SOk K F B' ι' σ H' ρ κ' :=
  ⟨h, s.sl, fun i x e => let ⟨v, e1, w⟩ := s.loc i x e; ⟨v, e1, w.grow g⟩⟩
theorem HSt.less {G : List Addr} (h : HSt K G B ι H κ) (s : ∀ a ∈ F, a ∈ G) : HSt K F B ι H κ := ⟨h.ex, h.len, h.nd, h.out, fun a m => h.pro a (s a m), h.cel, h.tr, fun p m => let t := h.tb p m; ⟨t.1, t.2.1, t.2.2.1, fun z => t.2.2.2 (s _ z)⟩⟩
theorem pmap {α β : Type} {R S : α → β → Prop} : ∀ {l₁ : List α} {l₂ : List β}, Paired R l₁ l₂ → (∀ a b, R a b → S a b) → Paired S l₁ l₂
  | _, _, .nil, _ => .nil
  | _, _, .cons r t, f => .cons (f _ _ r) (pmap t f)
theorem COk.mono {a : Addr} {cl : Cell} (b : Same B B') (i : ∀ (j : Nat) (a : Addr), ι[j]? = some a → ι'[j]? = some a) (e : H' a = H a) (h : COk K B ι H a cl) : COk K B' ι' H' a cl := by
  cases cl with
  | dead => exact True.intro
  | lst xs => obtain ⟨vs, h1, h2⟩ := h; exact ⟨vs, e.trans h1, pmap h2 fun _ _ w => w.mono b i⟩
  | dic kvs => obtain ⟨vs, h1, h2⟩ := h; exact ⟨vs, e.trans h1, pmap h2 fun _ _ w => ⟨w.1, w.2.mono b i⟩⟩
/-- B grows by a known object -/
theorem Same.updL {p : Addr} {o : HO} (s : Same B H) (h : H p = some o) : Same (upd B p o) H := fun a u e => by
  by_cases q : a = p
  · subst q; rw [upd_same] at e; cases e; exact h
  · rw [upd_ne q] at e; exact s a u e
theorem Same.updNew {p : Addr} {o : HO} (h : B p = none) : Same B (upd B p o) := fun a u e => by
  rw [upd_ne (ne_of_none e h)]; exact e
/-- an object that is known, not a cell, not protected, may be frozen -/
theorem HSt.frz (s : HSt K F B ι H κ) {p : Addr} {o : HO} (h : H p = some o) (hb : B p = none) (hi : p ∉ ι) (hf : p ∉ F) (ho : ∀ ps, o ≠ .tbl ps := by intro _ z; cases z) : HSt K F (upd B p o) ι H κ ∧ Grow F B ι H (upd B p o) ι H := by
  have b : Same B (upd B p o) := Same.updNew hb
  refine ⟨⟨Same.updL s.ex h, s.len, s.nd, fun i a m l => ?_, fun a m => ?_, fun i a cl e1 e2 => (s.cel i a cl e1 e2).mono b (fun _ _ h => h) rfl, s.tr, fun q m => let t := s.tb q m; t.to b rfl (by rw [upd_ne (t.ne h ho)]; exact t.2.1) t.2.2.1 t.2.2.2⟩, ⟨b, fun _ _ h => h, fun _ _ => rfl⟩⟩
  · rw [upd_ne (fun (e : a = p) => hi (e ▸ List.mem_of_getElem? m))]; exact s.out i a m l
  · obtain ⟨h1, h2, h3⟩ := s.pro a m
    refine ⟨h1, ?_, h3⟩
    rw [upd_ne (fun (e : a = p) => hf (e ▸ m))]; exact h2
/-- a new object, frozen at once -/
theorem HSt.new (s : HSt K F B ι H κ) {p : Addr} {o : HO} (h : H p = none) : HSt K F (upd B p o) ι (upd H p o) κ ∧ Grow F B ι H (upd B p o) ι (upd H p o) := by
  have hb : B p = none := by
    cases q : B p with
    | none => rfl
    | some u => rw [s.ex _ _ q] at h; cases h
  have hi : ∀ a, (∃ o, H a = some o) → a ≠ p := fun a ⟨o, e⟩ => ne_of_none e h
  have b : Same B (upd B p o) := Same.updNew hb
  refine ⟨⟨fun a u e => ?_, s.len, s.nd, fun i a m l => ?_, fun a m => ?_, fun i a cl e1 e2 => ?_, fun a m => ?_, fun q m => let t := s.tb q m; t.to b (upd_ne (t.nn h)) (by rw [upd_ne (t.nn h)]; exact t.2.1) t.2.2.1 t.2.2.2⟩, ⟨b, fun _ _ h => h, fun a m => upd_ne (hi a (s.pro a m).1)⟩⟩
  · by_cases q : a = p
    · subst q; rw [upd_same] at e ⊢; exact e
    · rw [upd_ne q] at e ⊢; exact s.ex a u e
  · rw [upd_ne (hi a (s.tr a (List.mem_of_getElem? m)))]; exact s.out i a m l
  · obtain ⟨h1, h2, h3⟩ := s.pro a m
    refine ⟨?_, ?_, h3⟩
    · rw [upd_ne (hi a h1)]; exact h1
    · rw [upd_ne (hi a h1)]; exact h2
  · exact (s.cel i a cl e1 e2).mono b (fun _ _ h => h) (upd_ne (hi a (s.tr a (List.mem_of_getElem? e1))))
  · rw [upd_ne (hi a (s.tr a m))]; exact s.tr a m
/-- a new object, known, neither frozen nor a cell so far -/
theorem HSt.loose (s : HSt K F B ι H κ) {p : Addr} {o : HO} (h : H p = none) : HSt K F B ι (upd H p o) κ ∧ Grow F B ι H B ι (upd H p o) ∧ B p = none ∧ p ∉ ι ∧ p ∉ F := by
  have hb : B p = none := by
    cases q : B p with
    | none => rfl
    | some u => rw [s.ex _ _ q] at h; cases h
  have hi : ∀ a, (∃ o, H a = some o) → a ≠ p := fun a ⟨o, e⟩ => ne_of_none e h
  refine ⟨⟨fun a u e => ?_, s.len, s.nd, s.out, fun a m => ?_, fun i a cl e1 e2 => ?_, fun a m => ?_, fun q m => let t := s.tb q m; t.to (Same.refl _) (upd_ne (t.nn h)) t.2.1 t.2.2.1 t.2.2.2⟩, ⟨Same.refl _, fun _ _ h => h, fun a m => upd_ne (hi a (s.pro a m).1)⟩, hb, fun m => ?_, fun m => ?_⟩
  · rw [upd_ne (hi a ⟨_, s.ex a u e⟩)]; exact s.ex a u e
  · obtain ⟨h1, h2, h3⟩ := s.pro a m
    refine ⟨?_, h2, h3⟩
    rw [upd_ne (hi a h1)]; exact h1
  · exact (s.cel i a cl e1 e2).mono (Same.refl _) (fun _ _ h => h) (upd_ne (hi a (s.tr a (List.mem_of_getElem? e1))))
  · rw [upd_ne (hi a (s.tr a m))]; exact s.tr a m
  · obtain ⟨o, e⟩ := s.tr p m; rw [h] at e; cases e
  · obtain ⟨⟨o, e⟩, _⟩ := s.pro p m; rw [h] at e; cases e
/-- a new value -/
theorem HSt.newN (s : HSt K F B ι H κ) {p : Addr} {vs : List V} {xs : List D} (h : H p = none) (r : RpAll K B vs xs) :
    HSt K F B ι (upd H p (.lst vs)) κ ∧ Grow F B ι H B ι (upd H p (.lst vs)) ∧ VOk K F B ι (upd H p (.lst vs)) (.ref p) (.n xs) := by
  obtain ⟨h1, h2, h3, h4, h5⟩ := s.loose (o := .lst vs) h
  exact ⟨h1, h2, p, vs, rfl, upd_same, h3, h4, h5, r⟩
/-- a held value, while others run -/
theorem HSt.hold (s : HSt K F B ι H κ) (w : VOk K F B ι H v x) : ∃ F', (∀ a ∈ F, a ∈ F') ∧ HSt K F' B ι H κ ∧
    ∀ {B' : Hp} {ι' : List Addr} {H' : Hp} {κ' : Kap}, Grow F' B ι H B' ι' H' → HSt K F' B' ι' H' κ' → VOk K F B' ι' H' v x ∧ HSt K F B' ι' H' κ' ∧ Grow F B ι H B' ι' H' := by
  cases x with
  | d x => exact ⟨F, fun _ m => m, s, fun g h => ⟨Rp.mono g.b w, h, g⟩⟩
  | c i => exact ⟨F, fun _ m => m, s, fun g h => ⟨(show WOk K B ι v (.c i) from w).grow g, h, g⟩⟩
  | n xs =>
    obtain ⟨p, vs, e, h1, h2, h3, h4, r⟩ := w
    refine ⟨p :: F, fun _ m => List.mem_cons_of_mem _ m, ⟨s.ex, s.len, s.nd, s.out, fun a m => ?_, s.cel, s.tr, fun q m => let t := s.tb q m; t.to (Same.refl _) rfl t.2.1 t.2.2.1 fun z => (List.mem_cons.mp z).elim (t.ne h1 (by intro _ z; cases z)) t.2.2.2⟩, fun g h => ?_⟩
    · rcases List.mem_cons.mp m with rfl | m
      · exact ⟨⟨_, h1⟩, h2, h3⟩
      · exact s.pro a m
    · obtain ⟨⟨o, e1⟩, e2, e3⟩ := h.pro p (List.mem_cons_self ..)
      exact ⟨⟨p, vs, e, (g.fr p (List.mem_cons_self ..)).trans h1, e2, e3, h4, r.mono g.b⟩, h.less fun _ m => List.mem_cons_of_mem _ m, g.less fun _ m => List.mem_cons_of_mem _ m⟩
/-- a value frozen -/
def fz : DV → DV
  | .n xs => .d (.list xs)
  | x => x
theorem HSt.fz (s : HSt K F B ι H κ) (w : VOk K F B ι H v x) : ∃ B', HSt K F B' ι H κ ∧ Grow F B ι H B' ι H ∧ WOk K B' ι v (fz x) := by
  cases x with
  | d x => exact ⟨B, s, Grow.refl, w⟩
  | c i => exact ⟨B, s, Grow.refl, w⟩
  | n xs =>
    obtain ⟨p, vs, rfl, h1, h2, h3, h4, r⟩ := w
    obtain ⟨a, b⟩ := s.frz h1 h2 h3 h4
    exact ⟨_, a, b, .lst upd_same (r.mono b.b)⟩
end

/-! ### readings -/
section
variable (K : PySem.W.Frag) (mg : Str → Option Value) (E : XK)
/-- an exception of the mirror is wanted -/
def XW (F : List Addr) (B : Hp) (ι : List Addr) (H : Hp) (n : Str) (fs : Fs) (κ' : Kap) : Prop :=
  ∀ C d B' ι' H' ws, mg n = some (.ref C) → Grow F B ι H B' ι' H' → HSt K F B' ι' H' κ' → H' d = some (.xd ws) → Paired (fun (p : Str × V) (q : Str × D) => p.1 = q.1 ∧ Rp K B' p.2 q.2) ws fs → E (.ref C) (some d) H'
def PostE (F : List Addr) (B : Hp) (ι : List Addr) (H : Hp) (Q : VK) : Out DV → Prop
  | .ok x κ' => ∀ v B' ι' H', Grow F B ι H B' ι' H' → HSt K F B' ι' H' κ' → VOk K F B' ι' H' v x → Q v H'
  | .ex n fs κ' => XW K mg E F B ι H n fs κ'
  | .bad => False
def PostT (F : List Addr) (B : Hp) (ι : List Addr) (H : Hp) (Q : Bool → Hp → Prop) : Out Bool → Prop
  | .ok x κ' => ∀ B' ι' H', Grow F B ι H B' ι' H' → HSt K F B' ι' H' κ' → Q x H'
  | .ex n fs κ' => XW K mg E F B ι H n fs κ'
  | .bad => False
def PostA (F : List Addr) (B : Hp) (ι : List Addr) (H : Hp) (Q : List V → Hp → Prop) : Out (List DV) → Prop
  | .ok xs κ' => ∀ vs B' ι' H', Grow F B ι H B' ι' H' → HSt K F B' ι' H' κ' → Paired (WOk K B' ι') vs xs → Q vs H'
  | .ex n fs κ' => XW K mg E F B ι H n fs κ'
  | .bad => False
def PostS (F : List Addr) (B : Hp) (ι : List Addr) (H : Hp) (De : Ends) : OutS → Prop
  | .nx ρ' κ' => ∀ σ' B' ι' H', Grow F B ι H B' ι' H' → SOk K F B' ι' σ' H' ρ' κ' → De.nx σ' H'
  | .bk ρ' κ' => ∀ σ' B' ι' H', Grow F B ι H B' ι' H' → SOk K F B' ι' σ' H' ρ' κ' → De.bk σ' H'
  | .ct ρ' κ' => ∀ σ' B' ι' H', Grow F B ι H B' ι' H' → SOk K F B' ι' σ' H' ρ' κ' → De.ct σ' H'
  | .rt x κ' => ∀ v B' ι' H', Grow F B ι H B' ι' H' → HSt K F B' ι' H' κ' → VOk K F B' ι' H' v x → De.rt v H'
  | .ex n fs κ' => XW K mg E F B ι H n fs κ'
  | .bad => False
def tM (m : ME) : TE := fun σ H Q => ∃ F B ι ρ κ, SOk K F B ι σ H ρ κ ∧ PostE K mg E F B ι H Q (m ρ κ)
def tT (m : MT) : TT := fun σ H Q => ∃ F B ι ρ κ, SOk K F B ι σ H ρ κ ∧ PostT K mg E F B ι H Q (m ρ κ)
def tA (m : MA) : TA := fun σ H Q => ∃ F B ι ρ κ, SOk K F B ι σ H ρ κ ∧ PostA K mg E F B ι H Q (m ρ κ)
def tS (m : MS) : TS := fun De σ H => ∃ F B ι ρ κ, SOk K F B ι σ H ρ κ ∧ PostS K mg E F B ι H De (m ρ κ)
end
abbrev JE (X : Cx) (E : XK) (e : Expr) (m : ME) : Prop := PE X e (tM X.K X.mg E m)
abbrev JT (X : Cx) (E : XK) (e : Expr) (m : MT) : Prop := PT X e (tT X.K X.mg E m)
abbrev JW (X : Cx) (E : XK) (e : Expr) (m : MT) : Prop := PW X e (tT X.K X.mg E m)
abbrev JA (X : Cx) (E : XK) (es : List Expr) (m : MA) : Prop := PA X es (tA X.K X.mg E m)
abbrev JS (X : Cx) (E : XK) (st : Stmt) (m : MS) : Prop := PS X st (tS X.K X.mg E m)
abbrev JSs (X : Cx) (E : XK) (st : List Stmt) (m : MS) : Prop := PSs X st (tS X.K X.mg E m)
section
variable {X : Cx}
theorem pe_imp {e : Expr} {t t' : TE} (h : PE X e t) (i : ∀ σ H Q, t' σ H Q → t σ H Q) : PE X e t' := ⟨fun pins s σ H Q I q => h.run pins s σ H Q I (i σ H Q q)⟩
theorem pt_imp {e : Expr} {t t' : TT} (h : PT X e t) (i : ∀ σ H Q, t' σ H Q → t σ H Q) : PT X e t' := ⟨fun pins s σ H Q I q => h.run pins s σ H Q I (i σ H Q q)⟩
theorem pw_imp {e : Expr} {t t' : TT} (h : PW X e t) (i : ∀ σ H Q, t' σ H Q → t σ H Q) : PW X e t' := ⟨fun w pins s σ H Q I q => h.run w pins s σ H Q I (i σ H Q q)⟩
theorem pa_imp {e : List Expr} {t t' : TA} (h : PA X e t) (i : ∀ σ H Q, t' σ H Q → t σ H Q) : PA X e t' := ⟨fun p pins s σ H Q I q => h.run p pins s σ H Q I (i σ H Q q)⟩
theorem ps_imp {e : Stmt} {t t' : TS} (h : PS X e t) (i : ∀ De σ H, t' De σ H → t De σ H) : PS X e t' := ⟨fun pins s σ H De I q => h.run pins s σ H De I (i De σ H q)⟩
theorem pss_imp {e : List Stmt} {t t' : TS} (h : PSs X e t) (i : ∀ De σ H, t' De σ H → t De σ H) : PSs X e t' := ⟨fun pins s σ H De I q => h.run pins s σ H De I (i De σ H q)⟩
end
end DL

namespace DL
open L2 PyProof.Rows PySem PySem.Spec

/-! ### defs, where it is known that no repr runs around -/
structure FnG (P : Program) (w : World) (K : PySem.W.Frag) (mg : Str → Option Value) (base : Heap) (CX : CXT) (k : Nat) (f : Addr) (fd : FuncData) (ps : List Str) (sp : Sp) : Prop where
  len : ∀ vs H Q E, sp vs H Q E → vs.length = ps.length
  go : ∀ (A : Around) (outer : List Env) (s : Shared) (H : Hp) (args : Args) (us : List Value) (vs : List V) (Q : VK) (E : XK), A.guards = some [] → Room k A →
    Env0 P w K mg base A outer s H → BindsTo s fd args (ps.zip us) → Vals vs us → sp vs H Q E → codeAny (model P w) A (.call (.ref f) args) (CR CX outer P w H s Q E) s
theorem FnG.more {P : Program} {w : World} {K : PySem.W.Frag} {mg : Str → Option Value} {base : Heap} {CX : CXT} {j k : Nat} {f : Addr} {fd : FuncData} {ps : List Str} {sp : Sp} (F : FnG P w K mg base CX j f fd ps sp) (h : j ≤ k) : FnG P w K mg base CX k f fd ps sp :=
  ⟨F.len, fun A outer s H args us vs Q E g r => F.go A outer s H args us vs Q E g (r.mono h)⟩
/-- the rule: a def by its body -/
theorem fnG {CX : CXT} {P : Program} {w : World} {K : PySem.W.Frag} {mg : Str → Option Value} {base : Heap} {k : Nat} {f : Addr} {fd : FuncData} {st : Stmt} {name qual : Str} {N ps : List Str} {sp : Sp}
    (Fu : Fun K name qual st f fd) (S : FnScope N ps (defScope st)) (len : ∀ vs H Q E, sp vs H Q E → vs.length = ps.length)
    (body : ∀ (cdv : Value) (A : Around) (outer : List Env) (s : Shared) (H : Hp) (vs : List V) (Q : VK) (E : XK), A.guards = some [] → Room k (A.deeper (envOfC qual (defScope st) s.heap.objs.size f cdv)) → sp vs H Q E →
      ∃ t, PSs (cxOf CX P w K mg base N qual (defScope st) f cdv A outer s H E) (defBody st) t ∧ t { nx := fun _ H' => Q .non H', rt := Q } (L2.start N vs) H) : FnG P w K mg base CX (k + 1) f fd ps sp := by
  obtain ⟨oc, od, kV, doc, pm, an, cdv, ct, osl, rfl, look, code⟩ := Fu.ex
  refine ⟨len, fun A outer s H args us vs Q E gu room en bi va pr => ?_⟩
  have inS : ∀ b o, base.get? b = some o → s.heap.get? b = some o := fun b o e => (en.bs b o e).1
  have kin : K.In s.heap := en.mod.kin.keeps inS
  have kinds : ∀ y ∈ ps.zip us, (defScope st).names.lookup y.1 = some .local ∨ ((defScope st).names.lookup y.1 = some .cell ∧ ((cellsFrom (s.heap.objs.size + 1) (defScope st).names []).lookup y.1).isSome = true) := by
    rintro ⟨n, v⟩ my
    cases S.par n (List.of_mem_zip my).1 with
    | inl q => exact .inl q
    | inr q => exact .inr ⟨q, PySem.W.cellsFrom_some _ _ _ (.inl q)⟩
  refine codeAny_call_function room.depth (kin _ _ look) rfl S.co S.gen rfl (PySem.W.codeRec_of kin code) (bi _ _ _ _ (wpAny_newFunctionEnv_cells S.kind kinds fun env ee s1 x => ?_))
  subst ee
  refine ⟨(en.mod.nolimit.keeps inS).keeps x.toInCall.keep, codeAny_func ?_⟩
  obtain ⟨t, run, reads⟩ := body cdv A outer s H vs Q E gu (room.deeper _) pr
  have start := inv_start (CX := CX) (E := E) (cd := cdv) (f := f) (qual := qual) S room.hd en (len _ _ _ _ pr) va x
  refine wpAny_mono (run.run [] s1 _ H _ start reads) (fun fl s' h => ?_) fun _ _ h => h
  have back : ∀ {σ' : L2.St} {H' : Hp} {v : V} {u : Value}, Inv (cxOf CX P w K mg base N qual (defScope st) f cdv A outer s H E) [] σ' H' s' → RelV v u → Q v H' → CE outer P w H s Q u s' := by
    intro σ' H' v u J rv q
    exact ⟨v, H', J.os, J.bare, J.base, J.hok, rv, q⟩
  match fl, h with
  | .ret u, ⟨v, σ', H', J, rv, q⟩ => exact back J rv q
  | .next, ⟨σ', H', J, q⟩ => exact back (v := .non) (u := .none) J rfl q
  | .brk, ⟨_, _, _, q⟩ => exact False.elim q
  | .cont, ⟨_, _, _, q⟩ => exact False.elim q
section
variable {X : Cx} {CX : CXT} {k : Nat} {f : Addr} {fd : FuncData} {ps ks : List Str} {sp : Sp} {dvs : List V} {ds : List Value} {E : XK} {x : Str} {p pos : Pos} {e : Expr} {es : List Expr} {kws : List Keyword} {t tk : TA}
theorem goes {pins : List (Addr × Obj)} {σ : L2.St} {H : Hp} {s : Shared} {Q : VK} {us : List Value} {kw : List (Str × Value)} {all : List Value} {vs : List V} (F : FnG X.prog X.w X.K X.mg X.base CX k f fd ps sp) (gu : X.A.guards = some []) (hr : Room k X.A)
    (hb : all.length = ps.length → BindsTo s fd ⟨us, kw⟩ (ps.zip all)) (hx : Passes CX X E) (I : Inv X pins σ H s) (r : Vals vs all) (h : sp vs H Q E) : wpAny (model X.prog X.w) X.A (call (.ref f) us kw) (EP X pins σ Q) X.xe s := by
  refine wpAny_call (codeAny_mono (F.go X.A X.stack s H ⟨us, kw⟩ all vs Q E gu hr I.env0 (hb (r.length.symm.trans (F.len _ _ _ _ h))) r h) ?_)
  rintro (er | fl) s' q
  · exact hx pins σ H s er s' I q
  · match fl, q with
    | .ret u, q => exact I.after q
    | .next, q => exact False.elim q
    | .brk, q => exact False.elim q
    | .cont, q => exact False.elim q
theorem pe_callG (F : FnG X.prog X.w X.K X.mg X.base CX k f fd ps sp) (gu : X.A.guards = some []) (hr : Room k X.A) (hg : Gl X x) (hm : X.mg x = some (.ref f)) (hk : PySem.W.keepIn X.K (.ref f) = true) (hb : Binds X.K fd ps ds) (hd : Vals dvs ds) (hx : Passes CX X E)
    (ha : PA X (e :: es) t) (hdb : (x == ("__debug__" : Str)) = false := by decide) (he : starEach (e :: es) X.env = (false, eval e X.env) :: starEach es X.env := by rfl) (hpl : (backTo pos (starEach es X.env)).any (·.1) = false := by rfl) :
    PE X (.Call (.Name x p) (e :: es) [] pos) (tCall sp dvs E t) := by
  constructor
  intro pins s σ H Q I h
  refine wpAny_Call_Name_kw (ld_glob I hg hm (PySem.W.callWith_K (h₀ := X.base) I.ok.mod.kin hk (thn (ha.run pos pins s σ H _ I h) ?_) he hpl) hdb)
  rintro us s1 ⟨vs, H1, I1, r, q⟩
  exact ⟨I1.kIn, goes F gu hr (fun l => hb s1 us I1.kIn l) hx I1 (r.append hd) q⟩
theorem pe_call0G (F : FnG X.prog X.w X.K X.mg X.base CX k f fd ps sp) (gu : X.A.guards = some []) (hr : Room k X.A) (hg : Gl X x) (hm : X.mg x = some (.ref f)) (hk : PySem.W.keepIn X.K (.ref f) = true) (hb : Binds X.K fd ps ds) (hd : Vals dvs ds) (hx : Passes CX X E)
    (hdb : (x == ("__debug__" : Str)) = false := by decide) : PE X (.Call (.Name x p) [] [] pos) (tCall sp dvs E tNil) := by
  constructor
  intro pins s σ H Q I h
  have r : Vals ([] ++ dvs) ([] ++ ds) := Vals.append Paired.nil hd
  exact wpAny_Call_Name_kw (ld_glob I hg hm (PySem.W.callWith_K0 I.kIn hk (goes F gu hr (fun l => hb s [] I.kIn l) hx I r h)) hdb)
end
/-! ### the law's own call -/
/-- the script alone is known -/
def hScr (K : PySem.W.Frag) (a : Addr) (ob : Obj) (vs : List V) : Hp := fun b => if b = a ∧ K.lookup a = none then some (.frz ob (.lst vs)) else none
theorem hScr_some {K : PySem.W.Frag} {a b : Addr} {ob : Obj} {vs : List V} {o : HO} (e : hScr K a ob vs b = some o) : b = a ∧ K.lookup a = none ∧ o = .frz ob (.lst vs) := by
  unfold hScr at e
  split at e
  · rename_i h; cases e; exact ⟨h.1, h.2, rfl⟩
  · cases e
theorem lawG {P : Program} {w : World} {K : PySem.W.Frag} {mg mb : Str → Option Value} {k : Nat} {fa a : Addr} {fd : FuncData} {x : Str} {sp : Sp} {s₁ : Shared} {its : List Value} {ns : List Int} {CX : CXT}
    (kin : K.In s₁.heap) (hns : s₁.heap.Ns mainGlobals mg) (hmb : s₁.heap.Ns builtinsNs mb) (hbo : ∀ x : Str, x ≠ "__name__" → mb x = bootBuiltins x) (hlim : s₁.heap.NoLimit) (hge : s₁.gens = #[])
    (hat : s₁.heap.get? a = some { cls := .type "list", data := .seq its.toArray }) (hin : IntsAre its ns) (hle : ns.length ≤ sizeLine) (room : Room k callerA)
    (F : ∀ base : Heap, K.In base → base.Ns mainGlobals mg → FnG P w K mg base CX k fa fd [x] sp) (hbi : ∀ (s : Shared) (u : Value), BindsTo s fd ⟨[u], []⟩ [(x, u)])
    (prom : ∀ H : Hp, SqL K H a (ns.map V.int) → sp [.ref a] H (fun v _ => v = .bl true) fun _ _ _ => False) (hCX : ∀ H e s', CX [] H s₁ (fun _ _ _ => False) e s' → False) :
    codeAny (model P w) callerA (.call (.ref fa) ⟨[.ref a], []⟩) (fun r s' => r = .ok (.ret (.bool true)) ∧ OldK s₁.heap s'.heap ∧ s'.os = s₁.os ∧ AllBare s'.gens) s₁ := by
  have rel := vals_of_ints hin
  have same : ns.length = its.length := hin.length.symm
  -- the abstract heap
  let H : Hp := hScr K a { cls := .type "list", data := .seq its.toArray } (ns.map V.int)
  have seen : SqL K H a (ns.map V.int) := by
    cases hk : K.lookup a with
    | none => exact .inl (.inr ⟨_, if_pos ⟨rfl, hk⟩⟩)
    | some o =>
      have e := kin a o hk
      rw [hat] at e
      cases e
      exact .inr ⟨_, its.toArray, _, hk, rfl, rfl, rfl, by rw [List.size_toArray, ← same]; exact hle, by rw [List.toList_toArray]; exact rel⟩
  have hok : HOk P w H s₁.heap := fun b o e => by
    obtain ⟨rfl, _, rfl⟩ := hScr_some e
    exact ⟨hat, by rw [List.length_map]; exact hle, its, _, rel, hat⟩
  have hid : ∀ {b : Addr} {o : Obj}, s₁.heap.get? b = some o → (b = a → K.lookup a ≠ none) → (hidT s₁.heap H).get? b = some o := fun {b o} e n => hidT_get e (by
    cases q : H b with
    | none => rfl
    | some u => obtain ⟨h1, h2, _⟩ := hScr_some q; exact absurd h2 (n h1))
  have nsH : ∀ {b : Addr} {m : Str → Option Value}, s₁.heap.Ns b m → (hidT s₁.heap H).Ns b m := by
    rintro b m ⟨o, es, ep, e, d, r⟩
    refine ⟨o, es, ep, hid e fun z => ?_, d, r⟩
    subst z
    rw [hat] at e
    cases e
    exact nomatch d
  have kinH : K.In (hidT s₁.heap H) := fun b o e => hid (kin b o e) fun z n => by rw [z, n] at e; cases e
  have mod : Mod K mg (hidT s₁.heap H) := ⟨kinH, nsH hns, ⟨mb, nsH hmb, hbo⟩, let ⟨mc, h1, h2⟩ := hlim; ⟨mc, nsH h1, h2⟩⟩
  have env : Env0 P w K mg (hidT s₁.heap H) callerA [] s₁ H := ⟨rfl, mod, fun b o e => of_hidT e, Nat.le_of_eq (hidT_size _ _), trivial, (fun b hb => absurd hb (by simp [frs])), hok, .of_eq hge⟩
  refine codeAny_mono ((F _ kinH (nsH hns)).go callerA [] s₁ H ⟨[.ref a], []⟩ [.ref a] [.ref a] _ _ rfl room env (hbi s₁ (.ref a)) (.cons rfl .nil) (prom H seen)) ?_
  rintro (er | fl) s' h
  · exact (hCX H er s' h).elim
  · match fl, h with
    | .next, h => exact False.elim h
    | .brk, h => exact False.elim h
    | .cont, h => exact False.elim h
    | .ret u, ⟨v, H', os, bare, un, hok', r', q⟩ =>
      have q' : v = .bl true := q
      subst q'
      obtain rfl : u = Value.bool true := r'
      refine ⟨rfl, OldK.of_keep fun b o e => ?_, os, bare⟩
      cases q : H b with
      | none => exact un.keep b o e q (by simp [frs]) (by simp)
      | some u =>
        obtain ⟨_, _, rfl⟩ := hScr_some q
        have e2 := (hok' b _ (un.frzs b _ _ q)).1
        have e1 := (hok b _ q).1
        rw [e] at e1
        cases e1
        exact e2
theorem walkG {l : PySem.W.OpenLaw} {n k : Nat} {q : Program} {loose : List Str} {XP : (Str → Option Value) → Heap → Prop} {YP : World → Heap → Prop} {d : DefRec} {K : Params → PySem.W.Frag} {CX : World → CXT} {sp : World → (Str → Option Value) → Sp} {x : Str}
    (hn : l.most = some n) (hn2 : n ≤ sizeLine) (hdf : d.params.defaults = []) (room : Room k callerA) (hY : ∀ (w : World) (h : Heap), YP w h → (K w.params).In h)
    (F : ∀ (w : World) (mg : Str → Option Value) (fa : Addr) (h : Heap), (K w.params).In h → h.Ns mainGlobals mg → mg d.name = some (.ref fa) → ∃ fd : FuncData, (∀ (s : Shared) (u : Value), BindsTo s fd ⟨[u], []⟩ [(x, u)]) ∧
        ∀ base : Heap, (K w.params).In base → base.Ns mainGlobals mg → FnG l.prog w (K w.params) mg base (CX w) k fa fd [x] (sp w mg))
    (prom : ∀ (w : World) (mg : Str → Option Value) (H : Hp) (a : Addr) (ns : List Int), ns.length ≤ n → SqL (K w.params) H a (ns.map V.int) → sp w mg [.ref a] H (fun v _ => v = .bl true) fun _ _ _ => False)
    (hCX : ∀ (w : World) (H : Hp) (s : Shared) (e : Value) (s' : Shared), CX w [] H s (fun _ _ _ => False) e s' → False) :
    PySem.W.WalkO q loose XP YP l.row.toRowW d [] (fun f vs => PySem.call f vs) := by
  refine Att.attach_call hn hdf fun w s₀ s₁ mg mb fa o pm cd doc a its ns G Y ho hd hcd hmg hobj hi hlen hge => ?_
  obtain ⟨fd, hb, hF⟩ := F w mg fa _ (hY w _ Y) G.T.g hmg
  exact lawG (hY w _ Y) G.T.g G.T.b G.T.builtins G.T.nolimit hge hobj hi (Nat.le_trans hlen hn2) room hF hb (fun H h => prom w mg H a ns hlen h) fun H e s' => hCX w H s₁ e s'
end DL

namespace DL
open L2 PyProof.Rows PySem PySem.Spec

section
variable {K : PySem.W.Frag} {mg : Str → Option Value} {E : XK} {F F' : List Addr} {B B' B1 : Hp} {ι ι' ι1 : List Addr} {σ : L2.St} {H H' H1 : Hp} {ρ : Rho} {κ κ' κ1 : Kap} {n : Str} {fs : Fs}
theorem XW.grow (h : XW K mg E F B ι H n fs κ') (g : Grow F B ι H B1 ι1 H1) (hF : ∀ a ∈ F, a ∈ F') : XW K mg E F' B1 ι1 H1 n fs κ' :=
  fun C d B' ι' H' ws m g1 s e p => h C d B' ι' H' ws m (g.trans (g1.less hF)) (s.less hF) e p
theorem VOk.less {v : V} {x : DV} (hF : ∀ a ∈ F, a ∈ F') (h : VOk K F' B ι H v x) : VOk K F B ι H v x := by
  cases x with
  | d x => exact h
  | c i => exact h
  | n xs => obtain ⟨p, vs, e, h1, h2, h3, h4, r⟩ := h; exact ⟨p, vs, e, h1, h2, h3, fun m => h4 (hF p m), r⟩
theorem PostE.grow {Q : VK} {o : Out DV} (h : PostE K mg E F B ι H Q o) (g : Grow F B ι H B1 ι1 H1) : PostE K mg E F B1 ι1 H1 Q o := by
  cases o with
  | ok x κ' => exact fun v B' ι' H' g1 s w => h v B' ι' H' (g.trans g1) s w
  | ex n fs κ' => exact XW.grow h g fun _ m => m
  | bad => exact h
theorem PostT.grow {Q : Bool → Hp → Prop} {o : Out Bool} (h : PostT K mg E F B ι H Q o) (g : Grow F B ι H B1 ι1 H1) : PostT K mg E F B1 ι1 H1 Q o := by
  cases o with
  | ok x κ' => exact fun B' ι' H' g1 s => h B' ι' H' (g.trans g1) s
  | ex n fs κ' => exact XW.grow h g fun _ m => m
  | bad => exact h
theorem PostA.grow {Q : List V → Hp → Prop} {o : Out (List DV)} (h : PostA K mg E F B ι H Q o) (g : Grow F B ι H B1 ι1 H1) : PostA K mg E F B1 ι1 H1 Q o := by
  cases o with
  | ok x κ' => exact fun v B' ι' H' g1 s w => h v B' ι' H' (g.trans g1) s w
  | ex n fs κ' => exact XW.grow h g fun _ m => m
  | bad => exact h
theorem PostS.grow {De : Ends} {o : OutS} (h : PostS K mg E F B ι H De o) (g : Grow F B ι H B1 ι1 H1) : PostS K mg E F B1 ι1 H1 De o := by
  cases o with
  | nx ρ' κ' => exact fun v B' ι' H' g1 s => h v B' ι' H' (g.trans g1) s
  | bk ρ' κ' => exact fun v B' ι' H' g1 s => h v B' ι' H' (g.trans g1) s
  | ct ρ' κ' => exact fun v B' ι' H' g1 s => h v B' ι' H' (g.trans g1) s
  | rt x κ' => exact fun v B' ι' H' g1 s w => h v B' ι' H' (g.trans g1) s w
  | ex n fs κ' => exact XW.grow h g fun _ m => m
  | bad => exact h

theorem SOk.step (s : SOk K F B ι σ H ρ κ) (g : Grow F B ι H B1 ι1 H1) (h : HSt K F' B1 ι1 H1 κ1) : SOk K F' B1 ι1 σ H1 ρ κ1 :=
  ⟨h, s.sl, fun i x e => let ⟨v, e1, w⟩ := s.loc i x e; ⟨v, e1, w.grow g⟩⟩
/-- evaluate, then go on -/
theorem evE {m : ME} {Q : VK} (s : SOk K F B ι σ H ρ κ)
    (hok : ∀ x κ1, m ρ κ = .ok x κ1 → ∀ v B1 ι1 H1, Grow F B ι H B1 ι1 H1 → HSt K F B1 ι1 H1 κ1 → VOk K F B1 ι1 H1 v x → Q v H1)
    (hex : ∀ n fs κ1, m ρ κ = .ex n fs κ1 → XW K mg E F B ι H n fs κ1) (hb : m ρ κ ≠ .bad) : tM K mg E m σ H Q := by
  refine ⟨F, B, ι, ρ, κ, s, ?_⟩
  cases e : m ρ κ with
  | ok x κ1 => exact hok x κ1 e
  | ex n fs κ1 => exact hex n fs κ1 e
  | bad => exact hb e
theorem evT {m : MT} {Q : Bool → Hp → Prop} (s : SOk K F B ι σ H ρ κ)
    (hok : ∀ x κ1, m ρ κ = .ok x κ1 → ∀ B1 ι1 H1, Grow F B ι H B1 ι1 H1 → HSt K F B1 ι1 H1 κ1 → Q x H1)
    (hex : ∀ n fs κ1, m ρ κ = .ex n fs κ1 → XW K mg E F B ι H n fs κ1) (hb : m ρ κ ≠ .bad) : tT K mg E m σ H Q := by
  refine ⟨F, B, ι, ρ, κ, s, ?_⟩
  cases e : m ρ κ with
  | ok x κ1 => exact hok x κ1 e
  | ex n fs κ1 => exact hex n fs κ1 e
  | bad => exact hb e
theorem evA {m : MA} {Q : List V → Hp → Prop} (s : SOk K F B ι σ H ρ κ)
    (hok : ∀ x κ1, m ρ κ = .ok x κ1 → ∀ v B1 ι1 H1, Grow F B ι H B1 ι1 H1 → HSt K F B1 ι1 H1 κ1 → Paired (WOk K B1 ι1) v x → Q v H1)
    (hex : ∀ n fs κ1, m ρ κ = .ex n fs κ1 → XW K mg E F B ι H n fs κ1) (hb : m ρ κ ≠ .bad) : tA K mg E m σ H Q := by
  refine ⟨F, B, ι, ρ, κ, s, ?_⟩
  cases e : m ρ κ with
  | ok x κ1 => exact hok x κ1 e
  | ex n fs κ1 => exact hex n fs κ1 e
  | bad => exact hb e
theorem evS {m : MS} {De : Ends} (s : SOk K F B ι σ H ρ κ)
    (hnx : ∀ ρ1 κ1, m ρ κ = .nx ρ1 κ1 → ∀ σ' B1 ι1 H1, Grow F B ι H B1 ι1 H1 → SOk K F B1 ι1 σ' H1 ρ1 κ1 → De.nx σ' H1)
    (hel : (∀ ρ1 κ1, m ρ κ ≠ .nx ρ1 κ1) → PostS K mg E F B ι H De (m ρ κ)) : tS K mg E m De σ H := by
  refine ⟨F, B, ι, ρ, κ, s, ?_⟩
  cases e : m ρ κ with
  | nx ρ1 κ1 => exact hnx ρ1 κ1 e
  | _ => rw [← e]; exact hel fun _ _ q => by rw [e] at q; cases q
theorem evOk {x : DV} {Q : VK} {v : V} (h : PostE K mg E F B ι H Q (.ok x κ1)) (g : Grow F B ι H B1 ι1 H1) (s : HSt K F B1 ι1 H1 κ1) (w : VOk K F B1 ι1 H1 v x) : Q v H1 := h v B1 ι1 H1 g s w
end

/-! ### names, constants -/
def mVar (i : Nat) : ME := fun ρ κ => match ρ[i]? with
  | some (some x) => .ok x κ
  | _ => .bad
def mC (d : D) : ME := fun _ κ => .ok (.d d) κ
section
variable {X : Cx} {E : XK}
theorem je_var (i : Nat) {x : Str} {pos : Pos} (hN : X.N[i]? = some x := by rfl) (hv : Vis X.env.scope x := by first | exact Or.inl rfl | exact Or.inr (Or.inl rfl) | exact Or.inr (Or.inr rfl)) (hd : (x == ("__debug__" : Str)) = false := by decide)
    (hcd : (x == ("__classdict__" : Str)) = false := by decide) : JE X E (.Name x pos) (mVar i) :=
  pe_imp (pe_var hN hv hd hcd) fun σ H Q ⟨F, B, ι, ρ, κ, s, h⟩ => by
    unfold mVar at h
    split at h
    · rename_i x e
      obtain ⟨v, e1, w⟩ := s.loc i x e
      exact ⟨v, e1, h v B ι H Grow.refl s.hs w.toV⟩
    · exact h.elim
theorem je_c {e : Expr} {v : V} {d : D} (h : PE X e (tC v)) (r : ∀ H, Rp X.K H v d) : JE X E e (mC d) :=
  pe_imp h fun σ H Q ⟨F, B, ι, ρ, κ, s, h⟩ => h v B ι H Grow.refl s.hs (r B)
theorem je_int {i : Int} {j pos} : JE X E (.Constant (.int i) j pos) (mC (.int i)) := je_c pe_int fun _ => .int i
theorem je_bl {b : Bool} {j pos} : JE X E (.Constant (.bool b) j pos) (mC (.bool b)) := je_c pe_bl fun _ => .bl b
theorem je_non {j pos} : JE X E (.Constant .none j pos) (mC .none) := je_c pe_non fun _ => .non
theorem je_str {x : Str} {j pos} : JE X E (.Constant (.str x) j pos) (mC (.str x)) := je_c pe_str fun _ => .str x
theorem je_gl {x : Str} {v : V} {d : D} {u : Value} {pos : Pos} (hg : Gl X x) (hm : X.mg x = some u) (r : RelV v u) (q : ∀ H, Rp X.K H v d) (hd : (x == ("__debug__" : Str)) = false := by decide) : JE X E (.Name x pos) (mC d) :=
  je_c (pe_glob hg hm r hd) q
end

/-! ### two values, one operation -/
def BinI (K : PySem.W.Frag) (r : R2) (f : Kap → DV → DV → Option DV) : Prop :=
  ∀ F B ι H κ v w x y z, HSt K F B ι H κ → VOk K F B ι H v x → VOk K F B ι H w y → f κ x y = some z → ∀ Q : VK,
    (∀ v' B' ι' H', Grow F B ι H B' ι' H' → HSt K F B' ι' H' κ → VOk K F B' ι' H' v' z → Q v' H') → r v w H Q
def UnI (K : PySem.W.Frag) (r : V → Hp → VK → Prop) (f : Kap → DV → Option DV) : Prop :=
  ∀ F B ι H κ v x z, HSt K F B ι H κ → VOk K F B ι H v x → f κ x = some z → ∀ Q : VK,
    (∀ v' B' ι' H', Grow F B ι H B' ι' H' → HSt K F B' ι' H' κ → VOk K F B' ι' H' v' z → Q v' H') → r v H Q
def CalI (K : PySem.W.Frag) (r : List V → Hp → VK → Prop) (f : Kap → List DV → Option DV) : Prop :=
  ∀ F B ι H κ vs xs z, HSt K F B ι H κ → Paired (WOk K B ι) vs xs → f κ xs = some z → ∀ Q : VK,
    (∀ v' B' ι' H', Grow F B ι H B' ι' H' → HSt K F B' ι' H' κ → VOk K F B' ι' H' v' z → Q v' H') → r vs H Q
def opt (κ : Kap) : Option DV → Out DV
  | some z => .ok z κ
  | none => .bad
def mBin (f : Kap → DV → DV → Option DV) (a b : ME) : ME := fun ρ κ => (a ρ κ).bind fun x κ1 => (b ρ κ1).bind fun y κ2 => opt κ2 (f κ2 x y)
def mUn (f : Kap → DV → Option DV) (a : ME) : ME := fun ρ κ => (a ρ κ).bind fun x κ1 => opt κ1 (f κ1 x)
section
variable {K : PySem.W.Frag} {mg : Str → Option Value} {E : XK}
theorem bin_imp {r : R2} {f : Kap → DV → DV → Option DV} {ma mb : ME} (hi : BinI K r f) {σ : L2.St} {H : Hp} {Q : VK} (h : tM K mg E (mBin f ma mb) σ H Q) : tOp r (tM K mg E ma) (tM K mg E mb) σ H Q := by
  obtain ⟨F, B, ι, ρ, κ, s, h⟩ := h
  unfold mBin at h
  refine evE s (fun x κ1 e1 v B1 ι1 H1 g1 s1 w1 => ?_) (fun n fs κ1 e1 => by rw [e1] at h; exact h) (fun e => by rw [e] at h; exact h)
  rw [e1] at h
  obtain ⟨F', hF, s1', back⟩ := s1.hold w1
  refine evE (s.step g1 s1') (fun y κ2 e2 w B2 ι2 H2 g2 s2 w2 => ?_) (fun n fs κ2 e2 => ?_) (fun e => ?_)
  · obtain ⟨w1', s2', g2'⟩ := back g2 s2
    have h : PostE K mg E F B ι H Q (Out.bind (mb ρ κ1) fun y κ2 => opt κ2 (f κ2 x y)) := h
    rw [e2] at h
    have h : PostE K mg E F B ι H Q (opt κ2 (f κ2 x y)) := h
    cases e : f κ2 x y with
    | none => rw [e] at h; exact h.elim
    | some z =>
      rw [e] at h
      exact hi F B2 ι2 H2 κ2 v w x y z s2' w1' (w2.less hF) e Q fun v' B' ι' H' g s' w' => h v' B' ι' H' ((g1.trans g2').trans g) s' w'
  · have h : PostE K mg E F B ι H Q (Out.bind (mb ρ κ1) fun y κ2 => opt κ2 (f κ2 x y)) := h
    rw [e2] at h
    exact XW.grow h g1 hF
  · have h : PostE K mg E F B ι H Q (Out.bind (mb ρ κ1) fun y κ2 => opt κ2 (f κ2 x y)) := h
    rw [e] at h
    exact h
theorem un_imp {r : V → Hp → VK → Prop} {f : Kap → DV → Option DV} {ma : ME} (hi : UnI K r f) {σ : L2.St} {H : Hp} {Q : VK} (h : tM K mg E (mUn f ma) σ H Q) : tUn r (tM K mg E ma) σ H Q := by
  obtain ⟨F, B, ι, ρ, κ, s, h⟩ := h
  unfold mUn at h
  refine evE s (fun x κ1 e1 v B1 ι1 H1 g1 s1 w1 => ?_) (fun n fs κ1 e1 => by rw [e1] at h; exact h) (fun e => by rw [e] at h; exact h)
  rw [e1] at h
  have h : PostE K mg E F B ι H Q (opt κ1 (f κ1 x)) := h
  cases e : f κ1 x with
  | none => rw [e] at h; exact h.elim
  | some z =>
    rw [e] at h
    exact hi F B1 ι1 H1 κ1 v x z s1 w1 e Q fun v' B' ι' H' g s' w' => h v' B' ι' H' (g1.trans g) s' w'
end
section
variable {X : Cx} {E : XK} {a b : Expr} {ma mb : ME} {pos : Pos}
theorem je_bin {op : Operator} {r : R2} {f : Kap → DV → DV → Option DV} (ho : OpR X (binaryOp op) r) (hi : BinI X.K r f) (ha : JE X E a ma) (hb : JE X E b mb) : JE X E (.BinOp a op b pos) (mBin f ma mb) :=
  pe_imp (pe_op ho ha hb) fun _ _ _ h => bin_imp hi h
theorem je_un {op : UnaryOp} {r : V → Hp → VK → Prop} {f : Kap → DV → Option DV} (ho : UnR X (unaryOp op) r) (hi : UnI X.K r f) (ha : JE X E a ma) : JE X E (.UnaryOp op a pos) (mUn f ma) :=
  pe_imp (pe_un ho ha) fun _ _ _ h => un_imp hi h
theorem je_cmp {op : CmpOp} {r : R2} {f : Kap → DV → DV → Option DV} (ho : OpR X (compareOp op) r) (hi : BinI X.K r f) (ha : JE X E a ma) (hb : JE X E b mb) (hm : behindInMarks op b = false := by with_unfolding_all rfl) : JE X E (.Compare a [op] [b] pos) (mBin f ma mb) :=
  pe_imp (pe_cmpR ho ha hb hm) fun _ _ _ h => bin_imp hi h
theorem je_ix {r : R2} {f : Kap → DV → DV → Option DV} (ho : IxR X r) (hi : BinI X.K r f) (ha : JE X E a ma) (hb : JE X E b mb) (hs : PlainIx b := by exact fun _ _ => rfl) : JE X E (.Subscript a b pos) (mBin f ma mb) :=
  pe_imp (pe_ix ho ha hb hs) fun _ _ _ h => bin_imp hi h
end

/-! ### arguments, displays -/
def mNil : MA := fun _ κ => .ok [] κ
def mCons (a : ME) (r : MA) : MA := fun ρ κ => (a ρ κ).bind fun x κ1 => (r ρ κ1).bind fun xs κ2 => .ok (fz x :: xs) κ2
def allD : List DV → Option (List D)
  | [] => some []
  | .d x :: r => (allD r).map (x :: ·)
  | _ => none
def mTup (a : MA) : ME := fun ρ κ => (a ρ κ).bind fun xs κ1 => match allD xs with
  | some ds => if ds.length ≤ 1000 then .ok (.d (.tuple ds)) κ1 else .bad
  | none => .bad
def mLst (a : MA) : ME := fun ρ κ => (a ρ κ).bind fun xs κ1 => match allD xs with
  | some ds => if ds.length ≤ 1000 then .ok (.n ds) κ1 else .bad
  | none => .bad
theorem line1000 {n : Nat} (h : n ≤ 1000) : n ≤ sizeLine := Nat.le_trans h (by decide)
theorem allD_ok {K : PySem.W.Frag} {B : Hp} {ι : List Addr} : ∀ {vs : List V} {xs : List DV} {ds : List D}, Paired (WOk K B ι) vs xs → allD xs = some ds → RpAll K B vs ds
  | _, _, _, .nil, e => by simp [allD] at e; subst e; exact .nil
  | _, .d x :: r, ds, .cons w t, e => by
    cases q : allD r with
    | none => simp [allD, q] at e
    | some es =>
      simp only [allD, q, Option.map_some, Option.some.injEq] at e
      subst e
      exact .cons w (allD_ok t q)
  | _, .c i :: r, ds, .cons w t, e => by simp [allD] at e
  | _, .n i :: r, ds, .cons w t, e => by simp [allD] at e
section
variable {X : Cx} {E : XK} {a : Expr} {es : List Expr} {ma : ME} {mr : MA} {pos : Pos}
theorem ja_nil : JA X E [] mNil := pa_imp pa_nil fun σ H Q ⟨F, B, ι, ρ, κ, s, h⟩ => h [] B ι H Grow.refl s.hs .nil
theorem ja_cons (ha : JE X E a ma) (hr : JA X E es mr) (hs : starEach (a :: es) X.env = (false, eval a X.env) :: starEach es X.env := by rfl) : JA X E (a :: es) (mCons ma mr) :=
  pa_imp (pa_cons ha hr hs) fun σ H Q ⟨F, B, ι, ρ, κ, s, h⟩ => by
    unfold mCons at h
    refine evE s (fun x κ1 e1 v B1 ι1 H1 g1 s1 w1 => ?_) (fun n fs κ1 e1 => by rw [e1] at h; exact h) (fun e => by rw [e] at h; exact h)
    rw [e1] at h
    have h : PostA X.K X.mg E F B ι H Q (Out.bind (mr ρ κ1) fun xs κ2 => .ok (fz x :: xs) κ2) := h
    obtain ⟨B1', s1', g1', w1'⟩ := s1.fz w1
    refine evA (s.step (g1.trans g1') s1') (fun xs κ2 e2 vs B2 ι2 H2 g2 s2 w2 => ?_) (fun n fs κ2 e2 => by rw [e2] at h; exact XW.grow h (g1.trans g1') fun _ m => m) (fun e => by rw [e] at h; exact h)
    rw [e2] at h
    exact h (v :: vs) B2 ι2 H2 ((g1.trans g1').trans g2) s2 (.cons (w1'.grow g2) w2)
theorem je_tup {k : Nat} (h : JA X E es mr) : JE X E (.Tuple es k pos) (mTup mr) :=
  pe_imp (pe_tup h) fun σ H Q ⟨F, B, ι, ρ, κ, s, h⟩ => by
    unfold mTup at h
    refine evA s (fun xs κ1 e1 vs B1 ι1 H1 g1 s1 w1 => ?_) (fun n fs κ1 e1 => by rw [e1] at h; exact h) (fun e => by rw [e] at h; exact h)
    rw [e1] at h
    dsimp only [Out.bind] at h
    split at h
    · rename_i ds e
      split at h
      · rename_i hl
        have r := allD_ok w1 e
        refine ⟨line1000 (by rw [r.len]; exact hl), fun p hp => ?_⟩
        obtain ⟨s2, g2⟩ := s1.new (o := .tup vs) hp
        exact h _ _ _ _ (g1.trans g2) s2 (.tup (.inl (.inl upd_same)) (r.mono g2.b))
      · exact h.elim
    · exact h.elim
theorem je_lst (h : JA X E es mr) : JE X E (.List es pos) (mLst mr) :=
  pe_imp (pe_lst h) fun σ H Q ⟨F, B, ι, ρ, κ, s, h⟩ => by
    unfold mLst at h
    refine evA s (fun xs κ1 e1 vs B1 ι1 H1 g1 s1 w1 => ?_) (fun n fs κ1 e1 => by rw [e1] at h; exact h) (fun e => by rw [e] at h; exact h)
    rw [e1] at h
    dsimp only [Out.bind] at h
    split at h
    · rename_i ds e
      split at h
      · rename_i hl
        have r := allD_ok w1 e
        refine ⟨line1000 (by rw [r.len]; exact hl), fun p hp => ?_⟩
        obtain ⟨s2, g2, w2⟩ := s1.newN hp r
        exact h _ _ _ _ (g1.trans g2) s2 w2
      · exact h.elim
    · exact h.elim
end

/-! ### calls of built-ins -/
def mCal (f : Kap → List DV → Option DV) (a : MA) : ME := fun ρ κ => (a ρ κ).bind fun xs κ1 => opt κ1 (f κ1 xs)
section
variable {K : PySem.W.Frag} {mg : Str → Option Value} {E : XK}
theorem cal_imp {r : List V → Hp → VK → Prop} {f : Kap → List DV → Option DV} {ma : MA} (hi : CalI K r f) {σ : L2.St} {H : Hp} {Q : VK} (h : tM K mg E (mCal f ma) σ H Q) : tCB r (tA K mg E ma) σ H Q := by
  obtain ⟨F, B, ι, ρ, κ, s, h⟩ := h
  unfold mCal at h
  refine evA s (fun x κ1 e1 v B1 ι1 H1 g1 s1 w1 => ?_) (fun n fs κ1 e1 => by rw [e1] at h; exact h) (fun e => by rw [e] at h; exact h)
  rw [e1] at h
  have h : PostE K mg E F B ι H Q (opt κ1 (f κ1 x)) := h
  cases e : f κ1 x with
  | none => rw [e] at h; exact h.elim
  | some z =>
    rw [e] at h
    exact hi F B1 ι1 H1 κ1 v x z s1 w1 e Q fun v' B' ι' H' g s' w' => h v' B' ι' H' (g1.trans g) s' w'
end
section
variable {X : Cx} {E : XK} {e : Expr} {es : List Expr} {ma : MA} {p pos : Pos} {x : Str} {id T : String} {r : List V → Hp → VK → Prop} {f : Kap → List DV → Option DV}
theorem je_callB (hc : CallR X (.builtin id) r) (hi : CalI X.K r f) (hg : Gl X x) (hm : X.mg x = none) (hv : bootBuiltins x = some (.builtin id)) (ha : JA X E (e :: es) ma) (hn : x ≠ "__name__" := by decide) (hdb : (x == ("__debug__" : Str)) = false := by decide)
    (he : starEach (e :: es) X.env = (false, eval e X.env) :: starEach es X.env := by rfl) (hpl : (backTo pos (starEach es X.env)).any (·.1) = false := by rfl) : JE X E (.Call (.Name x p) (e :: es) [] pos) (mCal f ma) :=
  pe_imp (pe_callB hc hg hm hv ha hn hdb he hpl) fun _ _ _ h => cal_imp hi h
theorem je_callTy (hc : CallR X (.type T) r) (hi : CalI X.K r f) (hg : Gl X x) (hm : X.mg x = none) (hv : bootBuiltins x = some (.type T)) (ha : JA X E (e :: es) ma) (hn : x ≠ "__name__" := by decide) (hdb : (x == ("__debug__" : Str)) = false := by decide)
    (he : starEach (e :: es) X.env = (false, eval e X.env) :: starEach es X.env := by rfl) (hpl : (backTo pos (starEach es X.env)).any (·.1) = false := by rfl) : JE X E (.Call (.Name x p) (e :: es) [] pos) (mCal f ma) :=
  pe_imp (pe_callTy hc hg hm hv ha hn hdb he hpl) fun _ _ _ h => cal_imp hi h
end
end DL

namespace DL
open L2 PyProof.Rows PySem PySem.Spec

/-! ### truth -/
def lv (κ : Kap) : DV → Option (List D)
  | .d (.list xs) => some xs
  | .n xs => some xs
  | .c i => match κ[i]? with
    | some (.lst ys) => allD ys
    | _ => none
  | _ => none
def truD (κ : Kap) : DV → Option Bool
  | .d .none => some false
  | .d (.bool b) => some b
  | .d (.int i) => some (i != 0)
  | .d (.str x) => if x.length ≤ 1000000 then some ((x.length : Int) != 0) else none
  | .d (.tuple xs) => some (!xs.isEmpty)
  | x => (lv κ x).map fun xs => !xs.isEmpty
def optT (κ : Kap) : Option Bool → Out Bool
  | some z => .ok z κ
  | none => .bad
def mTr (m : ME) : MT := fun ρ κ => (m ρ κ).bind fun x κ1 => optT κ1 (truD κ1 x)
def mTb (m : ME) : MT := fun ρ κ => (m ρ κ).bind fun x κ1 => match x with
  | .d (.bool b) => .ok b κ1
  | _ => .bad
def mNotT (m : MT) : MT := fun ρ κ => (m ρ κ).bind fun b κ1 => .ok (!b) κ1
def mAndT (m n : MT) : MT := fun ρ κ => (m ρ κ).bind fun b κ1 => if b = true then n ρ κ1 else .ok false κ1
def mOrT (m n : MT) : MT := fun ρ κ => (m ρ κ).bind fun b κ1 => if b = true then .ok true κ1 else n ρ κ1
def mAnd (a b : ME) : ME := fun ρ κ => (a ρ κ).bind fun x κ1 => match truD κ1 x with
  | some true => b ρ κ1
  | some false => .ok x κ1
  | none => .bad
def mOr (a b : ME) : ME := fun ρ κ => (a ρ κ).bind fun x κ1 => match truD κ1 x with
  | some true => .ok x κ1
  | some false => b ρ κ1
  | none => .bad
def mNot (a : ME) : ME := fun ρ κ => (a ρ κ).bind fun x κ1 => match truD κ1 x with
  | some b => .ok (.d (.bool (!b))) κ1
  | none => .bad
def mIfE (c : MT) (a b : ME) : ME := fun ρ κ => (c ρ κ).bind fun t κ1 => if t = true then a ρ κ1 else b ρ κ1
section
variable {K : PySem.W.Frag} {mg : Str → Option Value} {E : XK} {F : List Addr} {B : Hp} {ι : List Addr} {σ : L2.St} {H : Hp} {κ : Kap} {v : V} {x : DV}
theorem lst1 {a : Addr} {xs : List V} (h : H a = some (.lst xs)) : SqL K H a xs := .inl (.inl h)
/-- a list's value, whatever it stands as -/
theorem lv_ok (s : HSt K F B ι H κ) (w : VOk K F B ι H v x) {xs : List D} (e : lv κ x = some xs) : ∃ a vs, v = .ref a ∧ H a = some (.lst vs) ∧ RpAll K B vs xs := by
  cases x with
  | d x =>
    cases x with
    | list ys =>
      simp only [lv, Option.some.injEq] at e
      subst e
      cases w with
      | lst h r => exact ⟨_, _, rfl, s.ex _ _ h, r⟩
    | _ => simp [lv] at e
  | c i =>
    obtain ⟨a, h1, rfl⟩ := w
    simp only [lv] at e
    cases q : κ[i]? with
    | none => rw [q] at e; simp at e
    | some cl =>
      rw [q] at e
      cases cl with
      | lst ys =>
        obtain ⟨vs, h2, h3⟩ := s.cel i a _ h1 q
        exact ⟨a, vs, rfl, h2, allD_ok h3 e⟩
      | _ => simp at e
  | n ys =>
    simp only [lv, Option.some.injEq] at e
    subst e
    obtain ⟨p, vs, rfl, h1, _, _, _, r⟩ := w
    exact ⟨p, vs, rfl, h1, r⟩
theorem tup_ok (s : HSt K F B ι H κ) {xs : List D} (w : Rp K B v (.tuple xs)) : ∃ a vs, v = .ref a ∧ SqT K H a vs ∧ RpAll K B vs xs := by
  cases w with
  | tup h r => exact ⟨_, _, rfl, same_t s.ex h, r⟩
theorem isE {vs : List V} {xs : List D} (r : RpAll K B vs xs) : vs.isEmpty = xs.isEmpty := by
  cases r <;> rfl
theorem isEkv {vs : List (Key × V)} {xs : List (D × D)} (r : RpKV K B vs xs) : vs.isEmpty = xs.isEmpty := by
  cases r <;> rfl
theorem truD_ok (s : HSt K F B ι H κ) (w : VOk K F B ι H v x) {b : Bool} (e : truD κ x = some b) : TruV K v H b := by
  have list : ∀ {xs : List D}, lv κ x = some xs → b = !xs.isEmpty → TruV K v H b := fun {xs} e1 e2 => by
    obtain ⟨a, vs, rfl, h, r⟩ := lv_ok s w e1
    exact .inl ⟨vs, lst1 h, by rw [e2, isE r]⟩
  cases x with
  | d x =>
    cases x with
    | none => simp only [truD, Option.some.injEq] at e; subst e; cases w; rfl
    | bool k => simp only [truD, Option.some.injEq] at e; subst e; cases w; rfl
    | int i => simp only [truD, Option.some.injEq] at e; subst e; cases w; rfl
    | str x =>
      simp only [truD] at e
      split at e
      · rename_i hl
        cases w
        simp only [Option.some.injEq] at e
        exact ⟨Nat.le_trans hl (by decide), e.symm⟩
      · cases e
    | list xs => simp only [truD, lv, Option.map_some, Option.some.injEq] at e; exact list rfl e.symm
    | tuple xs =>
      simp only [truD, Option.some.injEq] at e
      obtain ⟨a, vs, rfl, h, r⟩ := tup_ok s w
      exact .inr (.inl ⟨vs, h, by rw [← e, isE r]⟩)
    | dict kvs => simp [truD, lv] at e
  | c i =>
    simp only [truD] at e
    cases q : lv κ (.c i) with
    | none => rw [q] at e; cases e
    | some xs => rw [q] at e; simp only [Option.map_some, Option.some.injEq] at e; exact list q e.symm
  | n xs => simp only [truD, lv, Option.map_some, Option.some.injEq] at e; exact list rfl e.symm
theorem tr_imp {m : ME} {Q : Bool → Hp → Prop} (h : tT K mg E (mTr m) σ H Q) : tM K mg E m σ H fun x H' => ∃ k, TruV K x H' k ∧ Q k H' := by
  obtain ⟨F, B, ι, ρ, κ, s, h⟩ := h
  unfold mTr at h
  refine evE s (fun x κ1 e1 v B1 ι1 H1 g1 s1 w1 => ?_) (fun n fs κ1 e1 => by rw [e1] at h; exact h) (fun e => by rw [e] at h; exact h)
  rw [e1] at h
  have h : PostT K mg E F B ι H Q (optT κ1 (truD κ1 x)) := h
  cases e : truD κ1 x with
  | none => rw [e] at h; exact h.elim
  | some b => rw [e] at h; exact ⟨b, truD_ok s1 w1 e, h B1 ι1 H1 g1 s1⟩
theorem tb_imp {m : ME} {Q : Bool → Hp → Prop} (h : tT K mg E (mTb m) σ H Q) : tM K mg E m σ H fun x H' => ∃ k, x = .bl k ∧ Q k H' := by
  obtain ⟨F, B, ι, ρ, κ, s, h⟩ := h
  unfold mTb at h
  refine evE s (fun x κ1 e1 v B1 ι1 H1 g1 s1 w1 => ?_) (fun n fs κ1 e1 => by rw [e1] at h; exact h) (fun e => by rw [e] at h; exact h)
  rw [e1] at h
  dsimp only [Out.bind] at h
  split at h
  · rename_i b
    cases w1
    exact ⟨b, rfl, h B1 ι1 H1 g1 s1⟩
  · exact h.elim
end
section
variable {X : Cx} {E : XK} {a b : Expr} {rest : List Expr} {ma mb : ME} {mt mu : MT} {pos : Pos}
theorem jt_cmp {op : CmpOp} {r : R2} {f : Kap → DV → DV → Option DV} (ho : OpR X (compareOp op) r) (hi : BinI X.K r f) (ha : JE X E a ma) (hb : JE X E b mb) (hm : behindInMarks op b = false := by with_unfolding_all rfl) : JT X E (.Compare a [op] [b] pos) (mTb (mBin f ma mb)) :=
  pt_imp (pt_cmpR ho ha hb hm) fun _ _ _ h => bin_imp hi (tb_imp h)
theorem jt_val (ha : JE X E a ma) (he : ∀ whole, isTrue a X.env whole = (do let v ← whole; standAt a.pos; holding [v] (truthy v)) := by intro _; rfl) : JT X E a (mTr ma) :=
  pt_imp (pt_truth ha he) fun _ _ _ h => tr_imp h
theorem jt_not (ha : JT X E a mt) : JT X E (.UnaryOp .Not a pos) (mNotT mt) :=
  pt_imp (pt_not ha) fun σ H Q ⟨F, B, ι, ρ, κ, s, h⟩ => by
    unfold mNotT at h
    refine evT s (fun x κ1 e1 B1 ι1 H1 g1 s1 => ?_) (fun n fs κ1 e1 => by rw [e1] at h; exact h) (fun e => by rw [e] at h; exact h)
    rw [e1] at h
    exact h B1 ι1 H1 g1 s1
theorem jw_and1 (ha : JT X E a mt) : JW X E (.BoolOp .And [a] pos) mt := pw_and1 ha
theorem jw_or1 (ha : JT X E a mt) : JW X E (.BoolOp .Or [a] pos) mt := pw_or1 ha
theorem jw_and (ha : JT X E a mt) (hb : JW X E (.BoolOp .And (b :: rest) pos) mu) : JW X E (.BoolOp .And (a :: b :: rest) pos) (mAndT mt mu) :=
  pw_imp (pw_and ha hb) fun σ H Q ⟨F, B, ι, ρ, κ, s, h⟩ => by
    unfold mAndT at h
    refine evT s (fun x κ1 e1 B1 ι1 H1 g1 s1 => ?_) (fun n fs κ1 e1 => by rw [e1] at h; exact h) (fun e => by rw [e] at h; exact h)
    rw [e1] at h
    cases x with
    | true => exact ⟨F, B1, ι1, ρ, κ1, s.step g1 s1, PostT.grow h g1⟩
    | false => exact h B1 ι1 H1 g1 s1
theorem jw_or (ha : JT X E a mt) (hb : JW X E (.BoolOp .Or (b :: rest) pos) mu) : JW X E (.BoolOp .Or (a :: b :: rest) pos) (mOrT mt mu) :=
  pw_imp (pw_or ha hb) fun σ H Q ⟨F, B, ι, ρ, κ, s, h⟩ => by
    unfold mOrT at h
    refine evT s (fun x κ1 e1 B1 ι1 H1 g1 s1 => ?_) (fun n fs κ1 e1 => by rw [e1] at h; exact h) (fun e => by rw [e] at h; exact h)
    rw [e1] at h
    cases x with
    | false => exact ⟨F, B1, ι1, ρ, κ1, s.step g1 s1, PostT.grow h g1⟩
    | true => exact h B1 ι1 H1 g1 s1
theorem jt_w (h : JW X E a mt) : JT X E a mt := PW.pt h
theorem je_one {op : BoolOp} (h : JE X E a ma) : JE X E (.BoolOp op [a] pos) ma := pe_one h
theorem je_and (ha : JE X E a ma) (hb : JE X E (.BoolOp .And (b :: rest) pos) mb) : JE X E (.BoolOp .And (a :: b :: rest) pos) (mAnd ma mb) :=
  pe_imp (pe_andT ha hb) fun σ H Q ⟨F, B, ι, ρ, κ, s, h⟩ => by
    unfold mAnd at h
    refine evE s (fun x κ1 e1 v B1 ι1 H1 g1 s1 w1 => ?_) (fun n fs κ1 e1 => by rw [e1] at h; exact h) (fun e => by rw [e] at h; exact h)
    rw [e1] at h
    dsimp only [Out.bind] at h
    split at h
    · rename_i e; exact ⟨true, truD_ok s1 w1 e, by rw [if_pos rfl]; exact ⟨F, B1, ι1, ρ, κ1, s.step g1 s1, PostE.grow h g1⟩⟩
    · rename_i e; exact ⟨false, truD_ok s1 w1 e, by rw [if_neg Bool.false_ne_true]; exact h v B1 ι1 H1 g1 s1 w1⟩
    · exact h.elim
theorem je_or (ha : JE X E a ma) (hb : JE X E (.BoolOp .Or (b :: rest) pos) mb) : JE X E (.BoolOp .Or (a :: b :: rest) pos) (mOr ma mb) :=
  pe_imp (pe_orT ha hb) fun σ H Q ⟨F, B, ι, ρ, κ, s, h⟩ => by
    unfold mOr at h
    refine evE s (fun x κ1 e1 v B1 ι1 H1 g1 s1 w1 => ?_) (fun n fs κ1 e1 => by rw [e1] at h; exact h) (fun e => by rw [e] at h; exact h)
    rw [e1] at h
    dsimp only [Out.bind] at h
    split at h
    · rename_i e; exact ⟨true, truD_ok s1 w1 e, by rw [if_pos rfl]; exact h v B1 ι1 H1 g1 s1 w1⟩
    · rename_i e; exact ⟨false, truD_ok s1 w1 e, by rw [if_neg Bool.false_ne_true]; exact ⟨F, B1, ι1, ρ, κ1, s.step g1 s1, PostE.grow h g1⟩⟩
    · exact h.elim
theorem je_not (ha : JE X E a ma) : JE X E (.UnaryOp .Not a pos) (mNot ma) :=
  pe_imp (pe_notT ha) fun σ H Q ⟨F, B, ι, ρ, κ, s, h⟩ => by
    unfold mNot at h
    refine evE s (fun x κ1 e1 v B1 ι1 H1 g1 s1 w1 => ?_) (fun n fs κ1 e1 => by rw [e1] at h; exact h) (fun e => by rw [e] at h; exact h)
    rw [e1] at h
    dsimp only [Out.bind] at h
    split at h
    · rename_i b e; exact ⟨b, truD_ok s1 w1 e, h _ B1 ι1 H1 g1 s1 (.bl _)⟩
    · exact h.elim
theorem je_if {c : Expr} (hc : JT X E c mt) (ha : JE X E a ma) (hb : JE X E b mb) : JE X E (.IfExp c a b pos) (mIfE mt ma mb) :=
  pe_imp (pe_ifExp hc ha hb) fun σ H Q ⟨F, B, ι, ρ, κ, s, h⟩ => by
    unfold mIfE at h
    refine evT s (fun x κ1 e1 B1 ι1 H1 g1 s1 => ?_) (fun n fs κ1 e1 => by rw [e1] at h; exact h) (fun e => by rw [e] at h; exact h)
    rw [e1] at h
    cases x with
    | true => exact ⟨F, B1, ι1, ρ, κ1, s.step g1 s1, PostE.grow h g1⟩
    | false => exact ⟨F, B1, ι1, ρ, κ1, s.step g1 s1, PostE.grow h g1⟩
end

/-! ### statements -/
def mNext : MS := fun ρ κ => .nx ρ κ
def mSeq (a b : MS) : MS := fun ρ κ => match a ρ κ with
  | .nx ρ1 κ1 => b ρ1 κ1
  | o => o
def mBrk : MS := fun ρ κ => .bk ρ κ
def mCnt : MS := fun ρ κ => .ct ρ κ
def mDrop (m : ME) : MS := fun ρ κ => (m ρ κ).bindS fun _ κ1 => .nx ρ κ1
def mRet (m : ME) : MS := fun ρ κ => (m ρ κ).bindS fun x κ1 => .rt x κ1
def mRetN : MS := fun _ κ => .rt (.d .none) κ
def mIf (c : MT) (a b : MS) : MS := fun ρ κ => (c ρ κ).bindS fun t κ1 => if t = true then a ρ κ1 else b ρ κ1
def mSet (i : Nat) (m : ME) : MS := fun ρ κ => (m ρ κ).bindS fun x κ1 => .nx (ρ.set i (some (fz x))) κ1
/-- a new list becomes a cell -/
def mSetC (i : Nat) (m : ME) : MS := fun ρ κ => (m ρ κ).bindS fun x κ1 => match x with
  | .n xs => .nx (ρ.set i (some (.c κ1.length))) (κ1 ++ [.lst (xs.map .d)])
  | _ => .bad
section
variable {K : PySem.W.Frag} {mg : Str → Option Value} {E : XK} {F : List Addr} {B B1 : Hp} {ι ι1 : List Addr} {σ : L2.St} {H H1 : Hp} {ρ : Rho} {κ κ1 : Kap} {v : V} {x : DV}
theorem SOk.set (s : SOk K F B ι σ H ρ κ) (i : Nat) (w : WOk K B ι v x) : SOk K F B ι (σ.set i (some v)) H (ρ.set i (some x)) κ :=
  ⟨s.hs, by rw [List.length_set, List.length_set]; exact s.sl, fun j y e => by
    by_cases q : i = j
    · subst q
      by_cases hl : i < ρ.length
      · rw [List.getElem?_set_self hl] at e
        cases e
        exact ⟨v, by rw [List.getElem?_set_self (by rw [s.sl]; exact hl)], w⟩
      · rw [List.getElem?_eq_none (by rw [List.length_set]; omega)] at e; cases e
    · rw [List.getElem?_set_ne q] at e
      obtain ⟨u, e1, w1⟩ := s.loc j y e
      exact ⟨u, by rw [List.getElem?_set_ne q]; exact e1, w1⟩⟩
theorem cells_of : ∀ {vs : List V} {xs : List D}, RpAll K B vs xs → Paired (WOk K B ι) vs (xs.map .d)
  | _, _, .nil => .nil
  | _, _, .cons h r => .cons h (cells_of r)
/-- a new list becomes a cell -/
theorem HSt.cell (s : HSt K F B ι H κ) {p : Addr} {vs : List V} {xs : List D} (h1 : H p = some (.lst vs)) (h2 : B p = none) (h3 : p ∉ ι) (h4 : p ∉ F) (r : RpAll K B vs xs) :
    HSt K F B (ι ++ [p]) H (κ ++ [.lst (xs.map .d)]) ∧ Grow F B ι H B (ι ++ [p]) H ∧ WOk K B (ι ++ [p]) (.ref p) (.c κ.length) := by
  have i : ∀ (j : Nat) (a : Addr), ι[j]? = some a → (ι ++ [p])[j]? = some a := fun j a e => by
    rw [List.getElem?_append_left (List.getElem?_eq_some_iff.mp e).1]; exact e
  have last : (ι ++ [p])[κ.length]? = some p := by
    rw [← s.len, List.getElem?_append_right (Nat.le_refl _), Nat.sub_self]; rfl
  refine ⟨⟨s.ex, by rw [List.length_append, List.length_append, s.len]; rfl, ?_, fun j a m l => ?_, fun a m => ?_, fun j a cl e1 e2 => ?_, fun a m => ?_, fun q m => let t := s.tb q m; t.to (Same.refl _) rfl t.2.1 (fun z => (List.mem_append.mp z).elim t.2.2.1 fun z => t.ne h1 (by intro _ z; cases z) (List.mem_singleton.mp z)) t.2.2.2⟩, ⟨Same.refl _, i, fun _ _ => rfl⟩, ⟨p, last, rfl⟩⟩
  · rw [List.nodup_append]
    refine ⟨s.nd, by simp, fun a ha b hb e => ?_⟩
    rw [List.mem_singleton] at hb
    exact h3 (by rw [← hb, ← e]; exact ha)
  · by_cases hj : j < κ.length
    · rw [List.getElem?_append_left (by rw [s.len]; exact hj)] at m
      rw [List.getElem?_append_left hj] at l
      exact s.out j a m l
    · have hj2 := (List.getElem?_eq_some_iff.mp m).1
      rw [List.length_append, s.len] at hj2
      have hj2 : j < κ.length + 1 := hj2
      have ej : j = κ.length := by omega
      subst ej
      rw [last] at m
      cases m
      exact h2
  · obtain ⟨a1, a2, a3⟩ := s.pro a m
    refine ⟨a1, a2, fun z => ?_⟩
    rcases List.mem_append.mp z with z | z
    · exact a3 z
    · rw [List.mem_singleton] at z; exact h4 (z ▸ m)
  · by_cases hj : j < κ.length
    · rw [List.getElem?_append_left (by rw [s.len]; exact hj)] at e1
      rw [List.getElem?_append_left hj] at e2
      exact (s.cel j a cl e1 e2).mono (Same.refl _) i rfl
    · have hj2 := (List.getElem?_eq_some_iff.mp e2).1
      rw [List.length_append] at hj2
      have hj2 : j < κ.length + 1 := hj2
      have ej : j = κ.length := by omega
      subst ej
      rw [last] at e1
      rw [List.getElem?_append_right (Nat.le_refl _), Nat.sub_self] at e2
      cases e1
      cases e2
      exact ⟨vs, h1, cells_of r⟩
  · rcases List.mem_append.mp m with m | m
    · exact s.tr a m
    · rw [List.mem_singleton] at m; rw [m]; exact ⟨_, h1⟩
end
section
variable {X : Cx} {E : XK} {st : Stmt} {rest : List Stmt} {e c : Expr} {m : ME} {mt : MT} {ms mr : MS} {pos : Pos}
theorem jss_nil : JSs X E [] mNext := pss_imp pss_nil fun D σ H ⟨F, B, ι, ρ, κ, s, h⟩ => h σ B ι H Grow.refl s
theorem jss_one (h : JS X E st ms) : JSs X E [st] ms := pss_one h
theorem jss_cons (h1 : JS X E st ms) (h2 : JSs X E rest mr) : JSs X E (st :: rest) (mSeq ms mr) :=
  pss_imp (pss_cons h1 h2) fun De σ H ⟨F, B, ι, ρ, κ, s, h⟩ => by
    unfold mSeq at h
    refine evS s (fun ρ1 κ1 e1 σ' B1 ι1 H1 g1 s1 => ?_) (fun ne => ?_)
    · rw [e1] at h
      exact ⟨F, B1, ι1, ρ1, κ1, s1, PostS.grow h g1⟩
    · cases q : ms ρ κ with
      | nx ρ1 κ1 => exact absurd q (ne ρ1 κ1)
      | _ => rw [q] at h; exact h
theorem js_pass : JS X E (.Pass pos) mNext := ps_imp ps_pass fun D σ H ⟨F, B, ι, ρ, κ, s, h⟩ => h σ B ι H Grow.refl s
theorem js_brk : JS X E (.Break pos) mBrk := ps_imp ps_break fun D σ H ⟨F, B, ι, ρ, κ, s, h⟩ => h σ B ι H Grow.refl s
theorem js_cnt : JS X E (.Continue pos) mCnt := ps_imp ps_continue fun D σ H ⟨F, B, ι, ρ, κ, s, h⟩ => h σ B ι H Grow.refl s
theorem js_retN : JS X E (.Return none pos) mRetN := ps_imp ps_retN fun D σ H ⟨F, B, ι, ρ, κ, s, h⟩ => h .non B ι H Grow.refl s.hs .non
theorem js_ret (he : JE X E e m) : JS X E (.Return (some e) pos) (mRet m) :=
  ps_imp (ps_ret he) fun De σ H ⟨F, B, ι, ρ, κ, s, h⟩ => by
    unfold mRet at h
    exact evE s (fun x κ1 e1 v B1 ι1 H1 g1 s1 w1 => by rw [e1] at h; exact h v B1 ι1 H1 g1 s1 w1) (fun n fs κ1 e1 => by rw [e1] at h; exact h) (fun e => by rw [e] at h; exact h)
theorem js_expr (he : JE X E e m) (hs : swapsWith e none pos.line X.env = pure false := by rfl) : JS X E (.Expr e pos) (mDrop m) :=
  ps_imp (ps_expr he hs) fun De σ H ⟨F, B, ι, ρ, κ, s, h⟩ => by
    unfold mDrop at h
    exact evE s (fun x κ1 e1 v B1 ι1 H1 g1 s1 w1 => by rw [e1] at h; exact h σ B1 ι1 H1 g1 (s.step g1 s1)) (fun n fs κ1 e1 => by rw [e1] at h; exact h) (fun e => by rw [e] at h; exact h)
theorem js_if {a b : List Stmt} (hc : JT X E c mt) (ha : JSs X E a ms) (hb : JSs X E b mr) : JS X E (.If c a b pos) (mIf mt ms mr) :=
  ps_imp (ps_if hc ha hb) fun De σ H ⟨F, B, ι, ρ, κ, s, h⟩ => by
    unfold mIf at h
    refine evT s (fun x κ1 e1 B1 ι1 H1 g1 s1 => ?_) (fun n fs κ1 e1 => by rw [e1] at h; exact h) (fun e => by rw [e] at h; exact h)
    rw [e1] at h
    cases x with
    | true => exact ⟨F, B1, ι1, ρ, κ1, s.step g1 s1, PostS.grow h g1⟩
    | false => exact ⟨F, B1, ι1, ρ, κ1, s.step g1 s1, PostS.grow h g1⟩
theorem set_imp {K : PySem.W.Frag} {mg : Str → Option Value} {i : Nat} {De : Ends} {σ : L2.St} {H : Hp} (h : tS K mg E (mSet i m) De σ H) : tAsg (tM K mg E m) (gName i) De σ H := by
  obtain ⟨F, B, ι, ρ, κ, s, h⟩ := h
  unfold mSet at h
  refine evE s (fun x κ1 e1 v B1 ι1 H1 g1 s1 w1 => ?_) (fun n fs κ1 e1 => by rw [e1] at h; exact h) (fun e => by rw [e] at h; exact h)
  rw [e1] at h
  obtain ⟨B1', s1', g1', w1'⟩ := s1.fz w1
  exact h _ B1' ι1 H1 (g1.trans g1') ((s.step (g1.trans g1') s1').set i w1')
theorem setC_imp {K : PySem.W.Frag} {mg : Str → Option Value} {i : Nat} {De : Ends} {σ : L2.St} {H : Hp} (h : tS K mg E (mSetC i m) De σ H) : tAsg (tM K mg E m) (gName i) De σ H := by
  obtain ⟨F, B, ι, ρ, κ, s, h⟩ := h
  unfold mSetC at h
  refine evE s (fun x κ1 e1 v B1 ι1 H1 g1 s1 w1 => ?_) (fun n fs κ1 e1 => by rw [e1] at h; exact h) (fun e => by rw [e] at h; exact h)
  rw [e1] at h
  dsimp only [Out.bindS] at h
  split at h
  · rename_i xs
    obtain ⟨p, vs, rfl, h1, h2, h3, h4, r⟩ := w1
    obtain ⟨s2, g2, w2⟩ := s1.cell h1 h2 h3 h4 r
    exact h _ B1 _ H1 (g1.trans g2) ((s.step (g1.trans g2) s2).set i w2)
  · exact h.elim
theorem js_set {i : Nat} {x : Str} {pos' : Pos} (hN : X.N.Nodup) (hi : X.N[i]? = some x) (hx : Loc X.env.scope x) (he : JE X E e m) (hs : swapsWith e (some (.Name x pos')) pos.line X.env = pure false := by rfl) (hf : X.fn x = true ∨ X.env.scope.names.lookup x = some .local := by first | exact .inl rfl | exact .inr rfl | assumption) :
    JS X E (.Assign [.Name x pos'] e pos) (mSet i m) := ps_imp (ps_set hN hi hx he hs hf) fun _ _ _ h => set_imp h
theorem js_setC {i : Nat} {x : Str} {pos' : Pos} (hN : X.N.Nodup) (hi : X.N[i]? = some x) (hx : Loc X.env.scope x) (he : JE X E e m) (hs : swapsWith e (some (.Name x pos')) pos.line X.env = pure false := by rfl) (hf : X.fn x = true ∨ X.env.scope.names.lookup x = some .local := by first | exact .inl rfl | exact .inr rfl | assumption) :
    JS X E (.Assign [.Name x pos'] e pos) (mSetC i m) := ps_imp (ps_set hN hi hx he hs hf) fun _ _ _ h => setC_imp h
end

/-! ### defs -/
def DV.below (n : Nat) : DV → Bool
  | .c i => decide (i < n)
  | _ => true
def Cell.below (n : Nat) : Cell → Bool
  | .dead => true
  | .lst xs => xs.all (DV.below n)
  | .dic kvs => kvs.all fun p => p.2.below n
/-- behind a def: its own cells are gone -/
def fin (n : Nat) : OutS → Out DV
  | .nx _ κ => if (κ.take n).all (Cell.below n) = true then .ok (.d .none) (κ.take n) else .bad
  | .rt x κ => if (κ.take n).all (Cell.below n) = true then (match x with
    | .c i => if i < n then .ok (.c i) (κ.take n) else (match lv κ (.c i) with
      | some xs => .ok (.n xs) (κ.take n)
      | none => .bad)
    | x => .ok x (κ.take n)) else .bad
  | .ex m fs κ => if (κ.take n).all (Cell.below n) = true then .ex m fs (κ.take n) else .bad
  | _ => .bad
def rho0 (nl : Nat) (xs : List DV) : Rho := xs.map some ++ List.replicate (nl - xs.length) none
def mDef (np nl : Nat) (b : MS) : MF := fun xs κ => if xs.length = np then fin κ.length (b (rho0 nl xs) κ) else .bad
def spM (K : PySem.W.Frag) (mg : Str → Option Value) (np : Nat) (m : MF) : Sp := fun vs H Q _ => vs.length = np ∧ ∃ F B ι xs κ, HSt K F B ι H κ ∧ Paired (WOk K B ι) vs xs ∧ PostE K mg E0 F B ι H Q (m xs κ)
def spX (K : PySem.W.Frag) (mg : Str → Option Value) (np : Nat) (m : MF) : Sp := fun vs H Q E => vs.length = np ∧ ∃ F B ι xs κ, HSt K F B ι H κ ∧ Paired (WOk K B ι) vs xs ∧ PostE K mg E F B ι H Q (m xs κ)
section
variable {K : PySem.W.Frag} {mg : Str → Option Value} {E : XK} {F : List Addr} {B : Hp} {ι : List Addr} {σ : L2.St} {H : Hp} {ρ : Rho} {κ : Kap}
theorem WOk.take {n : Nat} : ∀ {v : V} {x : DV}, WOk K B ι v x → x.below n = true → WOk K B (ι.take n) v x
  | _, .d _, h, _ => h
  | _, .c i, ⟨a, h, e⟩, b => ⟨a, by rw [List.getElem?_take, if_pos (of_decide_eq_true b)]; exact h, e⟩
  | _, .n _, h, _ => h
theorem takeL {n : Nat} : ∀ {vs : List V} {xs : List DV}, Paired (WOk K B ι) vs xs → xs.all (DV.below n) = true → Paired (WOk K B (ι.take n)) vs xs
  | _, _, .nil, _ => .nil
  | _, _, .cons w r, hb => by
    rw [List.all_cons, Bool.and_eq_true] at hb
    exact .cons (w.take hb.1) (takeL r hb.2)
theorem takeD {n : Nat} : ∀ {vs : List (Key × V)} {xs : List (Key × DV)}, Paired (fun (p : Key × V) (q : Key × DV) => p.1 = q.1 ∧ WOk K B ι p.2 q.2) vs xs → (xs.all fun p => p.2.below n) = true →
    Paired (fun (p : Key × V) (q : Key × DV) => p.1 = q.1 ∧ WOk K B (ι.take n) p.2 q.2) vs xs
  | _, _, .nil, _ => .nil
  | _, _, .cons w r, hb => by
    rw [List.all_cons, Bool.and_eq_true] at hb
    exact .cons ⟨w.1, w.2.take hb.1⟩ (takeD r hb.2)
theorem HSt.take {n : Nat} (s : HSt K F B ι H κ) (b : (κ.take n).all (Cell.below n) = true) : HSt K F B (ι.take n) H (κ.take n) := by
  refine ⟨s.ex, by rw [List.length_take, List.length_take, s.len], s.nd.sublist (List.take_sublist _ _), fun i a m l => ?_, fun a m => ?_, fun i a cl e1 e2 => ?_, fun a m => s.tr a (List.mem_of_mem_take m), fun q m => let t := s.tb q m; t.to (Same.refl _) rfl t.2.1 (fun z => t.2.2.1 (List.mem_of_mem_take z)) t.2.2.2⟩
  · rw [List.getElem?_take] at m l
    split at m
    · rename_i hl
      rw [if_pos hl] at l
      exact s.out i a m l
    · cases m
  · obtain ⟨h1, h2, h3⟩ := s.pro a m
    exact ⟨h1, h2, fun z => h3 (List.mem_of_mem_take z)⟩
  · have hb := List.all_eq_true.mp b cl (List.mem_of_getElem? e2)
    rw [List.getElem?_take] at e1 e2
    split at e1
    · rename_i hl
      rw [if_pos hl] at e2
      have c := s.cel i a cl e1 e2
      cases cl with
      | dead => exact True.intro
      | lst xs =>
        obtain ⟨vs, h1, h2⟩ := c
        exact ⟨vs, h1, takeL h2 hb⟩
      | dic kvs =>
        obtain ⟨vs, h1, h2⟩ := c
        exact ⟨vs, h1, takeD h2 hb⟩
    · cases e1
theorem Grow.take {B' H' : Hp} {ι' : List Addr} (g : Grow F B ι H B' ι' H') : Grow F B ι H B' (ι'.take ι.length) H' :=
  ⟨g.b, fun j a e => by rw [List.getElem?_take, if_pos (List.getElem?_eq_some_iff.mp e).1]; exact g.i j a e, g.fr⟩
theorem Paired.getP {α β : Type} {R : α → β → Prop} : ∀ {l₁ : List α} {l₂ : List β} {i : Nat} {b : β}, Paired R l₁ l₂ → l₂[i]? = some b → ∃ a, l₁[i]? = some a ∧ R a b
  | _, _, _, _, .nil, e => by simp at e
  | _, _, 0, _, .cons h _, e => by simp at e; subst e; exact ⟨_, rfl, h⟩
  | _, _, i + 1, d, .cons _ r, e => by
    obtain ⟨v, h1, h2⟩ := Paired.getP (i := i) (b := d) r (by simpa using e)
    exact ⟨v, by simpa using h1, h2⟩
theorem start_ok {N : List Str} {vs : List V} {xs : List DV} (s : HSt K F B ι H κ) (p : Paired (WOk K B ι) vs xs) : SOk K F B ι (L2.start N vs) H (rho0 N.length xs) κ := by
  have hl := p.length
  refine ⟨s, ?_, fun i x e => ?_⟩
  · show (vs.map some ++ List.replicate (N.length - vs.length) none).length = (xs.map some ++ List.replicate (N.length - xs.length) none).length
    rw [List.length_append, List.length_append, List.length_map, List.length_map, List.length_replicate, List.length_replicate, hl]
  · unfold rho0 at e
    by_cases hi : i < xs.length
    · rw [List.getElem?_append_left (by rw [List.length_map]; exact hi), List.getElem?_map] at e
      cases q : xs[i]? with
      | none => rw [q] at e; simp at e
      | some y =>
        rw [q] at e
        simp only [Option.map_some, Option.some.injEq] at e
        subst e
        obtain ⟨v, e1, w⟩ := Paired.getP p q
        refine ⟨v, ?_, w⟩
        unfold L2.start
        rw [List.getElem?_append_left (by rw [List.length_map, hl]; exact hi), List.getElem?_map, e1]
        rfl
    · rw [List.getElem?_append_right (by rw [List.length_map]; omega)] at e
      have := List.mem_of_getElem? e
      rw [List.mem_replicate] at this
      cases this.2
theorem fin_ok {mb : MS} {N : List Str} {Q : VK} {vs : List V} {xs : List DV} (s : HSt K F B ι H κ) (p : Paired (WOk K B ι) vs xs) (h : PostE K mg E F B ι H Q (fin κ.length (mb (rho0 N.length xs) κ))) :
    tS K mg E mb { nx := fun _ H' => Q .non H', rt := Q } (L2.start N vs) H := by
  refine ⟨F, B, ι, rho0 N.length xs, κ, start_ok s p, ?_⟩
  have hk := s.len
  cases q : mb (rho0 N.length xs) κ with
  | nx ρ' κ' =>
    rw [q] at h
    intro σ' B' ι' H' g s'
    dsimp only [fin] at h
    split at h
    · rename_i hb
      have g' := g.take
      rw [hk] at g'
      exact h .non B' _ H' g' (s'.hs.take hb) .non
    · exact h.elim
  | rt x κ' =>
    rw [q] at h
    intro v B' ι' H' g s' w
    dsimp only [fin] at h
    split at h
    · rename_i hb
      have g' := g.take
      rw [hk] at g'
      cases x with
      | d x => exact h v B' _ H' g' (s'.take hb) w
      | n ys =>
        obtain ⟨p, us, e, h1, h2, h3, h4, r⟩ := w
        exact h v B' _ H' g' (s'.take hb) ⟨p, us, e, h1, h2, fun z => h3 (List.mem_of_mem_take z), h4, r⟩
      | c i =>
        dsimp only at h
        obtain ⟨a, h1, h2⟩ := w
        split at h
        · rename_i hi
          exact h v B' _ H' g' (s'.take hb) ⟨a, by rw [List.getElem?_take, if_pos hi]; exact h1, h2⟩
        · rename_i hi
          split at h
          · rename_i ys e
            simp only [lv] at e
            cases q2 : κ'[i]? with
            | none => rw [q2] at e; simp at e
            | some cl =>
              rw [q2] at e
              cases cl with
              | lst zs =>
                obtain ⟨us, h5, h6⟩ := s'.cel i a _ h1 q2
                refine h v B' _ H' g' (s'.take hb) ⟨a, us, h2, h5, s'.out i a h1 (by rw [q2]; simp), fun z => ?_, fun z => (s'.pro a z).2.2 (List.mem_of_getElem? h1), allD_ok h6 e⟩
                obtain ⟨j, hj, ej⟩ := List.getElem_of_mem z
                have hj' : j < κ.length := by rw [List.length_take] at hj; omega
                have ej' : ι'[j]? = some a := by
                  have := List.getElem?_eq_getElem hj
                  rw [ej, List.getElem?_take, if_pos hj'] at this
                  exact this
                exact hi (by rw [show i = j from nd_ix s'.nd h1 ej']; exact hj')
              | _ => simp at e
          · exact h.elim
    · exact h.elim
  | ex n fs κ' =>
    rw [q] at h
    dsimp only [fin] at h
    split at h
    · rename_i hb
      intro C d B' ι' H' ws m g s' e r
      have g' := g.take
      rw [hk] at g'
      exact h C d B' _ H' ws m g' (s'.take hb) e r
    · exact h.elim
  | bk ρ' κ' => rw [q] at h; exact h.elim
  | ct ρ' κ' => rw [q] at h; exact h.elim
  | bad => rw [q] at h; exact h.elim
end
section
variable {P : Program} {w : World} {K : PySem.W.Frag} {mg : Str → Option Value} {base : Heap}
/-- a def by its body -/
theorem ok_def {x qual : Str} {st : Stmt} {f : Addr} {fd : FuncData} {N ps : List Str} {k : Nat} {mb : MS} (Fu : Fun K x qual st f fd) (S : FnScope N ps (defScope st))
    (hb : ∀ (cdv : Value) (A : Around) (outer : List Env) (s : Shared) (H : Hp) (E : XK), A.guards = some [] → Room k (A.deeper (envOfC qual (defScope st) s.heap.objs.size f cdv)) →
      JSs (cxOf CX0 P w K mg base N qual (defScope st) f cdv A outer s H E).nox E0 (defBody st) mb) : FnG P w K mg base CX0 (k + 1) f fd ps (spM K mg ps.length (mDef ps.length N.length mb)) := by
  refine fnG Fu S (fun vs H Q E h => h.1) (fun cdv A outer s H vs Q E gu hr h => ?_)
  obtain ⟨hl, F, B, ι, xs, κ, hs, p, h⟩ := h
  refine ⟨_, (hb cdv A outer s H E gu hr).nox, ?_⟩
  unfold mDef at h
  rw [if_pos (by rw [← p.length]; exact hl)] at h
  exact fin_ok hs p h
/-- .. that may raise -/
theorem okX_def {x qual : Str} {st : Stmt} {f : Addr} {fd : FuncData} {N ps : List Str} {k : Nat} {mb : MS} (Fu : Fun K x qual st f fd) (S : FnScope N ps (defScope st))
    (hb : ∀ (cdv : Value) (A : Around) (outer : List Env) (s : Shared) (H : Hp) (E : XK), A.guards = some [] → Room k (A.deeper (envOfC qual (defScope st) s.heap.objs.size f cdv)) →
      JSs (cxOf (L2.CX P w) P w K mg base N qual (defScope st) f cdv A outer s H E) E (defBody st) mb) : FnG P w K mg base (L2.CX P w) (k + 1) f fd ps (spX K mg ps.length (mDef ps.length N.length mb)) := by
  refine fnG Fu S (fun vs H Q E h => h.1) (fun cdv A outer s H vs Q E gu hr h => ?_)
  obtain ⟨hl, F, B, ι, xs, κ, hs, p, h⟩ := h
  refine ⟨_, hb cdv A outer s H E gu hr, ?_⟩
  unfold mDef at h
  rw [if_pos (by rw [← p.length]; exact hl)] at h
  exact fin_ok hs p h
end
/-! ### calls of defs -/
def mCall (m : MF) (a : MA) : ME := fun ρ κ => (a ρ κ).bind fun xs κ1 => m xs κ1
def NArgs (m : MF) (np : Nat) : Prop := ∀ xs κ, xs.length ≠ np → m xs κ = .bad
theorem nargs_def {np nl : Nat} {b : MS} : NArgs (mDef np nl b) np := fun xs κ h => by unfold mDef; rw [if_neg h]
section
variable {K : PySem.W.Frag} {mg : Str → Option Value} {E : XK}
theorem call_imp {m : MF} {np : Nat} (hn : NArgs m np) {ma : MA} {σ : L2.St} {H : Hp} {Q : VK} (h : tM K mg E0 (mCall m ma) σ H Q) : tCall (spM K mg np m) [] E (tA K mg E0 ma) σ H Q := by
  obtain ⟨F, B, ι, ρ, κ, s, h⟩ := h
  unfold mCall at h
  refine evA s (fun x κ1 e1 v B1 ι1 H1 g1 s1 w1 => ?_) (fun n fs κ1 e1 => by rw [e1] at h; exact h) (fun e => by rw [e] at h; exact h)
  rw [e1] at h
  have h : PostE K mg E0 F B ι H Q (m x κ1) := h
  have hl : x.length = np := Decidable.byContradiction fun q => by rw [hn x κ1 q] at h; exact h
  rw [List.append_nil]
  exact ⟨by rw [w1.length]; exact hl, F, B1, ι1, x, κ1, s1, w1, PostE.grow h g1⟩
end
section
variable {X : Cx} {k : Nat} {f : Addr} {fd : FuncData} {ps : List Str} {np : Nat} {m : MF} {x : Str} {p pos : Pos} {e : Expr} {es : List Expr} {ma : MA}
/-- f(e, ..), nothing raised -/
theorem je_call (gu : X.A.guards = some []) (Fo : FnG X.prog X.w X.K X.mg X.base CX0 k f fd ps (spM X.K X.mg np m)) (hn : NArgs m np) (hr : Room k X.A) (hg : Gl X x) (hm : X.mg x = some (.ref f)) (hk : PySem.W.keepIn X.K (.ref f) = true) (hb : Binds X.K fd ps [])
    (ha : JA X E0 (e :: es) ma) (hdb : (x == ("__debug__" : Str)) = false := by decide) (he : starEach (e :: es) X.env = (false, eval e X.env) :: starEach es X.env := by rfl) (hpl : (backTo pos (starEach es X.env)).any (·.1) = false := by rfl) :
    JE X E0 (.Call (.Name x p) (e :: es) [] pos) (mCall m ma) :=
  pe_imp (pe_callG Fo gu hr hg hm hk hb .nil pass0 ha hdb he hpl) fun _ _ _ h => call_imp (E := E0) hn h
theorem je_call0 (gu : X.A.guards = some []) (Fo : FnG X.prog X.w X.K X.mg X.base CX0 k f fd ps (spM X.K X.mg np m)) (hn : NArgs m np) (hr : Room k X.A) (hg : Gl X x) (hm : X.mg x = some (.ref f)) (hk : PySem.W.keepIn X.K (.ref f) = true) (hb : Binds X.K fd ps [])
    (hdb : (x == ("__debug__" : Str)) = false := by decide) : JE X E0 (.Call (.Name x p) [] [] pos) (mCall m mNil) :=
  pe_imp (pe_call0G Fo gu hr hg hm hk hb .nil pass0 hdb) fun σ H Q h => by
    obtain ⟨F, B, ι, ρ, κ, s, h⟩ := h
    have h : PostE X.K X.mg E0 F B ι H Q (m [] κ) := h
    have hl : ([] : List DV).length = np := Decidable.byContradiction fun q => by rw [hn [] κ q] at h; exact h
    exact ⟨hl, F, B, ι, [], κ, s.hs, .nil, h⟩
end
end DL

namespace DL
open L2 PyProof.Rows PySem PySem.Spec

/-! ### targets -/
abbrev MG := DV → Rho → Kap → Option (Rho × Kap)
/-- a target that may touch the slots ts -/
def tG (K : PySem.W.Frag) (g : MG) (ts : List Nat) : TG := fun v σ H Q => ∃ F B ι ρ κ x, SOk K F B ι σ H ρ κ ∧ WOk K B ι v x ∧ match g x ρ κ with
  | some (ρ', κ') => ∀ σ' B' ι' H', (σ'.length = σ.length ∧ ∀ i, i ∉ ts → σ'[i]? = σ[i]?) → Grow F B ι H B' ι' H' → SOk K F B' ι' σ' H' ρ' κ' → Q σ' H'
  | none => False
def tGs (K : PySem.W.Frag) (g : List DV → Rho → Kap → Option (Rho × Kap)) (ts : List Nat) : TGs := fun vs σ H Q => ∃ F B ι ρ κ xs, SOk K F B ι σ H ρ κ ∧ Paired (WOk K B ι) vs xs ∧ match g xs ρ κ with
  | some (ρ', κ') => ∀ σ' B' ι' H', (σ'.length = σ.length ∧ ∀ i, i ∉ ts → σ'[i]? = σ[i]?) → Grow F B ι H B' ι' H' → SOk K F B' ι' σ' H' ρ' κ' → Q σ' H'
  | none => False
abbrev JG (X : Cx) (t : Expr) (g : MG) (ts : List Nat) : Prop := PG X t (tG X.K g ts)
abbrev JGs (X : Cx) (t : List Expr) (g : List DV → Rho → Kap → Option (Rho × Kap)) (ts : List Nat) : Prop := PGs X t (tGs X.K g ts)
def bName (i : Nat) : MG := fun x ρ κ => some (ρ.set i (some x), κ)
def bNil : List DV → Rho → Kap → Option (Rho × Kap) := fun xs ρ κ => match xs with
  | [] => some (ρ, κ)
  | _ => none
def bCons (g : MG) (r : List DV → Rho → Kap → Option (Rho × Kap)) : List DV → Rho → Kap → Option (Rho × Kap) := fun xs ρ κ => match xs with
  | x :: ys => (g x ρ κ).bind fun p => r ys p.1 p.2
  | [] => none
def bTup (n : Nat) (r : List DV → Rho → Kap → Option (Rho × Kap)) : MG := fun x ρ κ => match x with
  | .d (.tuple ds) => if ds.length = n then r (ds.map .d) ρ κ else none
  | _ => none
theorem pg_imp {X : Cx} {e : Expr} {t t' : TG} (h : PG X e t) (i : ∀ v σ H Q, t' v σ H Q → t v σ H Q) : PG X e t' := ⟨fun pins s σ H v u Q I r q => h.run pins s σ H v u Q I r (i v σ H Q q)⟩
theorem pgs_imp {X : Cx} {e : List Expr} {t t' : TGs} (h : PGs X e t) (i : ∀ v σ H Q, t' v σ H Q → t v σ H Q) : PGs X e t' := ⟨fun pins s σ H v u Q I r q => h.run pins s σ H v u Q I r (i v σ H Q q)⟩
theorem ji_imp {X : Cx} {tg e : Expr} {t t' : TI} (h : PI X tg e t) (i : ∀ σ H R, t' σ H R → t σ H R) : PI X tg e t' := ⟨fun pins s σ H R I q => h.run pins s σ H R I (i σ H R q)⟩
section
variable {X : Cx} {pos : Pos}
theorem jg_name {i : Nat} {x : Str} (hN : X.N.Nodup) (hi : X.N[i]? = some x) (hx : Loc X.env.scope x) (hf : X.fn x = true ∨ X.env.scope.names.lookup x = some .local := by first | exact .inl rfl | exact .inr rfl | assumption) : JG X (.Name x pos) (bName i) [i] :=
  pg_imp (pg_name hN hi hx hf) fun v σ H Q ⟨F, B, ι, ρ, κ, x, s, w, h⟩ => h _ B ι H ⟨List.length_set .., fun j hj => by rw [List.getElem?_set_ne (fun e => hj (by rw [e]; exact List.mem_singleton.mpr rfl))]⟩ Grow.refl (s.set i w)
theorem jgs_nil : JGs X [] bNil [] := pgs_imp pgs_nil fun v σ H Q ⟨F, B, ι, ρ, κ, xs, s, w, h⟩ => by
  cases w with
  | nil => exact ⟨rfl, h σ B ι H ⟨rfl, fun _ _ => rfl⟩ Grow.refl s⟩
  | cons _ _ => exact h.elim
theorem jgs_cons {e : Expr} {es : List Expr} {g : MG} {r : List DV → Rho → Kap → Option (Rho × Kap)} {ts us : List Nat} (h1 : JG X e g ts) (h2 : JGs X es r us)
    (hs : (assignEach (e :: es) X.env).map (·.2) = assign e X.env :: (assignEach es X.env).map (·.2) := by rfl) : JGs X (e :: es) (bCons g r) (ts ++ us) :=
  pgs_imp (pgs_cons h1 h2 hs) fun v σ H Q ⟨F, B, ι, ρ, κ, xs, s, w, h⟩ => by
    cases w with
    | nil => exact h.elim
    | @cons v x vs ys w1 w2 =>
      refine ⟨v, vs, rfl, F, B, ι, ρ, κ, x, s, w1, ?_⟩
      simp only [bCons] at h
      cases q : g x ρ κ with
      | none => rw [q] at h; exact h
      | some p =>
        rw [q] at h
        intro σ1 B1 ι1 H1 e1 g1 s1
        refine ⟨F, B1, ι1, p.1, p.2, ys, s1, pmap w2 fun _ _ z => z.grow g1, ?_⟩
        replace h : (match r ys p.1 p.2 with
          | some (ρ', κ') => ∀ σ' B' ι' H', (σ'.length = σ.length ∧ ∀ i, i ∉ ts ++ us → σ'[i]? = σ[i]?) → Grow F B ι H B' ι' H' → SOk X.K F B' ι' σ' H' ρ' κ' → Q σ' H'
          | none => False) := h
        cases q2 : r ys p.1 p.2 with
        | none => rw [q2] at h; exact h
        | some p2 =>
          rw [q2] at h
          intro σ2 B2 ι2 H2 e2 g2 s2
          exact h σ2 B2 ι2 H2 ⟨e2.1.trans e1.1, fun i hi => (e2.2 i (fun z => hi (List.mem_append_right _ z))).trans (e1.2 i (fun z => hi (List.mem_append_left _ z)))⟩ (g1.trans g2) s2
theorem cells_d {K : PySem.W.Frag} {B : Hp} {ι : List Addr} {vs : List V} {xs : List D} (r : RpAll K B vs xs) : Paired (WOk K B ι) vs (xs.map .d) := cells_of r
theorem jg_tup {es : List Expr} {k : Nat} {r : List DV → Rho → Kap → Option (Rho × Kap)} {ts : List Nat} {n : Nat} (hc : X.calm = true) (h : JGs X es r ts)
    (hn : (assignEach es X.env).length = n := by rfl) (hst : (assignEach es X.env).findIdx? (·.1) = none := by rfl) : JG X (.Tuple es k pos) (bTup n r) ts :=
  pg_imp (pg_tup hc h hn hst) fun v σ H Q ⟨F, B, ι, ρ, κ, x, s, w, h⟩ => by
    unfold bTup at h
    split at h
    · rename_i ρ' κ' e
      split at e
      · rename_i ds
        split at e
        · rename_i hl
          obtain ⟨a, vs, rfl, h1, r1⟩ := tup_ok s.hs w
          refine ⟨a, vs, rfl, h1, by rw [r1.len]; exact hl, F, B, ι, ρ, κ, _, s, cells_of r1, ?_⟩
          rw [e]
          exact h
        · cases e
      · cases e
    · exact h.elim
end
/-- target = value -/
def mAsg (g : MG) (m : ME) : MS := fun ρ κ => (m ρ κ).bindS fun x κ1 => match g (fz x) ρ κ1 with
  | some (ρ', κ') => .nx ρ' κ'
  | none => .bad
section
variable {X : Cx} {E : XK} {tg e : Expr} {m : ME} {g : MG} {ts : List Nat} {pos : Pos}
theorem asg_imp {K : PySem.W.Frag} {mg : Str → Option Value} {De : Ends} {σ : L2.St} {H : Hp} (h : tS K mg E (mAsg g m) De σ H) : tAsg (tM K mg E m) (tG K g ts) De σ H := by
  obtain ⟨F, B, ι, ρ, κ, s, h⟩ := h
  unfold mAsg at h
  refine evE s (fun x κ1 e1 v B1 ι1 H1 g1 s1 w1 => ?_) (fun n fs κ1 e1 => by rw [e1] at h; exact h) (fun e => by rw [e] at h; exact h)
  rw [e1] at h
  obtain ⟨B1', s1', g1', w1'⟩ := s1.fz w1
  refine ⟨F, B1', ι1, ρ, κ1, fz x, s.step (g1.trans g1') s1', w1', ?_⟩
  dsimp only [Out.bindS] at h
  cases q : g (fz x) ρ κ1 with
  | none => rw [q] at h; exact h
  | some p =>
    rw [q] at h
    exact fun σ' B' ι' H' _ g2 s2 => h σ' B' ι' H' ((g1.trans g1').trans g2) s2
theorem js_asg (he : JE X E e m) (hg : JG X tg g ts) (hs : swapsWithSole [tg] e pos.line X.env = pure false := by rfl) (hw : swappedStores [tg] e X.env = pure none := by rfl)
    (h1 : (assignEach [tg] X.env).map (·.2) = [assign tg X.env] := by rfl) : JS X E (.Assign [tg] e pos) (mAsg g m) :=
  ps_imp (ps_asg he hg hs hw h1) fun _ _ _ h => asg_imp h
end

/-! ### what is walked -/
def Yld (K : PySem.W.Frag) (F : List Addr) (B : Hp) (ι : List Addr) (H : Hp) (J : It) (ds : List D) : Prop :=
  ∀ F' i B' ι' H' κ', (∀ a ∈ F, a ∈ F') → Grow [] B ι H B' ι' H' → HSt K F' B' ι' H' κ' →
    (∀ d, ds[i]? = some d → J.go i H' ∧ ∀ x H'', J.yld i H' x H'' → ∃ B'', Grow F' B' ι' H' B'' ι' H'' ∧ HSt K F' B'' ι' H'' κ' ∧ Rp K B'' x d) ∧ (ds.length ≤ i → J.stop i H')
abbrev MI := Rho → Kap → Out (List D)
def tI (K : PySem.W.Frag) (mg : Str → Option Value) (E : XK) (m : MI) : TI := fun σ H R => ∃ F B ι ρ κ, SOk K F B ι σ H ρ κ ∧ match m ρ κ with
  | .ok ds κ' => ∀ J B' ι' H', Grow F B ι H B' ι' H' → HSt K F B' ι' H' κ' → Yld K F B' ι' H' J ds → R J H'
  | .ex n fs κ' => XW K mg E F B ι H n fs κ'
  | .bad => False
abbrev JI (X : Cx) (E : XK) (tg e : Expr) (m : MI) : Prop := PI X tg e (tI X.K X.mg E m)
def mSrcL (m : ME) : MI := fun ρ κ => (m ρ κ).bind fun x κ1 => match x with
  | .d (.list xs) => .ok xs κ1
  | .n xs => .ok xs κ1
  | _ => .bad
def mSrcT (m : ME) : MI := fun ρ κ => (m ρ κ).bind fun x κ1 => match x with
  | .d (.tuple xs) => .ok xs κ1
  | _ => .bad
def chars (x : Str) : List D := x.cps.toList.map fun c => .str ⟨#[c]⟩
def mSrcS (m : ME) : MI := fun ρ κ => (m ρ κ).bind fun x κ1 => match x with
  | .d (.str x) => .ok (chars x) κ1
  | _ => .bad
/-- a list or a tuple -/
def mSrcA (m : ME) : MI := fun ρ κ => (m ρ κ).bind fun x κ1 => match x with
  | .d (.list xs) => .ok xs κ1
  | .n xs => .ok xs κ1
  | .d (.tuple xs) => .ok xs κ1
  | _ => .bad
def rngD (lo : Int) (n : Nat) : List D := (List.range n).map fun (i : Nat) => PyData.int (lo + (i : Int))
def mRng1 (a : MA) : MI := fun ρ κ => (a ρ κ).bind fun xs κ1 => match xs with
  | [.d (.int j)] => if -(2 ^ 62) ≤ j ∧ j < 2 ^ 62 then .ok (rngD 0 j.toNat) κ1 else .bad
  | _ => .bad
def mRng2 (a : MA) : MI := fun ρ κ => (a ρ κ).bind fun xs κ1 => match xs with
  | [.d (.int i), .d (.int j)] => if -(2 ^ 62) ≤ i ∧ i < 2 ^ 62 ∧ -(2 ^ 62) ≤ j ∧ j < 2 ^ 62 then .ok (rngD i (j - i).toNat) κ1 else .bad
  | _ => .bad
section
variable {K : PySem.W.Frag} {F : List Addr} {B B' : Hp} {ι ι' : List Addr} {H H' : Hp} {κ : Kap}
theorem rp_get {vs : List V} {xs : List D} (r : RpAll K B vs xs) {i : Nat} {v : V} {d : D} (e1 : vs[i]? = some v) (e2 : xs[i]? = some d) : Rp K B v d := by
  obtain ⟨u, h, w⟩ := r.get e2
  rw [h] at e1; cases e1; exact w
theorem yld_list {a : Addr} {vs : List V} {xs : List D} (hS : SqL K B a vs) (r : RpAll K B vs xs) : Yld K F B ι H (Itl K a) xs := fun F' i B' ι' H' κ' _ g s => by
  have h1 : SqL K H' a vs := s.ex.seq (g.b.seq hS)
  refine ⟨fun d e => ?_, fun e => ⟨vs, h1, by rw [r.len]; exact e⟩⟩
  obtain ⟨v, e1, w⟩ := r.get e
  refine ⟨⟨vs, v, h1, e1⟩, fun x H'' y => ?_⟩
  obtain ⟨rfl, y⟩ := y
  exact ⟨B', Grow.refl, s, (rp_get r (y vs h1) e).mono g.b⟩
theorem yld_tup {a : Addr} {vs : List V} {xs : List D} (hS : SqT K B a vs) (r : RpAll K B vs xs) : Yld K F B ι H (Itt K a) xs := fun F' i B' ι' H' κ' _ g s => by
  have h1 : SqT K H' a vs := same_t s.ex (same_t g.b hS)
  refine ⟨fun d e => ?_, fun e => ⟨vs, h1, by rw [r.len]; exact e⟩⟩
  obtain ⟨v, e1, w⟩ := r.get e
  refine ⟨⟨vs, v, h1, e1⟩, fun x H'' y => ?_⟩
  obtain ⟨rfl, y⟩ := y
  exact ⟨B', Grow.refl, s, (rp_get r (y vs h1) e).mono g.b⟩
theorem rngD_get {lo : Int} {n i : Nat} {d : D} (e : (rngD lo n)[i]? = some d) : i < n ∧ d = .int (lo + (i : Int)) := by
  unfold rngD at e
  rw [List.getElem?_map] at e
  by_cases h : i < n
  · rw [List.getElem?_range h] at e
    simp only [Option.map_some, Option.some.injEq] at e
    exact ⟨h, e.symm⟩
  · rw [List.getElem?_eq_none (by rw [List.length_range]; omega)] at e
    cases e
theorem yld_rng {lo : Int} {n : Nat} : Yld K F B ι H (Itr lo n) (rngD lo n) := fun F' i B' ι' H' κ' _ g s => by
  refine ⟨fun d e => ?_, fun e => by show n ≤ i; simpa [rngD] using e⟩
  obtain ⟨h1, rfl⟩ := rngD_get e
  refine ⟨h1, fun x H'' y => ?_⟩
  obtain ⟨rfl, rfl⟩ := y
  exact ⟨B', Grow.refl, s, .int _⟩
theorem yld_str {x : Str} : Yld K F B ι H (Its x) (chars x) := fun F' i B' ι' H' κ' _ g s => by
  refine ⟨fun d e => ?_, fun e => ?_⟩
  · unfold chars at e
    rw [List.getElem?_map] at e
    cases q : x.cps.toList[i]? with
    | none => rw [q] at e; cases e
    | some c =>
      rw [q] at e
      simp only [Option.map_some, Option.some.injEq] at e
      subst e
      have q' : x.cps[i]? = some c := by rw [← q]; simp
      refine ⟨(Array.getElem?_eq_some_iff.mp q').1, fun y H'' y' => ?_⟩
      obtain ⟨rfl, c', e1, rfl⟩ := y'
      rw [q'] at e1; cases e1
      exact ⟨B', Grow.refl, s, .str _⟩
  · unfold chars at e
    rw [List.length_map] at e
    show x.cps.size ≤ i
    simpa using e
end
section
variable {X : Cx} {E : XK} {tg e a b : Expr} {m : ME} {ma : MA} {p pos : Pos}
theorem src_frz {K : PySem.W.Frag} {F : List Addr} {B : Hp} {ι : List Addr} {H : Hp} {κ : Kap} {v : V} {x : DV} {xs : List D} (s : HSt K F B ι H κ) (w : VOk K F B ι H v x) (e : x = .d (.list xs) ∨ x = .n xs) :
    ∃ a vs B', v = .ref a ∧ HSt K F B' ι H κ ∧ Grow F B ι H B' ι H ∧ B' a = some (.lst vs) ∧ RpAll K B' vs xs := by
  rcases e with rfl | rfl
  · cases w with
    | lst h r => exact ⟨_, _, B, rfl, s, Grow.refl, h, r⟩
  · obtain ⟨p, vs, rfl, h1, h2, h3, h4, r⟩ := w
    obtain ⟨a, b⟩ := s.frz h1 h2 h3 h4
    exact ⟨p, vs, _, rfl, a, b, upd_same, r.mono b.b⟩
theorem ji_list (he : JE X E e m) : JI X E tg e (mSrcL m) :=
  ji_imp (pi_list he) fun σ H R ⟨F, B, ι, ρ, κ, s, h⟩ => by
    unfold mSrcL at h
    refine evE s (fun x κ1 e1 v B1 ι1 H1 g1 s1 w1 => ?_) (fun n fs κ1 e1 => by rw [e1] at h; exact h) (fun e => by rw [e] at h; exact h)
    rw [e1] at h
    dsimp only [Out.bind] at h
    have go : ∀ xs, (x = .d (.list xs) ∨ x = .n xs) → (∀ J B' ι' H', Grow F B ι H B' ι' H' → HSt X.K F B' ι' H' κ1 → Yld X.K F B' ι' H' J xs → R J H') → ∃ a, v = .ref a ∧ (∃ xs, SqL X.K H1 a xs) ∧ R (Itl X.K a) H1 := fun xs ex hR => by
      obtain ⟨a, vs, B', rfl, s2, g2, hS, r⟩ := src_frz s1 w1 ex
      exact ⟨a, rfl, ⟨vs, lst1 (s2.ex _ _ hS)⟩, hR _ B' ι1 H1 (g1.trans g2) s2 (yld_list (lst1 hS) r)⟩
    split at h
    · rename_i xs κ' q
      split at q
      · rename_i ys; cases q; exact go _ (.inl rfl) h
      · rename_i ys; cases q; exact go _ (.inr rfl) h
      · cases q
    · rename_i q
      split at q <;> cases q
    · exact h.elim
theorem ji_tup (he : JE X E e m) : JI X E tg e (mSrcT m) :=
  ji_imp (pi_tup he) fun σ H R ⟨F, B, ι, ρ, κ, s, h⟩ => by
    unfold mSrcT at h
    refine evE s (fun x κ1 e1 v B1 ι1 H1 g1 s1 w1 => ?_) (fun n fs κ1 e1 => by rw [e1] at h; exact h) (fun e => by rw [e] at h; exact h)
    rw [e1] at h
    dsimp only [Out.bind] at h
    split at h
    · rename_i xs κ' q
      split at q
      · rename_i ys
        cases q
        cases w1 with
        | tup hS r => exact ⟨_, rfl, ⟨_, same_t s1.ex hS⟩, h _ B1 ι1 H1 g1 s1 (yld_tup hS r)⟩
      · cases q
    · rename_i q
      split at q <;> cases q
    · exact h.elim
theorem ji_str (he : JE X E e m) : JI X E tg e (mSrcS m) :=
  ji_imp (pi_str he) fun σ H R ⟨F, B, ι, ρ, κ, s, h⟩ => by
    unfold mSrcS at h
    refine evE s (fun x κ1 e1 v B1 ι1 H1 g1 s1 w1 => ?_) (fun n fs κ1 e1 => by rw [e1] at h; exact h) (fun e => by rw [e] at h; exact h)
    rw [e1] at h
    dsimp only [Out.bind] at h
    split at h
    · rename_i xs κ' q
      split at q
      · rename_i ys
        cases q
        cases w1
        exact ⟨ys, rfl, h _ B1 ι1 H1 g1 s1 yld_str⟩
      · cases q
    · rename_i q
      split at q <;> cases q
    · exact h.elim
theorem pi_or {w1 w2 : TI} (h1 : PI X tg e w1) (h2 : PI X tg e w2) : PI X tg e (fun σ H R => w1 σ H R ∨ w2 σ H R) :=
  ⟨fun pins s σ H R I q => q.elim (fun q => h1.run pins s σ H R I q) fun q => h2.run pins s σ H R I q⟩
theorem ji_any (he : JE X E e m) : JI X E tg e (mSrcA m) :=
  ji_imp (pi_or (ji_list (tg := tg) he) (ji_tup he)) fun σ H R ⟨F, B, ι, ρ, κ, s, h⟩ => by
    unfold mSrcA at h
    cases q : m ρ κ with
    | bad => rw [q] at h; exact h.elim
    | ex n fs κ' => exact .inl ⟨F, B, ι, ρ, κ, s, by unfold mSrcL; rw [q] at h ⊢; exact h⟩
    | ok x κ' =>
      rw [q] at h
      cases x with
      | d x =>
        cases x with
        | list xs => exact .inl ⟨F, B, ι, ρ, κ, s, by unfold mSrcL; rw [q]; exact h⟩
        | tuple xs => exact .inr ⟨F, B, ι, ρ, κ, s, by unfold mSrcT; rw [q]; exact h⟩
        | _ => exact h.elim
      | n xs => exact .inl ⟨F, B, ι, ρ, κ, s, by unfold mSrcL; rw [q]; exact h⟩
      | c i => exact h.elim
theorem ji_rng1 (hg : Gl X "range") (hm : X.mg "range" = none) (ha : JA X E [a] ma) (hs : starEach [a] X.env = [(false, eval a X.env)] := by rfl) : JI X E tg (.Call (.Name "range" p) [a] [] pos) (mRng1 ma) :=
  ji_imp (pi_range1 hg hm ha hs) fun σ H R ⟨F, B, ι, ρ, κ, s, h⟩ => by
    unfold mRng1 at h
    refine evA s (fun x κ1 e1 v B1 ι1 H1 g1 s1 w1 => ?_) (fun n fs κ1 e1 => by rw [e1] at h; exact h) (fun e => by rw [e] at h; exact h)
    rw [e1] at h
    dsimp only [Out.bind] at h
    split at h
    · rename_i xs κ' q
      split at q
      · rename_i j
        split at q
        · rename_i hj
          cases q
          cases w1 with
          | cons w w2 =>
            cases w2
            cases w
            exact ⟨j, rfl, hj.1, hj.2, h _ B1 ι1 H1 g1 s1 yld_rng⟩
        · cases q
      · cases q
    · rename_i q
      split at q
      · split at q <;> cases q
      · cases q
    · exact h.elim
theorem ji_rng2 (hg : Gl X "range") (hm : X.mg "range" = none) (ha : JA X E [a, b] ma) (hs : starEach [a, b] X.env = [(false, eval a X.env), (false, eval b X.env)] := by rfl) (hs2 : starEach [b] X.env = [(false, eval b X.env)] := by rfl) :
    JI X E tg (.Call (.Name "range" p) [a, b] [] pos) (mRng2 ma) :=
  ji_imp (pi_range2 hg hm ha hs hs2) fun σ H R ⟨F, B, ι, ρ, κ, s, h⟩ => by
    unfold mRng2 at h
    refine evA s (fun x κ1 e1 v B1 ι1 H1 g1 s1 w1 => ?_) (fun n fs κ1 e1 => by rw [e1] at h; exact h) (fun e => by rw [e] at h; exact h)
    rw [e1] at h
    dsimp only [Out.bind] at h
    split at h
    · rename_i xs κ' q
      split at q
      · rename_i i j
        split at q
        · rename_i hj
          cases q
          cases w1 with
          | cons w w2 =>
            cases w2 with
            | cons w' w3 =>
              cases w3
              cases w
              cases w'
              exact ⟨i, j, rfl, hj, h _ B1 ι1 H1 g1 s1 yld_rng⟩
        · cases q
      · cases q
    · rename_i q
      split at q
      · split at q <;> cases q
      · cases q
    · exact h.elim
end

/-! ### for -/
def forGo (g : MG) (body : MS) : List D → Rho → Kap → OutS
  | [], ρ, κ => .nx ρ κ
  | d :: r, ρ, κ => match g (.d d) ρ κ with
    | none => .bad
    | some (ρ1, κ1) => match body ρ1 κ1 with
      | .nx ρ2 κ2 => forGo g body r ρ2 κ2
      | .ct ρ2 κ2 => forGo g body r ρ2 κ2
      | .bk ρ2 κ2 => .nx ρ2 κ2
      | o => o
def mFor (src : MI) (g : MG) (body : MS) : MS := fun ρ κ => (src ρ κ).bindS fun ds κ1 => forGo g body ds ρ κ1
def whileGo (c : MT) (body : MS) : Nat → Rho → Kap → OutS
  | 0, _, _ => .bad
  | n + 1, ρ, κ => (c ρ κ).bindS fun t κ1 => if t = true then (match body ρ κ1 with
      | .nx ρ2 κ2 => whileGo c body n ρ2 κ2
      | .ct ρ2 κ2 => whileGo c body n ρ2 κ2
      | .bk ρ2 κ2 => .nx ρ2 κ2
      | o => o) else .nx ρ κ1
def mWhile (n : Nat) (c : MT) (body : MS) : MS := fun ρ κ => whileGo c body n ρ κ
section
variable {X : Cx} {E : XK} {tg it c : Expr} {body : List Stmt} {src : MI} {g : MG} {ts : List Nat} {mb : MS} {mc : MT} {pos : Pos}
theorem js_for (hp : PassesOwn (model X.prog X.w) X.A X.env X.xe) (hc : X.calm = true) (hi : JI X E tg it src) (hg : JG X tg g ts) (hb : JSs X E body mb)
    (hs : ∀ x, foldedSetIterable it X.env x = pure x := by intro _; rfl) : JS X E (.For tg it body [] pos) (mFor src g mb) :=
  ps_imp (ps_for hp hc hi hg hb hs) fun De σ H ⟨F, B, ι, ρ, κ, s, h⟩ => by
    unfold mFor at h
    refine ⟨F, B, ι, ρ, κ, s, ?_⟩
    cases q : src ρ κ with
    | bad => rw [q] at h; exact h
    | ex n fs κ' => rw [q] at h; exact h
    | ok ds κ1 =>
      rw [q] at h
      have h : PostS X.K X.mg E F B ι H De (forGo g mb ds ρ κ1) := h
      intro J B1 ι1 H1 g1 s1 y
      refine ⟨fun i m σ H => ∃ B' ι' ρ' κ', Grow F B1 ι1 H1 B' ι' H ∧ SOk X.K F B' ι' σ H ρ' κ' ∧ m + i = ds.length ∧ PostS X.K X.mg E F B' ι' H De (forGo g mb (ds.drop i) ρ' κ'), ⟨ds.length, B1, ι1, ρ, κ1, Grow.refl, s.step g1 s1, rfl, PostS.grow h g1⟩, ?_⟩
      rintro i m σ H ⟨B', ι', ρ', κ', g2, s2, em, h2⟩
      obtain ⟨y1, y2⟩ := y F i B' ι' H κ' (fun _ m => m) (g2.less fun _ m => nomatch m) s2.hs
      cases e : ds[i]? with
      | none =>
        have hl : ds.length ≤ i := List.getElem?_eq_none_iff.mp e
        refine .inl ⟨y2 hl, ?_⟩
        rw [List.drop_eq_nil_of_le hl] at h2
        exact h2 σ B' ι' H Grow.refl s2
      | some d =>
        have hl : i < ds.length := (List.getElem?_eq_some_iff.mp e).1
        obtain ⟨y3, y4⟩ := y1 d e
        have ed : ds.drop i = d :: ds.drop (i + 1) := by
          rw [List.drop_eq_getElem_cons hl]
          rw [List.getElem?_eq_getElem hl] at e
          cases e; rfl
        rw [ed] at h2
        simp only [forGo] at h2
        refine .inr ⟨y3, fun σ' H' => ∃ B' ι' ρ' κ', Grow F B1 ι1 H1 B' ι' H' ∧ SOk X.K F B' ι' σ' H' ρ' κ' ∧ (m - 1) + (i + 1) = ds.length ∧ PostS X.K X.mg E F B' ι' H' De (forGo g mb (ds.drop (i + 1)) ρ' κ'), fun σ' H' hN => ⟨m - 1, by omega, hN⟩, fun x H' hy => ?_⟩
        obtain ⟨B2, g3, s3, r⟩ := y4 x H' hy
        refine ⟨F, B2, ι', ρ', κ', .d d, s2.step g3 s3, r, ?_⟩
        cases q2 : g (.d d) ρ' κ' with
        | none => rw [q2] at h2; exact h2
        | some p =>
          obtain ⟨ρ2, κ2⟩ := p
          rw [q2] at h2
          intro σ2 B4 ι4 H2 _ g4 s4
          refine ⟨F, B4, ι4, ρ2, κ2, s4, ?_⟩
          have gg := g2.trans (g3.trans g4)
          dsimp only at h2
          cases q3 : mb ρ2 κ2 with
          | nx ρ3 κ3 => rw [q3] at h2; exact fun σ3 B3 ι3 H3 g5 s5 => ⟨B3, ι3, ρ3, κ3, gg.trans g5, s5, by omega, PostS.grow h2 ((g3.trans g4).trans g5)⟩
          | ct ρ3 κ3 => rw [q3] at h2; exact fun σ3 B3 ι3 H3 g5 s5 => ⟨B3, ι3, ρ3, κ3, gg.trans g5, s5, by omega, PostS.grow h2 ((g3.trans g4).trans g5)⟩
          | bk ρ3 κ3 => rw [q3] at h2; exact fun σ3 B3 ι3 H3 g5 s5 => h2 σ3 B3 ι3 H3 ((g3.trans g4).trans g5) s5
          | rt x κ3 => rw [q3] at h2; exact fun v B3 ι3 H3 g5 s5 w5 => h2 v B3 ι3 H3 ((g3.trans g4).trans g5) s5 w5
          | ex n fs κ3 => rw [q3] at h2; exact XW.grow h2 (g3.trans g4) fun _ m => m
          | bad => rw [q3] at h2; exact h2
theorem js_while {n : Nat} (hp : PassesOwn (model X.prog X.w) X.A X.env X.xe) (hc : JT X E c mc) (hb : JSs X E body mb) : JS X E (.While c body [] pos) (mWhile n mc mb) :=
  ps_imp (ps_while hp hc hb) fun De σ H ⟨F, B, ι, ρ, κ, s, h⟩ => by
    unfold mWhile at h
    refine ⟨fun m σ' H' => ∃ B' ι' ρ' κ', Grow F B ι H B' ι' H' ∧ SOk X.K F B' ι' σ' H' ρ' κ' ∧ PostS X.K X.mg E F B' ι' H' De (whileGo mc mb m ρ' κ'), ⟨n, B, ι, ρ, κ, Grow.refl, s, h⟩, ?_⟩
    rintro m σ H' ⟨B', ι', ρ', κ', g2, s2, h2⟩
    cases m with
    | zero => exact h2.elim
    | succ m =>
      simp only [whileGo] at h2
      refine evT s2 (fun t κ1 e1 B1 ι1 H1 g1 s1 => ?_) (fun n fs κ1 e1 => by rw [e1] at h2; exact h2) (fun e => by rw [e] at h2; exact h2)
      rw [e1] at h2
      cases t with
      | false => exact h2 σ B1 ι1 H1 g1 (s2.step g1 s1)
      | true =>
        rw [if_pos rfl]
        refine ⟨fun σ' H' => ∃ B' ι' ρ' κ', Grow F B ι H B' ι' H' ∧ SOk X.K F B' ι' σ' H' ρ' κ' ∧ PostS X.K X.mg E F B' ι' H' De (whileGo mc mb m ρ' κ'), fun σ' H' hN => ⟨m, Nat.lt_succ_self m, hN⟩, F, B1, ι1, ρ', κ1, s2.step g1 s1, ?_⟩
        have h2 : PostS X.K X.mg E F B' ι' H' De (match mb ρ' κ1 with
          | .nx ρ2 κ2 => whileGo mc mb m ρ2 κ2
          | .ct ρ2 κ2 => whileGo mc mb m ρ2 κ2
          | .bk ρ2 κ2 => .nx ρ2 κ2
          | o => o) := h2
        cases q3 : mb ρ' κ1 with
        | nx ρ3 κ3 => rw [q3] at h2; exact fun σ3 B3 ι3 H3 g5 s5 => ⟨B3, ι3, ρ3, κ3, g2.trans (g1.trans g5), s5, PostS.grow h2 (g1.trans g5)⟩
        | ct ρ3 κ3 => rw [q3] at h2; exact fun σ3 B3 ι3 H3 g5 s5 => ⟨B3, ι3, ρ3, κ3, g2.trans (g1.trans g5), s5, PostS.grow h2 (g1.trans g5)⟩
        | bk ρ3 κ3 => rw [q3] at h2; exact fun σ3 B3 ι3 H3 g5 s5 => h2 σ3 B3 ι3 H3 (g1.trans g5) s5
        | rt x κ3 => rw [q3] at h2; exact fun v B3 ι3 H3 g5 s5 w5 => h2 v B3 ι3 H3 (g1.trans g5) s5 w5
        | ex n fs κ3 => rw [q3] at h2; exact XW.grow h2 g1 fun _ m => m
        | bad => rw [q3] at h2; exact h2
end
end DL

namespace DL
open L2 PyProof.Rows PySem PySem.Spec

/-! ### list comprehensions -/
def wipeR (ρ : Rho) : List Nat → Rho
  | [] => ρ
  | v :: vs => (wipeR ρ vs).set v none
def noex {α : Type} : Out α → Out α
  | .ex _ _ _ => .bad
  | o => o
def lcGo (g : MG) (t : MT) (el : ME) (ρw : Rho) : List D → List D → Kap → Out DV
  | [], acc, κ => .ok (.n acc) κ
  | d :: r, acc, κ => match g (.d d) ρw κ with
    | none => .bad
    | some (ρ1, κ1) => (noex (t ρ1 κ1)).bind fun b κ2 => if b = true then (noex (el ρ1 κ2)).bind fun y κ3 => match fz y with
        | .d e => if acc.length < 1000000 then lcGo g t el ρw r (acc ++ [e]) κ3 else .bad
        | _ => .bad
      else lcGo g t el ρw r acc κ2
def mLc (src : MI) (g : MG) (t : MT) (el : ME) (vs : List Nat) : ME := fun ρ κ => (src ρ κ).bind fun ds κ1 => lcGo g t el (wipeR ρ vs) ds [] κ1
def mYes : MT := fun _ κ => .ok true κ
section
variable {K : PySem.W.Frag} {mg : Str → Option Value} {E : XK} {F : List Addr} {B : Hp} {ι : List Addr} {σ : L2.St} {H : Hp} {ρ : Rho} {κ : Kap}
theorem SOk.none (s : SOk K F B ι σ H ρ κ) (i : Nat) : SOk K F B ι (σ.set i none) H (ρ.set i none) κ :=
  ⟨s.hs, by rw [List.length_set, List.length_set]; exact s.sl, fun j y e => by
    by_cases q : i = j
    · subst q
      by_cases hl : i < ρ.length
      · rw [List.getElem?_set_self hl] at e; cases e
      · rw [List.getElem?_eq_none (by rw [List.length_set]; omega)] at e; cases e
    · rw [List.getElem?_set_ne q] at e
      obtain ⟨u, e1, w1⟩ := s.loc j y e
      exact ⟨u, by rw [List.getElem?_set_ne q]; exact e1, w1⟩⟩
theorem SOk.wipe (s : SOk K F B ι σ H ρ κ) : ∀ vs : List Nat, SOk K F B ι (wipe σ vs) H (wipeR ρ vs) κ
  | [] => s
  | v :: vs => (SOk.wipe s vs).none v
theorem wipe_get (σ : L2.St) (i : Nat) : ∀ vs : List Nat, i ∈ vs → i < σ.length → (wipe σ vs)[i]? = some none
  | [], h, _ => by cases h
  | v :: vs, h, hl => by
    show ((wipe σ vs).set v none)[i]? = some none
    by_cases q : v = i
    · subst q
      rw [List.getElem?_set_self (by rw [wipe_length]; exact hl)]
    · rw [List.getElem?_set_ne q]
      refine wipe_get σ i vs ?_ hl
      rcases List.mem_cons.mp h with rfl | h
      · exact absurd rfl q
      · exact h
theorem wipe_eq {σ σ' : L2.St} {vs ts : List Nat} (hl : σ'.length = σ.length) (h : ∀ i, i ∉ ts → σ'[i]? = (wipe σ vs)[i]?) (ht : ∀ i ∈ ts, i ∈ vs) : wipe σ' vs = wipe σ vs := by
  apply List.ext_getElem?
  intro i
  by_cases hi : i ∈ vs
  · by_cases hb : i < σ.length
    · rw [wipe_get σ i vs hi hb, wipe_get σ' i vs hi (by omega)]
    · rw [List.getElem?_eq_none (by rw [wipe_length]; omega), List.getElem?_eq_none (by rw [wipe_length]; omega)]
  · rw [wipe_out hi, h i (fun z => hi (ht i z)), ]
/-- the protected new list is written -/
theorem HSt.setP {p : Addr} {o : HO} (s : HSt K (p :: F) B ι H κ) (hp : p ∉ F) : HSt K (p :: F) B ι (upd H p o) κ ∧ Grow F B ι H B ι (upd H p o) := by
  obtain ⟨h1, h2, h3⟩ := s.pro p (List.mem_cons_self ..)
  refine ⟨⟨fun a u e => ?_, s.len, s.nd, s.out, fun a m => ?_, fun i a cl e1 e2 => ?_, fun a m => ?_, fun q m => let t := s.tb q m; t.to (Same.refl _) (upd_ne fun e => t.2.2.2 (e ▸ List.mem_cons_self)) t.2.1 t.2.2.1 t.2.2.2⟩, ⟨Same.refl _, fun _ _ h => h, fun a m => upd_ne (fun (e : a = p) => hp (e ▸ m))⟩⟩
  · rw [upd_ne (fun (q : a = p) => by rw [q, h2] at e; cases e)]; exact s.ex a u e
  · obtain ⟨a1, a2, a3⟩ := s.pro a m
    refine ⟨?_, a2, a3⟩
    by_cases q : a = p
    · subst q; exact ⟨_, upd_same⟩
    · rw [upd_ne q]; exact a1
  · exact (s.cel i a cl e1 e2).mono (Same.refl _) (fun _ _ h => h) (upd_ne (fun (e : a = p) => h3 (e ▸ List.mem_of_getElem? e1)))
  · rw [upd_ne (fun (e : a = p) => h3 (e ▸ m))]; exact s.tr a m
end
section
variable {X : Cx} {E : XK}
/-- the new list of a comprehension, before it -/
theorem HSt.tmp {K : PySem.W.Frag} {F : List Addr} {B : Hp} {ι : List Addr} {H : Hp} {κ : Kap} (s : HSt K F B ι H κ) {p : Addr} {o : HO} (h : H p = none) :
    HSt K (p :: F) B ι (upd H p o) κ ∧ Grow F B ι H B ι (upd H p o) ∧ p ∉ F := by
  obtain ⟨s1, g1, h1, h2, h3⟩ := s.loose (o := o) h
  refine ⟨⟨s1.ex, s1.len, s1.nd, s1.out, fun a m => ?_, s1.cel, s1.tr, fun q m => let t := s1.tb q m; ⟨t.1, t.2.1, t.2.2.1, fun z => (List.mem_cons.mp z).elim ((s.tb q m).nn h) t.2.2.2⟩⟩, g1, h3⟩
  rcases List.mem_cons.mp m with rfl | m
  · exact ⟨⟨_, upd_same⟩, h1, h2⟩
  · exact s1.pro a m
abbrev JTs (X : Cx) (E : XK) (ifs : List Expr) (m : MT) : Prop := PTs X ifs (tT X.K X.mg E m)
theorem jts_nil : JTs X E [] mYes := ⟨fun pins s σ H Q I ⟨F, B, ι, ρ, κ, so, h⟩ => (pts_nil (X := X)).run pins s σ H Q I (h B ι H Grow.refl so.hs)⟩
theorem jts_one {c : Expr} {m : MT} (h : JT X E c m) : JTs X E [c] m := pts_one h
theorem lc_imp {K : PySem.W.Frag} {mg : Str → Option Value} {E : XK} {src : MI} {g : MG} {t : MT} {el : ME} {ts vs : List Nat} (ht : ∀ i ∈ ts, i ∈ vs) {σ : L2.St} {H : Hp} {Q : VK} (h : tM K mg E (mLc src g t el vs) σ H Q) :
    tLc (tI K mg E src) (tG K g ts) (tT K mg E0 t) (tM K mg E0 el) vs σ H Q := by
  obtain ⟨F, B, ι, ρ, κ, s, h⟩ := h
  unfold mLc at h
  refine ⟨F, B, ι, ρ, κ, s, ?_⟩
  cases q : src ρ κ with
  | bad => rw [q] at h; exact h
  | ex n fs κ' => rw [q] at h; exact h
  | ok ds κ1 =>
    rw [q] at h
    have h : PostE K mg E F B ι H Q (lcGo g t el (wipeR ρ vs) ds [] κ1) := h
    intro J B1 ι1 H1 g1 s1 y Dl hD
    obtain ⟨sD, gD, hDF⟩ := s1.tmp (o := .lst []) hD
    refine ⟨fun i m H' => ∃ B' ι' κ' acc vacc, Grow F B1 ι1 H1 B' ι' H' ∧ HSt K (Dl :: F) B' ι' H' κ' ∧ H' Dl = some (.lst vacc) ∧ RpAll K B' vacc acc ∧ m + i = ds.length ∧ PostE K mg E F B' ι' H' Q (lcGo g t el (wipeR ρ vs) (ds.drop i) acc κ'),
      ⟨ds.length, B1, ι1, κ1, [], [], gD, sD, upd_same, .nil, rfl, PostE.grow h (g1.trans gD)⟩, ?_⟩
    rintro i m H' ⟨B', ι', κ', acc, vacc, g2, s2, hL, ra, em, h2⟩
    obtain ⟨y1, y2⟩ := y (Dl :: F) i B' ι' H' κ' (fun _ m => List.mem_cons_of_mem _ m) (g2.less fun _ m => nomatch m) s2
    obtain ⟨p1, p2, p3⟩ := s2.pro Dl (List.mem_cons_self ..)
    cases e : ds[i]? with
    | none =>
      have hl : ds.length ≤ i := List.getElem?_eq_none_iff.mp e
      refine .inl ⟨y2 hl, ?_⟩
      rw [List.drop_eq_nil_of_le hl] at h2
      exact h2 (.ref Dl) B' ι' H' Grow.refl (s2.less fun _ m => List.mem_cons_of_mem _ m) ⟨Dl, vacc, rfl, hL, p2, p3, hDF, ra⟩
    | some d =>
      have hl : i < ds.length := (List.getElem?_eq_some_iff.mp e).1
      obtain ⟨y3, y4⟩ := y1 d e
      have ed : ds.drop i = d :: ds.drop (i + 1) := by
        rw [List.drop_eq_getElem_cons hl]
        rw [List.getElem?_eq_getElem hl] at e
        cases e; rfl
      rw [ed] at h2
      simp only [lcGo] at h2
      refine .inr ⟨y3, fun H' => ∃ B' ι' κ' acc vacc, Grow F B1 ι1 H1 B' ι' H' ∧ HSt K (Dl :: F) B' ι' H' κ' ∧ H' Dl = some (.lst vacc) ∧ RpAll K B' vacc acc ∧ (m - 1) + (i + 1) = ds.length ∧ PostE K mg E F B' ι' H' Q (lcGo g t el (wipeR ρ vs) (ds.drop (i + 1)) acc κ'),
        fun H' hN => ⟨m - 1, by omega, hN⟩, fun x H'' hy => ?_⟩
      obtain ⟨B2, g3, s3, r⟩ := y4 x H'' hy
      have g3' : Grow F B' ι' H' B2 ι' H'' := g3.less fun _ m => List.mem_cons_of_mem _ m
      have sw : SOk K (Dl :: F) B2 ι' (wipe σ vs) H'' (wipeR ρ vs) κ' := (s.step (g1.trans (g2.trans g3')) s3).wipe vs
      refine ⟨Dl :: F, B2, ι', wipeR ρ vs, κ', .d d, sw, r, ?_⟩
      cases q2 : g (.d d) (wipeR ρ vs) κ' with
      | none => rw [q2] at h2; exact h2
      | some p =>
        obtain ⟨ρ2, κ2⟩ := p
        rw [q2] at h2
        intro σ2 B4 ι4 H2 ew g4 s4
        have g4' : Grow F B2 ι' H'' B4 ι4 H2 := g4.less fun _ m => List.mem_cons_of_mem _ m
        have hlen : σ2.length = σ.length := by rw [ew.1, wipe_length]
        refine ⟨wipe_eq hlen ew.2 ht, ?_⟩
        dsimp only at h2
        refine evT s4 (fun b κ3 e3 B5 ι5 H5 g5 s5 => ?_) (fun n fs κ3 e3 => by rw [e3] at h2; exact h2.elim) (fun e3 => by rw [e3] at h2; exact h2)
        rw [e3] at h2
        have g5' : Grow F B4 ι4 H2 B5 ι5 H5 := g5.less fun _ m => List.mem_cons_of_mem _ m
        have hL5 : H5 Dl = some (.lst vacc) := (g5.fr Dl (List.mem_cons_self ..)).trans ((g4.fr Dl (List.mem_cons_self ..)).trans ((g3.fr Dl (List.mem_cons_self ..)).trans hL))
        have gb := g3'.trans (g4'.trans g5')
        cases b with
        | false =>
          rw [if_neg Bool.false_ne_true]
          exact ⟨B5, ι5, κ3, acc, vacc, g2.trans gb, s5, hL5, ra.mono gb.b, by omega, PostE.grow h2 gb⟩
        | true =>
          rw [if_pos rfl]
          have h2 : PostE K mg E F B' ι' H' Q ((noex (el ρ2 κ3)).bind fun y κ3 => match fz y with
            | .d e => if acc.length < 1000000 then lcGo g t el (wipeR ρ vs) (ds.drop (i + 1)) (acc ++ [e]) κ3 else .bad
            | _ => .bad) := h2
          refine evE (s4.step g5 s5) (fun y κ4 e4 v B6 ι6 H6 g6 s6 w6 => ?_) (fun n fs κ4 e4 => by rw [e4] at h2; exact h2.elim) (fun e4 => by rw [e4] at h2; exact h2)
          rw [e4] at h2
          obtain ⟨B7, s7, g7, w7⟩ := s6.fz w6
          have g67 := g6.trans g7
          have g67' : Grow F B5 ι5 H5 B7 ι6 H6 := g67.less fun _ m => List.mem_cons_of_mem _ m
          dsimp only [noex, Out.bind] at h2
          split at h2
          · rename_i e5 q5
            rw [q5] at w7
            split at h2
            · rename_i hacc
              obtain ⟨s8, g8⟩ := s7.setP (o := .lst (vacc ++ [v])) hDF
              refine ⟨vacc, (g6.fr Dl (List.mem_cons_self ..)).trans hL5, by rw [ra.len]; exact Nat.lt_of_lt_of_le hacc (by decide), B7, ι6, κ4, acc ++ [e5], vacc ++ [v], (g2.trans gb).trans (g67'.trans g8), s8, upd_same, ?_, by omega, PostE.grow h2 (gb.trans (g67'.trans g8))⟩
              exact (ra.mono (gb.trans g67').b).append (.cons w7 .nil)
            · exact h2.elim
          · exact h2.elim
theorem je_lc {elt tg iter : Expr} {ifs : List Expr} {scope : Scope} {own : List (Str × Nat)} {pos : Pos} {src : MI} {g : MG} {t : MT} {el : ME} {ts : List Nat} (hc : X.calm = true) (hN : X.N.Nodup) (hi : JI X E tg iter src) (ok : BlkOk X.N X.env.scope scope own)
    (hg : ∀ (s : Shared) (H : Hp) (C : Addr) (cl : List (Str × Addr)) (fp : List Addr), JG (X.blk s H scope (compEnvC scope cl C X.env) fp) tg g ts) (ht : ∀ (s : Shared) (H : Hp) (C : Addr) (cl : List (Str × Addr)) (fp : List Addr), JTs (X.blk s H scope (compEnvC scope cl C X.env) fp) E0 ifs t)
    (he : ∀ (s : Shared) (H : Hp) (C : Addr) (cl : List (Str × Addr)) (fp : List Addr), JE (X.blk s H scope (compEnvC scope cl C X.env) fp) E0 elt el) (hts : ∀ i ∈ ts, i ∈ own.map (·.2) := by decide) (hs : ∀ x, foldedSetIterable iter X.env x = pure x := by intro _; rfl) :
    JE X E (.ListComp elt [⟨tg, iter, ifs, 0⟩] scope pos) (mLc src g t el (own.map (·.2))) :=
  pe_imp (pe_lc hc hN hi ok hg ht he hs) fun _ _ _ h => lc_imp hts h
theorem js_setLc {i : Nat} {y : Str} {py : Pos} {elt tg iter : Expr} {ifs : List Expr} {scope : Scope} {own : List (Str × Nat)} {pos spos : Pos} {src : MI} {g : MG} {t : MT} {el : ME} {ts : List Nat} (hc : X.calm = true) (hN : X.N.Nodup) (hy : X.N[i]? = some y) (hyl : X.env.scope.names.lookup y = some .local)
    (hsw : swapsWith (.ListComp elt [⟨tg, iter, ifs, 0⟩] scope pos) (some (.Name y py)) spos.line X.env = pure true) (hi : JI X E tg iter src) (ok : BlkOk X.N X.env.scope scope own)
    (hg : ∀ (s : Shared) (H : Hp) (C : Addr) (cl : List (Str × Addr)) (fp : List Addr), JG (X.blk s H scope (compEnvC scope cl C X.env) fp) tg g ts) (ht : ∀ (s : Shared) (H : Hp) (C : Addr) (cl : List (Str × Addr)) (fp : List Addr), JTs (X.blk s H scope (compEnvC scope cl C X.env) fp) E0 ifs t)
    (he : ∀ (s : Shared) (H : Hp) (C : Addr) (cl : List (Str × Addr)) (fp : List Addr), JE (X.blk s H scope (compEnvC scope cl C X.env) fp) E0 elt el) (hts : ∀ i ∈ ts, i ∈ own.map (·.2) := by decide) (hs : ∀ x, foldedSetIterable iter X.env x = pure x := by intro _; rfl) :
    JS X E (.Assign [.Name y py] (.ListComp elt [⟨tg, iter, ifs, 0⟩] scope pos) spos) (mSet i (mLc src g t el (own.map (·.2)))) :=
  ps_imp (ps_setLc hc hN hy hyl hsw hi ok hg ht he hs) fun De σ H h => by
    obtain ⟨F, B, ι, ρ, κ, s, h⟩ := set_imp (m := mLc src g t el (own.map (·.2))) h
    exact lc_imp hts ⟨F, B, ι, ρ, κ, s, h⟩
end
end DL

namespace DL
open L2 PyProof.Rows PySem PySem.Spec
/-! ### tuple * 1, tuple * 0 -/
theorem tuple_mulSame (l : Addr) (items : Array Value) (n : Nat) (dd : Option Addr) (sl : Array (Option Value)) (x : Int) (u : Tok) (c0 : (decide (x < -(2 ^ 63)) || decide (x ≥ 2 ^ 63)) = false) (c1 : (items.isEmpty || x == 1) = true) :
    Meets (Builtin.«tuple.__mul__» ⟨[.ref l, .int x u], []⟩) (fun _ R s => s.heap.get? l = some { cls := .type "tuple", dict := dd, data := .seq items n, slots := sl } ∧ R (.ok (.ret (Value.ref l))) s) :=
  .of_wp fun prog w A R s h => by
    obtain ⟨hp, g, d, tk, os⟩ := s
    obtain ⟨hl, h⟩ := h
    have f1 := AutoSeq1.idx_int
    wp_walk using wpAny_loadPart' hl
    repeat (first
      | (refine wpAny_ite_false (decide_eq_false (by rw [c0]; exact Bool.false_ne_true)) ?_; wp_walk using wpAny_loadPart' hl)
      | (refine wpAny_ite_true (decide_eq_true c1) ?_; wp_walk using wpAny_loadPart' hl))
    exact ⟨_, rfl, h⟩
theorem tuple_mulNone (l : Addr) (items : Array Value) (n : Nat) (dd : Option Addr) (sl : Array (Option Value)) (x : Int) (u : Tok) (c0 : (decide (x < -(2 ^ 63)) || decide (x ≥ 2 ^ 63)) = false) (c1 : (items.isEmpty || x == 1) = false) (c2 : (decide (x ≤ 0) || items.isEmpty) = true) :
    Meets (Builtin.«tuple.__mul__» ⟨[.ref l, .int x u], []⟩) (fun _ R s => s.heap.get? l = some { cls := .type "tuple", dict := dd, data := .seq items n, slots := sl } ∧
      R (.ok (.ret (Value.ref s.heap.objs.size))) { s with heap := s.heap.push { cls := Value.type "tuple", data := Data.seq #[] }, toks := s.toks }) :=
  .of_wp fun prog w A R s h => by
    obtain ⟨hp, g, d, tk, os⟩ := s
    obtain ⟨hl, h⟩ := h
    have f1 := AutoSeq1.idx_int
    wp_walk using wpAny_loadPart' hl
    repeat (first
      | (refine wpAny_ite_false (decide_eq_false (by rw [c0]; exact Bool.false_ne_true)) ?_; wp_walk using wpAny_loadPart' hl)
      | (refine wpAny_ite_false (decide_eq_false (by rw [c1]; exact Bool.false_ne_true)) ?_; wp_walk using wpAny_loadPart' hl)
      | (refine wpAny_ite_true (decide_eq_true c2) ?_; wp_walk using wpAny_loadPart' hl))
    exact ⟨_, rfl, h⟩
def rRepT2 (K : PySem.W.Frag) : R2 := fun x y H Q => ∃ l k xs, x = .ref l ∧ y = .int k ∧ SqT K H l xs ∧ -1000000 ≤ k ∧ k ≤ 1000000 ∧
  ((xs = [] ∨ k = 1) → Q (.ref l) H) ∧ (¬ (xs = [] ∨ k = 1) → k ≤ 0 ∧ ∀ p, H p = none → Q (.ref p) (upd H p (.tup [])))
theorem op_repT2 {X : Cx} : OpR X (binaryOp .Mult) (rRepT2 X.K) := by
  intro pins s σ H x y v u Q I rx ry h
  obtain ⟨l, k, xs, rfl, rfl, hT, h1, h2, q1, q2⟩ := h
  cases rx
  obtain ⟨t, rfl⟩ := ry
  obtain ⟨its, r, ⟨⟨cls, dd, data, sl⟩, ho, hc, n, hd⟩, hs⟩ := I.tuple hT
  simp only at hc hd
  subst hc hd
  have hle : its.length = xs.length := r.length.symm
  have c0 : (decide (k < -(2 ^ 63)) || decide (k ≥ 2 ^ 63)) = false := by
    rw [decide_eq_false (by omega), decide_eq_false (by omega)] <;> rfl
  have hne : (its.toArray.isEmpty || k == 1) = true ↔ (xs = [] ∨ k = 1) := by
    rw [Bool.or_eq_true]
    refine or_congr ?_ beq_iff_eq
    cases its with
    | nil =>
      cases xs with
      | nil => simp
      | cons a b => simp at hle
    | cons a b =>
      cases xs with
      | nil => simp at hle
      | cons c d => simp
  by_cases c1 : (its.toArray.isEmpty || k == 1) = true
  · refine wpAny_binaryOp_repeat_ref (T := "tuple") (U := "int") (by decide) ⟨_, ho, rfl⟩ (fun s' => typeIs_int s' k t) noFill_tuple_mul F.fills_int_mul F.slot_int_rmul repeat_tuple F.slot_int_index.lookup
      (call_meets F.slot_int_rmul (typeIs_int s k t) F.entry_int_rmul (F.args_int_rmul_2 _ _) (int_rmul_tuple k t l its.toArray n dd sl)
        ⟨ho, rfl, ⟨_, ho, rfl⟩, call_meets F.slot_tuple_mul ⟨_, ho, rfl⟩ F.entry_tuple_mul (F.args_tuple_mul_2 _ _) (tuple_mulSame l its.toArray n dd sl k t c0 c1) ⟨ho, ?_⟩⟩)
    exact ⟨.ref l, H, I, rfl, q1 (hne.mp c1)⟩
  · obtain ⟨hk, q⟩ := q2 fun z => c1 (hne.mpr z)
    have c1 : (its.toArray.isEmpty || k == 1) = false := by simpa using c1
    have c2 : (decide (k ≤ 0) || its.toArray.isEmpty) = true := by rw [decide_eq_true hk]; rfl
    refine wpAny_binaryOp_repeat_ref (T := "tuple") (U := "int") (by decide) ⟨_, ho, rfl⟩ (fun s' => typeIs_int s' k t) noFill_tuple_mul F.fills_int_mul F.slot_int_rmul repeat_tuple F.slot_int_index.lookup
      (call_meets F.slot_int_rmul (typeIs_int s k t) F.entry_int_rmul (F.args_int_rmul_2 _ _) (int_rmul_tuple k t l its.toArray n dd sl)
        ⟨ho, rfl, ⟨_, ho, rfl⟩, call_meets F.slot_tuple_mul ⟨_, ho, rfl⟩ F.entry_tuple_mul (F.args_tuple_mul_2 _ _) (tuple_mulNone l its.toArray n dd sl k t c0 c1 c2) ⟨ho, ?_⟩⟩)
    refine ⟨.ref s.heap.objs.size, _, I.laid (t' := s.toks) (o := .tup []) (fun b ob q => Heap.get?_push_of_some _ q) (Nat.le_refl _) ?_, rfl, q _ (I.hok.fresh (Nat.le_refl _))⟩
    exact ⟨Nat.zero_le _, _, .nil, IsTup.new _ _⟩
end DL

namespace DL
open L2 PyProof.Rows PySem PySem.Spec

theorem line16 {n : Nat} (h : n ≤ 16000000) : n ≤ sizeLine := Nat.le_trans h (by decide)
section
variable {K : PySem.W.Frag} {F : List Addr} {B : Hp} {ι : List Addr} {H : Hp} {κ : Kap} {v w : V} {x y z : DV}
/-- what BinI asks, where nothing is made -/
theorem keepQ (s : HSt K F B ι H κ) {d : D} {u : V} (r : Rp K B u d) {Q : VK} (q : ∀ v' B' ι' H', Grow F B ι H B' ι' H' → HSt K F B' ι' H' κ → VOk K F B' ι' H' v' (.d d) → Q v' H') : Q u H := q u B ι H Grow.refl s r
/-- .. where a new list is made -/
theorem newQ (s : HSt K F B ι H κ) {vs : List V} {xs : List D} (r : RpAll K B vs xs) {Q : VK} (q : ∀ v' B' ι' H', Grow F B ι H B' ι' H' → HSt K F B' ι' H' κ → VOk K F B' ι' H' v' (.n xs) → Q v' H') :
    ∀ p, H p = none → Q (.ref p) (upd H p (.lst vs)) := fun p hp => by
  obtain ⟨s1, g1, w1⟩ := s.newN hp r
  exact q _ B ι _ g1 s1 w1
/-- .. a new tuple -/
theorem newT (s : HSt K F B ι H κ) {vs : List V} {xs : List D} (r : RpAll K B vs xs) {Q : VK} (q : ∀ v' B' ι' H', Grow F B ι H B' ι' H' → HSt K F B' ι' H' κ → VOk K F B' ι' H' v' (.d (.tuple xs)) → Q v' H') :
    ∀ p, H p = none → Q (.ref p) (upd H p (.tup vs)) := fun p hp => by
  obtain ⟨s1, g1⟩ := s.new (o := .tup vs) hp
  exact q _ _ ι _ g1 s1 (.tup (.inl (.inl upd_same)) (r.mono g1.b))
end

/-! ### + -/
def addD (κ : Kap) (x y : DV) : Option DV := match x, y with
  | .d (.int a), .d (.int b) => some (.d (.int (a + b)))
  | .d (.str a), .d (.str b) => if a.length + b.length ≤ 16000000 then some (.d (.str (a ++ b))) else none
  | .d (.tuple a), .d (.tuple b) => if a.length + b.length ≤ 16000000 then some (.d (.tuple (a ++ b))) else none
  | x, y => match lv κ x, lv κ y with
    | some a, some b => if a.length + b.length ≤ 16000000 then some (.n (a ++ b)) else none
    | _, _ => none
def rAddAll (K : PySem.W.Frag) : R2 := fun x y H Q => (rI0 (fun i j => .int (i + j))) x y H Q ∨ (∃ i j, x = .str i ∧ y = .str j ∧ i.length + j.length ≤ sizeLine ∧ Q (.str (i ++ j)) H) ∨ rCatA K x y H Q ∨ rCat x y H Q
theorem op_addAll {X : Cx} : OpR X (binaryOp .Add) (rAddAll X.K) := op_add.or (op_add_str.or (op_catA.or op_cat))
theorem addI {K : PySem.W.Frag} : BinI K (rAddAll K) addD := fun F B ι H κ v w x y z s wx wy e Q q => by
  unfold addD at e
  split at e
  · cases e; cases wx; cases wy
    exact .inl ⟨_, _, rfl, rfl, keepQ s (.int _) q⟩
  · split at e
    · rename_i hl
      cases e; cases wx; cases wy
      exact .inr (.inl ⟨_, _, rfl, rfl, line16 hl, keepQ s (.str _) q⟩)
    · cases e
  · rename_i a b
    split at e
    · rename_i hl
      cases e
      obtain ⟨p1, vs1, rfl, h1, r1⟩ := tup_ok s wx
      obtain ⟨p2, vs2, rfl, h2, r2⟩ := tup_ok s wy
      refine .inr (.inr (.inl ⟨p1, p2, vs1, vs2, rfl, rfl, h1, h2, by rw [r1.len, r2.len]; exact line16 hl, fun e => ?_, fun _ e => ?_, fun _ _ => newT s (r1.append r2) q⟩))
      · subst e; cases r1
        exact q _ B ι H Grow.refl s wy
      · subst e; cases r2
        rw [List.append_nil] at q
        exact q _ B ι H Grow.refl s wx
    · cases e
  · split at e
    · rename_i a b ea eb
      split at e
      · rename_i hl
        cases e
        obtain ⟨p1, vs1, rfl, h1, r1⟩ := lv_ok s wx ea
        obtain ⟨p2, vs2, rfl, h2, r2⟩ := lv_ok s wy eb
        exact .inr (.inr (.inr ⟨p1, p2, vs1, vs2, rfl, rfl, h1, h2, by rw [r1.len, r2.len]; exact line16 hl, newQ s (r1.append r2) q⟩))
      · cases e
    · cases e

/-! ### ints -/
def intD (f : Int → Int → Option D) (_ : Kap) (x y : DV) : Option DV := match x, y with
  | .d (.int a), .d (.int b) => (f a b).map .d
  | _, _ => none
theorem intI {K : PySem.W.Frag} {C : Int → Int → Prop} {g : Int → Int → V} {f : Int → Int → Option D} (h : ∀ a b d, f a b = some d → C a b ∧ ∀ H, Rp K H (g a b) d) : BinI K (rI C g) (intD f) := fun F B ι H κ v w x y z s wx wy e Q q => by
  unfold intD at e
  split at e
  · rename_i a b
    cases ef : f a b with
    | none => rw [ef] at e; cases e
    | some d =>
      rw [ef] at e
      cases e
      cases wx; cases wy
      obtain ⟨c, r⟩ := h a b d ef
      exact ⟨_, _, rfl, rfl, c, keepQ s (r B) q⟩
  · cases e
theorem intI0 {K : PySem.W.Frag} {g : Int → Int → V} {f : Int → Int → Option D} (h : ∀ a b d, f a b = some d → ∀ H, Rp K H (g a b) d) : BinI K (rI0 g) (intD f) := fun F B ι H κ v w x y z s wx wy e Q q => by
  unfold intD at e
  split at e
  · rename_i a b
    cases ef : f a b with
    | none => rw [ef] at e; cases e
    | some d =>
      rw [ef] at e
      cases e
      cases wx; cases wy
      exact ⟨_, _, rfl, rfl, keepQ s (h a b d ef B) q⟩
  · cases e
def subF (a b : Int) : Option D := some (.int (a - b))
def modF (a b : Int) : Option D := if 0 < b then some (.int (a % b)) else none
def fdivF (a b : Int) : Option D := if 0 < b ∧ b < 18446744073709551616 then some (.int (a / b)) else none
def powF (a b : Int) : Option D := if 0 ≤ b ∧ b ≤ 1000000 ∧ a.natAbs < 2 ^ 64 then some (.int (a ^ b.toNat)) else none
def ltF (a b : Int) : Option D := some (.bool (decide (a < b)))
def leF (a b : Int) : Option D := some (.bool (decide (a ≤ b)))
def gtF (a b : Int) : Option D := some (.bool (decide (b < a)))
def geF (a b : Int) : Option D := some (.bool (decide (b ≤ a)))
section
variable {K : PySem.W.Frag}
theorem subI : BinI K (rI0 fun i j => .int (i - j)) (intD subF) := intI0 fun a b d e H => by cases e; exact .int _
theorem modI : BinI K (rI (fun _ j => 0 < j) fun i j => .int (i % j)) (intD modF) := intI fun a b d e => by
  unfold modF at e; split at e
  · rename_i h; cases e; exact ⟨h, fun H => .int _⟩
  · cases e
theorem fdivI : BinI K (rI CDivW fun i j => .int (i / j)) (intD fdivF) := intI fun a b d e => by
  unfold fdivF at e; split at e
  · rename_i h; cases e; exact ⟨wide_div (b := 64) h.1 (by have := h.2; omega) (by decide) (by decide), fun _ => .int _⟩
  · cases e
theorem powI : BinI K (rI CPow fun i j => .int (i ^ j.toNat)) (intD powF) := intI fun a b d e => by
  unfold powF at e; split at e
  · rename_i h; cases e; exact ⟨h, fun H => .int _⟩
  · cases e
theorem ltI : BinI K (rI0 fun i j => .bl (decide (i < j))) (intD ltF) := intI0 fun a b d e H => by cases e; exact .bl _
theorem leI : BinI K (rI0 fun i j => .bl (decide (i ≤ j))) (intD leF) := intI0 fun a b d e H => by cases e; exact .bl _
theorem gtI : BinI K (rI0 fun i j => .bl (decide (j < i))) (intD gtF) := intI0 fun a b d e H => by cases e; exact .bl _
theorem geI : BinI K (rI0 fun i j => .bl (decide (j ≤ i))) (intD geF) := intI0 fun a b d e H => by cases e; exact .bl _
end

/-! ### * -/
def repS (x : Str) (n : Nat) : Str := ⟨(List.replicate n x.cps.toList).flatten.toArray⟩
theorem foldlA (a : Array Nat) : ∀ (n : Nat) (acc : Array Nat), (List.replicate n a).foldl (· ++ ·) acc = (acc.toList ++ (List.replicate n a.toList).flatten).toArray
  | 0, acc => by simp
  | n + 1, acc => by
    rw [List.replicate_succ, List.foldl_cons, foldlA a n (acc ++ a), List.replicate_succ, List.flatten_cons, Array.toList_append, List.append_assoc]
theorem foldlA0 (a : Array Nat) (n : Nat) : (List.replicate n a).foldl (· ++ ·) #[] = (List.replicate n a.toList).flatten.toArray := by
  rw [foldlA]; rfl
theorem rep_len (n : Nat) (l : List Nat) : (List.replicate n l).flatten.length = n * l.length := by
  induction n with
  | zero => simp
  | succ n ih => rw [List.replicate_succ, List.flatten_cons, List.length_append, ih, Nat.succ_mul]; omega
theorem op_mulS {X : Cx} : OpR X (binaryOp .Mult) (fun x y H Q => ∃ (z : Str) (k : Int), x = .str z ∧ y = .int k ∧ -1000000 ≤ k ∧ k ≤ 1000000 ∧ z.length * k.toNat ≤ 16000000 ∧ Q (.str (repS z k.toNat)) H) := by
  intro pins s σ H x y v u Q I rx ry h
  obtain ⟨z, k, rfl, rfl, h1, h2, hz, q⟩ := h
  obtain ⟨t, rfl⟩ := rx
  obtain ⟨t', rfl⟩ := ry
  refine PySem.P.mul_str ?_ ?_ ?_ ?_
  · rw [decide_eq_false (by omega), decide_eq_false (by omega)]; rfl
  · intro hk hne hgt
    rw [Bool.or_eq_false_iff] at hne
    have hk0 : 0 < k := by omega
    have h3 : (z.length : Int) * k ≤ 16000000 := by
      have : ((z.length * k.toNat : Nat) : Int) ≤ ((16000000 : Nat) : Int) := Int.ofNat_le.mpr hz
      rw [Int.natCast_mul, Int.toNat_of_nonneg (by omega)] at this
      exact this
    have h4 : (2 ^ 63 - 1 : Int) / k * k ≤ (2 ^ 63 - 1 : Int) := Int.ediv_mul_le _ (by omega)
    have h5 : (z.length : Int) ≤ 16000000 := by
      have : (z.length : Int) * 1 ≤ (z.length : Int) * k := Int.mul_le_mul_of_nonneg_left (by omega) (by omega)
      omega
    have h6 : (16000000 : Int) ≤ (2 ^ 63 - 1 : Int) / k := by
      rw [Int.le_ediv_iff_mul_le hk0]
      have : (16000000 : Int) * k ≤ 16000000 * 1000000 := by omega
      omega
    omega
  · intro _ _
    show Builtin.Str.tooLong (z.length * k.toNat) = false
    unfold Builtin.Str.tooLong
    rw [decide_eq_false_iff_not]
    have := line16 hz
    omega
  · have fin : ∀ (y : Str), y = repS z k.toNat → (Made.str y).post (EP X pins σ Q) s := fun y e => by
      refine ⟨?_, ⟨.str _, H, I.tok _, ⟨_, rfl⟩, by rw [e]; exact q⟩⟩
      rw [e]
      refine line16 ?_
      show (List.replicate k.toNat z.cps.toList).flatten.toArray.size ≤ 16000000
      rw [List.size_toArray, rep_len, Array.length_toList, Nat.mul_comm]
      exact hz
    by_cases hk : k < 1
    · rw [if_pos hk]
      refine fin _ ?_
      unfold repS
      rw [show k.toNat = 0 by omega]
      rfl
    · rw [if_neg hk]
      by_cases hc : (k == 1 || z.length == 0) = true
      · rw [if_pos hc]
        have ez : repS z k.toNat = z := by
          rw [Bool.or_eq_true] at hc
          rcases hc with hc | hc
          · have : k = 1 := eq_of_beq hc
            subst this
            show (⟨(z.cps.toList ++ []).toArray⟩ : Str) = z
            rw [List.append_nil, Array.toArray_toList]
          · have hz0 : z.cps = #[] := by
              have : z.cps.size = 0 := eq_of_beq hc
              exact Array.eq_empty_of_size_eq_zero this
            obtain ⟨c⟩ := z
            have hz0 : c = #[] := hz0
            subst hz0
            unfold repS
            have : ∀ n : Nat, (List.replicate n (#[] : Array Nat).toList).flatten = [] := fun n => by
              induction n with
              | zero => rfl
              | succ n ih => rw [List.replicate_succ, List.flatten_cons, ih]; rfl
            rw [this]
        exact ⟨.str z, H, I, ⟨t, rfl⟩, by rw [ez] at q; exact q⟩
      · rw [if_neg hc]
        exact fin _ (by rw [foldlA0]; rfl)
def mulD (κ : Kap) (x y : DV) : Option DV := match x, y with
  | .d (.int a), .d (.int b) => if (-(2 ^ 64) < a ∧ a < 2 ^ 64) ∨ (-(2 ^ 64) < b ∧ b < 2 ^ 64) then some (.d (.int (a * b))) else none
  | .d (.str a), .d (.int k) => if -1000000 ≤ k ∧ k ≤ 1000000 ∧ a.length * k.toNat ≤ 16000000 then some (.d (.str (repS a k.toNat))) else none
  | .d (.tuple a), .d (.int k) => if -1000000 ≤ k ∧ k ≤ 1000 ∧ a.length ≤ 1000 then some (.d (.tuple (List.replicate k.toNat a).flatten)) else none
  | x, .d (.int k) => match lv κ x with
    | some a => if -1000000 ≤ k ∧ k ≤ 1000000 ∧ a.length * k.toNat ≤ 16000000 then some (.n (List.replicate k.toNat a).flatten) else none
    | none => none
  | _, _ => none
def rMulAll (K : PySem.W.Frag) : R2 := fun x y H Q => (rI CMul fun i j => .int (i * j)) x y H Q ∨ (∃ (z : Str) (k : Int), x = .str z ∧ y = .int k ∧ -1000000 ≤ k ∧ k ≤ 1000000 ∧ z.length * k.toNat ≤ 16000000 ∧ Q (.str (repS z k.toNat)) H) ∨ rRepT K x y H Q ∨ rRepT2 K x y H Q ∨ rRep x y H Q
theorem op_mulAll {X : Cx} : OpR X (binaryOp .Mult) (rMulAll X.K) := op_mul.or (op_mulS.or (op_repT.or (op_repT2.or op_rep)))
theorem mulI {K : PySem.W.Frag} : BinI K (rMulAll K) mulD := fun F B ι H κ v w x y z s wx wy e Q q => by
  unfold mulD at e
  split at e
  · split at e
    · rename_i h
      cases e; cases wx; cases wy
      exact .inl ⟨_, _, rfl, rfl, h, keepQ s (.int _) q⟩
    · cases e
  · split at e
    · rename_i h
      cases e; cases wx; cases wy
      exact .inr (.inl ⟨_, _, rfl, rfl, h.1, h.2.1, h.2.2, keepQ s (.str _) q⟩)
    · cases e
  · split at e
    · rename_i h
      cases e; cases wy
      obtain ⟨p1, vs1, rfl, h1, r1⟩ := tup_ok s wx
      rename_i a k
      by_cases g : vs1 = [] ∨ k = 1
      · refine .inr (.inr (.inr (.inl ⟨p1, _, vs1, rfl, rfl, h1, h.1, by omega, fun _ => keepQ s (d := .tuple (List.replicate k.toNat a).flatten) ?_ q, fun n => absurd g n⟩)))
        have ea : (List.replicate k.toNat a).flatten = a := by
          rcases g with g | g
          · subst g
            cases r1
            simp
          · subst g; simp
        rw [ea]; exact wx
      · by_cases g2 : k ≤ 0
        · refine .inr (.inr (.inr (.inl ⟨p1, _, vs1, rfl, rfl, h1, h.1, by omega, fun z => absurd z g, fun _ => ⟨g2, ?_⟩⟩)))
          have ek : k.toNat = 0 := by omega
          rw [ek] at q
          exact newT s (xs := []) .nil q
        · exact .inr (.inr (.inl ⟨p1, _, vs1, rfl, rfl, h1, fun z => g (.inl z), by omega, h.2.1, by rw [r1.len]; exact h.2.2, newT s (r1.rep _) q⟩))
    · cases e
  · split at e
    · rename_i a ea
      split at e
      · rename_i h
        cases e; cases wy
        obtain ⟨p1, vs1, rfl, h1, r1⟩ := lv_ok s wx ea
        exact .inr (.inr (.inr (.inr ⟨p1, _, vs1, rfl, rfl, h1, by omega, by omega, by rw [r1.len]; exact line16 h.2.2, newQ s (r1.rep _) q⟩)))
      · cases e
    · cases e
  · cases e

/-! ### neg, abs, int -/
def negD (_ : Kap) (x : DV) : Option DV := match x with
  | .d (.int a) => some (.d (.int (-a)))
  | _ => none
theorem negI {K : PySem.W.Frag} : UnI K (rU fun i => .int (-i)) negD := fun F B ι H κ v x z s wx e Q q => by
  unfold negD at e
  split at e
  · cases e; cases wx; exact ⟨_, rfl, keepQ s (.int _) q⟩
  · cases e

theorem hasDict_dp {K : PySem.W.Frag} {H : Hp} : ∀ {v : V} {d : D}, Dp K H v d → d.hasDict = false
  | _, _, .non => rfl
  | _, _, .bl _ => rfl
  | _, _, .int _ => rfl
  | _, _, .str _ => rfl
  | _, _, .lst _ r => by simp only [PyData.hasDict]; exact all r
  | _, _, .tup _ r => by simp only [PyData.hasDict]; exact all r
where all {K : PySem.W.Frag} {H : Hp} : ∀ {v : List V} {d : List D}, DpAll K H v d → PyData.hasDictAll d = false
  | _, _, .nil => rfl
  | _, _, .cons h r => by simp only [PyData.hasDictAll]; rw [hasDict_dp h, all r]; rfl
/-! ### == != -/
def dat (κ : Kap) : DV → Option D
  | .d x => if x.hasDict = false then some x else none
  | x => (lv κ x).bind fun xs => if PyData.hasDictAll xs = false then some (.list xs) else none
def eqDV (κ : Kap) (x y : DV) : Option Bool := match dat κ x, dat κ y with
  | some a, some b => if a.depth ≤ 64 then some (PyData.eqv a b) else none
  | _, _ => none
def eqD (κ : Kap) (x y : DV) : Option DV := (eqDV κ x y).map fun b => .d (.bool b)
def neD (κ : Kap) (x y : DV) : Option DV := (eqDV κ x y).map fun b => .d (.bool (!b))
section
variable {K : PySem.W.Frag} {F : List Addr} {B : Hp} {ι : List Addr} {H : Hp} {κ : Kap} {v w : V} {x y : DV}
theorem dat_ok (s : HSt K F B ι H κ) (w : VOk K F B ι H v x) {a : D} (e : dat κ x = some a) : Dp K H v a := by
  have list : ∀ {xs : List D}, lv κ x = some xs → PyData.hasDictAll xs = false → Dp K H v (.list xs) := fun {xs} e1 e2 => by
    obtain ⟨p, vs, rfl, h, r⟩ := lv_ok s w e1
    exact .lst (lst1 h) ((r.mono s.ex).dp e2)
  cases x with
  | d x =>
    simp only [dat] at e
    split at e
    · rename_i h; cases e; exact (Rp.mono s.ex w).dp h
    · cases e
  | c i =>
    simp only [dat] at e
    cases q : lv κ (.c i) with
    | none => rw [q] at e; cases e
    | some xs =>
      rw [q] at e
      simp only [Option.bind_some] at e
      split at e
      · rename_i h; cases e; exact list q h
      · cases e
  | n xs =>
    simp only [dat, lv, Option.bind_some] at e
    split at e
    · rename_i h; cases e; exact list rfl h
    · cases e
theorem plain_of : ∀ d : D, d.hasDict = false → d.plain = true
  | .none, _ => rfl
  | .bool _, _ => rfl
  | .int _, _ => rfl
  | .str _, _ => rfl
  | .list xs, h => by rw [PyData.plain]; rw [PyData.hasDict] at h; exact all xs h
  | .tuple xs, h => by rw [PyData.plain]; rw [PyData.hasDict] at h; exact all xs h
  | .dict _, h => by simp [PyData.hasDict] at h
where all : ∀ xs : List D, PyData.hasDictAll xs = false → PyData.plainAll xs = true
  | [], _ => rfl
  | x :: r, h => by
    rw [PyData.hasDictAll, Bool.or_eq_false_iff] at h
    rw [PyData.plainAll, plain_of x h.1, all r h.2]; rfl
theorem eqDV_ok (s : HSt K F B ι H κ) (wx : VOk K F B ι H v x) (wy : VOk K F B ι H w y) {b : Bool} (e : eqDV κ x y = some b) : ∃ a c, Dp K H v a ∧ Dp K H w c ∧ a.plain = true ∧ c.plain = true ∧ a.depth ≤ 64 ∧ b = PyData.eqv a c := by
  unfold eqDV at e
  split at e
  · rename_i a c ea ec
    split at e
    · rename_i h; cases e; exact ⟨a, c, dat_ok s wx ea, dat_ok s wy ec, plain_of a (hasDict_dp (dat_ok s wx ea)), plain_of c (hasDict_dp (dat_ok s wy ec)), h, rfl⟩
    · cases e
  · cases e
end
def rEqP (K : PySem.W.Frag) : R2 := fun x y H Q => ∃ d e, Dp K H x d ∧ Dp K H y e ∧ d.plain = true ∧ e.plain = true ∧ d.depth ≤ 64 ∧ Q (.bl (PyData.eqv d e)) H
def rNeP (K : PySem.W.Frag) : R2 := fun x y H Q => ∃ d e, Dp K H x d ∧ Dp K H y e ∧ d.plain = true ∧ e.plain = true ∧ d.depth ≤ 64 ∧ Q (.bl (!PyData.eqv d e)) H
section
variable {X : Cx}
theorem op_eqP (hu : X.A.units + 64 < cLine) : OpR X (compareOp .Eq) (rEqP X.K) := by
  intro pins s σ H x y v u Q I rx ry h
  obtain ⟨d, e, hd, he, sd, se, hm, q⟩ := h
  obtain ⟨as, r1⟩ := Dp.reads I d x v hd rx
  obtain ⟨bs, r2⟩ := Dp.reads I e y u he ry
  exact SeqAt.eq_plain r1 r2 sd se (Nat.lt_of_le_of_lt (Nat.add_le_add_left (Nat.le_trans (Nat.min_le_left _ _) hm) _) hu) ⟨.bl _, H, I, rfl, q⟩
theorem op_neP (hu : X.A.units + 64 < cLine) : OpR X (compareOp .NotEq) (rNeP X.K) := by
  intro pins s σ H x y v u Q I rx ry h
  obtain ⟨d, e, hd, he, sd, se, hm, q⟩ := h
  obtain ⟨as, r1⟩ := Dp.reads I d x v hd rx
  obtain ⟨bs, r2⟩ := Dp.reads I e y u he ry
  exact SeqAt.ne_plain r1 r2 sd se (Nat.lt_of_le_of_lt (Nat.add_le_add_left (Nat.le_trans (Nat.min_le_left _ _) hm) _) hu) ⟨.bl _, H, I, rfl, q⟩
end
theorem eqI {K : PySem.W.Frag} : BinI K (rEqP K) eqD := fun F B ι H κ v w x y z s wx wy e Q q => by
  unfold eqD at e
  cases e1 : eqDV κ x y with
  | none => rw [e1] at e; cases e
  | some b =>
    rw [e1] at e; cases e
    obtain ⟨a, c, h1, h2, h3, h4, h5, rfl⟩ := eqDV_ok s wx wy e1
    exact ⟨a, c, h1, h2, h3, h4, h5, keepQ s (.bl _) q⟩
theorem neI {K : PySem.W.Frag} : BinI K (rNeP K) neD := fun F B ι H κ v w x y z s wx wy e Q q => by
  unfold neD at e
  cases e1 : eqDV κ x y with
  | none => rw [e1] at e; cases e
  | some b =>
    rw [e1] at e; cases e
    obtain ⟨a, c, h1, h2, h3, h4, h5, rfl⟩ := eqDV_ok s wx wy e1
    exact ⟨a, c, h1, h2, h3, h4, h5, keepQ s (.bl _) q⟩

/-! ### in, not in -/
def flatD : D → Bool
  | .none => true
  | .bool _ => true
  | .int _ => true
  | .str _ => true
  | _ => false
def inDV (κ : Kap) (x y : DV) : Option Bool := match x, y with
  | .d (.str a), .d (.str b) => if a.cps.size = 1 then some (decide (a.cps.getD 0 0 ∈ b.cps.toList)) else none
  | .d a, .d (.tuple ys) => if flatD a = true ∧ ys.all flatD = true then some (ys.any fun y => PyData.eqv y a) else none
  | .d a, y => match lv κ y with
    | some ys => if flatD a = true ∧ ys.all flatD = true then some (ys.any fun y => PyData.eqv y a) else none
    | none => none
  | _, _ => none
def inD (κ : Kap) (x y : DV) : Option DV := (inDV κ x y).map fun b => .d (.bool b)
def ninD (κ : Kap) (x y : DV) : Option DV := (inDV κ x y).map fun b => .d (.bool (!b))
section
variable {K : PySem.W.Frag} {F : List Addr} {B : Hp} {ι : List Addr} {H : Hp} {κ : Kap} {v w : V} {x y : DV}
theorem flat_of {v : V} {d : D} (r : Rp K B v d) (h : flatD d = true) : flatV v = true := by
  cases r with
  | lst _ _ => cases h
  | tup _ _ => cases h
  | scr _ => cases h
  | fnc _ _ => cases h
  | clo _ _ => cases h
  | dic _ _ => cases h
  | _ => rfl
theorem eqv_of {v u : V} {d e : D} (r : Rp K B v d) (h : flatD d = true) (r2 : Rp K B u e) (h2 : flatD e = true) : eqV v u = PyData.eqv d e := by
  cases r with
  | lst _ _ => cases h
  | tup _ _ => cases h
  | scr _ => cases h
  | fnc _ _ => cases h
  | clo _ _ => cases h
  | dic _ _ => cases h
  | _ =>
    cases r2 with
    | lst _ _ => cases h2
    | tup _ _ => cases h2
    | scr _ => cases h2
    | fnc _ _ => cases h2
    | clo _ _ => cases h2
    | dic _ _ => cases h2
    | _ => first | rfl | simp [eqV, PyData.eqv]
theorem flats_of : ∀ {vs : List V} {ds : List D}, RpAll K B vs ds → ds.all flatD = true → vs.all flatV = true
  | _, _, .nil, _ => rfl
  | _, _, .cons h r, e => by
    rw [List.all_cons, Bool.and_eq_true] at e ⊢
    exact ⟨flat_of h e.1, flats_of r e.2⟩
theorem inV_of {u : V} {d : D} (r : Rp K B u d) (h : flatD d = true) : ∀ {vs : List V} {ds : List D}, RpAll K B vs ds → ds.all flatD = true → inV u vs = ds.any fun y => PyData.eqv y d
  | _, _, .nil, _ => rfl
  | _, _, .cons h1 r1, e => by
    rw [List.all_cons, Bool.and_eq_true] at e
    show (eqV _ u || inV u _) = _
    rw [List.any_cons, inV_of r h r1 e.2, eqv_of h1 e.1 r h]
def rInAll (K : PySem.W.Frag) : R2 := fun x y H Q => rInS x y H Q ∨ rIn K false x y H Q
def rNinAll (K : PySem.W.Frag) : R2 := fun x y H Q => rNotInS x y H Q ∨ rIn K true x y H Q
theorem op_inAll {X : Cx} : OpR X (compareOp .In) (rInAll X.K) := op_inS.or op_in_seq
theorem op_ninAll {X : Cx} : OpR X (compareOp .NotIn) (rNinAll X.K) := op_notInS.or op_notIn_seq
theorem in_ok (s : HSt K F B ι H κ) (wx : VOk K F B ι H v x) (wy : VOk K F B ι H w y) {b : Bool} (e : inDV κ x y = some b) :
    (∃ (c : Nat) (z : Str), v = .str ⟨#[c]⟩ ∧ w = .str z ∧ b = decide (c ∈ z.cps.toList)) ∨ ∃ p xs, w = .ref p ∧ (SqL K H p xs ∨ SqT K H p xs) ∧ flatV v = true ∧ xs.all flatV = true ∧ b = inV v xs := by
  unfold inDV at e
  split at e
  · rename_i a c
    split at e
    · rename_i h
      cases e; cases wx; cases wy
      obtain ⟨a⟩ := a
      obtain ⟨l⟩ := a
      match l, h with
      | [k], _ => exact .inl ⟨k, c, rfl, rfl, rfl⟩
    · cases e
  · split at e
    · rename_i h
      cases e
      obtain ⟨p, vs, rfl, h1, r⟩ := tup_ok s wy
      exact .inr ⟨p, vs, rfl, .inr h1, flat_of wx h.1, flats_of r h.2, (inV_of wx h.1 r h.2).symm⟩
    · cases e
  · split at e
    · rename_i ys ey
      split at e
      · rename_i h
        cases e
        obtain ⟨p, vs, rfl, h1, r⟩ := lv_ok s wy ey
        exact .inr ⟨p, vs, rfl, .inl (lst1 h1), flat_of wx h.1, flats_of r h.2, (inV_of wx h.1 r h.2).symm⟩
      · cases e
    · cases e
  · cases e
end
theorem inI {K : PySem.W.Frag} : BinI K (rInAll K) inD := fun F B ι H κ v w x y z s wx wy e Q q => by
  unfold inD at e
  cases e1 : inDV κ x y with
  | none => rw [e1] at e; cases e
  | some b =>
    rw [e1] at e; cases e
    rcases in_ok s wx wy e1 with ⟨c, z, rfl, rfl, rfl⟩ | ⟨p, xs, rfl, h1, h2, h3, rfl⟩
    · exact .inl ⟨c, z, rfl, rfl, keepQ s (.bl _) q⟩
    · exact .inr ⟨p, xs, rfl, h1, h2, h3, by rw [if_neg Bool.false_ne_true]; exact keepQ s (.bl _) q⟩
theorem ninI {K : PySem.W.Frag} : BinI K (rNinAll K) ninD := fun F B ι H κ v w x y z s wx wy e Q q => by
  unfold ninD at e
  cases e1 : inDV κ x y with
  | none => rw [e1] at e; cases e
  | some b =>
    rw [e1] at e; cases e
    rcases in_ok s wx wy e1 with ⟨c, z, rfl, rfl, rfl⟩ | ⟨p, xs, rfl, h1, h2, h3, rfl⟩
    · exact .inl ⟨c, z, rfl, rfl, keepQ s (.bl _) q⟩
    · exact .inr ⟨p, xs, rfl, h1, h2, h3, by rw [if_pos rfl]; exact keepQ s (.bl _) q⟩

/-! ### is None, is True -/
def isNone : D → Bool
  | .none => true
  | _ => false
def isD (_ : Kap) (x y : DV) : Option DV := match x, y with
  | .d a, .d .none => some (.d (.bool (isNone a)))
  | .n _, .d .none => some (.d (.bool false))
  | .d (.bool a), .d (.bool b) => some (.d (.bool (decide (a = b))))
  | _, _ => none
def isnD (κ : Kap) (x y : DV) : Option DV := match isD κ x y with
  | some (.d (.bool b)) => some (.d (.bool (!b)))
  | _ => none
def rIsAll : R2 := fun x y H Q => (y = .non ∧ Q (.bl (decide (x = .non))) H) ∨ rIsB x y H Q
def rIsnAll : R2 := fun x y H Q => (y = .non ∧ Q (.bl (!decide (x = .non))) H) ∨ rNotB x y H Q
theorem op_isAll {X : Cx} : OpR X (compareOp .Is) rIsAll := op_isN.or op_isBl
theorem op_isnAll {X : Cx} : OpR X (compareOp .IsNot) rIsnAll := op_notN.or op_notBl
theorem is_ok {K : PySem.W.Frag} {F : List Addr} {B : Hp} {ι : List Addr} {H : Hp} {κ : Kap} {v w : V} {x y z : DV} (wx : VOk K F B ι H v x) (wy : VOk K F B ι H w y) (e : isD κ x y = some z) :
    ∃ b, z = .d (.bool b) ∧ ((w = .non ∧ b = decide (v = .non)) ∨ ∃ c d : Bool, v = .bl c ∧ w = .bl d ∧ b = decide (c = d)) := by
  unfold isD at e
  split at e
  · rename_i a
    cases wy
    cases e
    refine ⟨_, rfl, .inl ⟨rfl, ?_⟩⟩
    cases wx <;> rfl
  · cases wy
    cases e
    obtain ⟨p, vs, rfl, _⟩ := wx
    exact ⟨_, rfl, .inl ⟨rfl, rfl⟩⟩
  · cases wx; cases wy; cases e
    exact ⟨_, rfl, .inr ⟨_, _, rfl, rfl, rfl⟩⟩
  · cases e
theorem isI {K : PySem.W.Frag} : BinI K rIsAll isD := fun F B ι H κ v w x y z s wx wy e Q q => by
  obtain ⟨b, rfl, h⟩ := is_ok wx wy e
  rcases h with ⟨rfl, rfl⟩ | ⟨c, d, rfl, rfl, rfl⟩
  · exact .inl ⟨rfl, keepQ s (.bl _) q⟩
  · exact .inr ⟨c, d, rfl, rfl, keepQ s (.bl _) q⟩
theorem isnI {K : PySem.W.Frag} : BinI K rIsnAll isnD := fun F B ι H κ v w x y z s wx wy e Q q => by
  unfold isnD at e
  split at e
  · rename_i b e1
    cases e
    obtain ⟨b', eb, h⟩ := is_ok wx wy e1
    cases eb
    rcases h with ⟨rfl, rfl⟩ | ⟨c, d, rfl, rfl, rfl⟩
    · exact .inl ⟨rfl, keepQ s (.bl _) q⟩
    · exact .inr ⟨c, d, rfl, rfl, keepQ s (.bl _) q⟩
  · cases e
end DL

namespace DL
open L2 PyProof.Rows PySem PySem.Spec

/-! ### reading a list, the script too -/
def lvS (κ : Kap) : DV → Option (List D)
  | .d (.dict [(.none, .list xs)]) => some xs
  | x => lv κ x
section
variable {K : PySem.W.Frag} {F : List Addr} {B : Hp} {ι : List Addr} {H : Hp} {κ : Kap} {v w : V} {x y z : DV}
theorem lvS_ok (s : HSt K F B ι H κ) (w : VOk K F B ι H v x) {xs : List D} (e : lvS κ x = some xs) : ∃ a vs, v = .ref a ∧ SqL K H a vs ∧ RpAll K B vs xs := by
  unfold lvS at e
  split at e
  · cases e
    cases w with
    | scr h => exact ⟨_, _, rfl, s.ex.seq h, RpAll.ints _⟩
    | dic h r => cases r
  · obtain ⟨a, vs, rfl, h, r⟩ := lv_ok s w e
    exact ⟨a, vs, rfl, lst1 h, r⟩

/-! ### x[i] -/
theorem atI_rp {vs : List V} {xs : List D} (r : RpAll K B vs xs) {i : Int} {d : D} (e : atI xs i = some d) : ∃ v, atI vs i = some v ∧ Rp K B v d := by
  unfold atI at e ⊢
  rw [r.len]
  cases q : ixN xs.length i with
  | none => rw [q] at e; cases e
  | some j =>
    rw [q] at e
    obtain ⟨v, h1, h2⟩ := r.get (show xs[j]? = some d from e)
    exact ⟨v, h1, h2⟩
theorem atI_pr {ι : List Addr} {vs : List V} {xs : List DV} (r : Paired (WOk K B ι) vs xs) {i : Int} {d : DV} (e : atI xs i = some d) : ∃ v, atI vs i = some v ∧ WOk K B ι v d := by
  unfold atI at e ⊢
  rw [r.length]
  cases q : ixN xs.length i with
  | none => rw [q] at e; cases e
  | some j =>
    rw [q] at e
    obtain ⟨v, h1, h2⟩ := Paired.getP r (show xs[j]? = some d from e)
    exact ⟨v, h1, h2⟩
def ixD (κ : Kap) (x y : DV) : Option DV := match x, y with
  | .d (.str a), .d (.int i) => if a.length ≤ 16000000 then (atI a.cps.toList i).map fun c => .d (.str ⟨#[c]⟩) else none
  | .d (.tuple xs), .d (.int i) => (atI xs i).map .d
  | .c j, .d (.int i) => match κ[j]? with
    | some (.lst ys) => atI ys i
    | _ => none
  | x, .d (.int i) => match lvS κ x with
    | some xs => (atI xs i).map .d
    | none => none
  | _, _ => none
theorem ixI : BinI K (rIx K) ixD := fun F B ι H κ v w x y z s wx wy e Q q => by
  unfold ixD at e
  split at e
  · rename_i a i
    split at e
    · rename_i hl
      cases e1 : atI a.cps.toList i with
      | none => rw [e1] at e; cases e
      | some c =>
        rw [e1] at e; cases e; cases wx; cases wy
        exact .inr (.inr ⟨a, i, c, rfl, rfl, line16 hl, e1, keepQ s (.str _) q⟩)
    · cases e
  · rename_i xs i
    cases e1 : atI xs i with
    | none => rw [e1] at e; cases e
    | some d =>
      rw [e1] at e; cases e; cases wy
      obtain ⟨p, vs, rfl, h1, r⟩ := tup_ok s wx
      obtain ⟨u, e2, r2⟩ := atI_rp r e1
      exact .inr (.inl ⟨p, vs, i, u, rfl, rfl, h1, e2, keepQ s r2 q⟩)
  · rename_i j i
    split at e
    · rename_i ys ey
      cases wy
      obtain ⟨a, h1, rfl⟩ := wx
      obtain ⟨vs, h2, h3⟩ := s.cel j a _ h1 ey
      obtain ⟨u, e2, r2⟩ := atI_pr h3 e
      exact .inl ⟨a, vs, i, u, rfl, rfl, lst1 h2, e2, q u B ι H Grow.refl s r2.toV⟩
    · cases e
  · rename_i i _ _ _
    split at e
    · rename_i xs ex
      cases e1 : atI xs i with
      | none => rw [e1] at e; cases e
      | some d =>
        rw [e1] at e; cases e; cases wy
        obtain ⟨p, vs, rfl, h1, r⟩ := lvS_ok s wx ex
        obtain ⟨u, e2, r2⟩ := atI_rp r e1
        exact .inl ⟨p, vs, i, u, rfl, rfl, h1, e2, keepQ s r2 q⟩
    · cases e
  · cases e

/-! ### len, list, tuple, int, str, ord, abs -/
def lenD (κ : Kap) (xs : List DV) : Option DV := match xs with
  | [.d (.str a)] => if a.length ≤ 16000000 then some (.d (.int a.length)) else none
  | [.d (.tuple ys)] => some (.d (.int ys.length))
  | [x] => (lvS κ x).map fun ys => .d (.int ys.length)
  | _ => none
theorem lenI : CalI K (fun xs H Q => ∃ x n, xs = [x] ∧ LenV K x H n ∧ Q (.int n) H) lenD := fun F B ι H κ vs xs z s w e Q q => by
  unfold lenD at e
  split at e
  · split at e
    · rename_i a hl
      cases e
      cases w with
      | cons w1 w2 => cases w2; cases w1; exact ⟨_, _, rfl, ⟨line16 hl, rfl⟩, keepQ s (.int _) q⟩
    · cases e
  · cases e
    cases w with
    | cons w1 w2 =>
      cases w2
      obtain ⟨p, us, rfl, h1, r⟩ := tup_ok s w1
      exact ⟨_, _, rfl, .inr ⟨us, h1, r.len.symm⟩, keepQ s (.int _) q⟩
  · rename_i x _ _
    cases e1 : lvS κ x with
    | none => rw [e1] at e; cases e
    | some ys =>
      rw [e1] at e; cases e
      cases w with
      | cons w1 w2 =>
        cases w2
        obtain ⟨p, us, rfl, h1, r⟩ := lvS_ok (F := F) s w1.toV e1
        exact ⟨_, _, rfl, .inl ⟨us, h1, r.len.symm⟩, keepQ s (.int _) q⟩
  · cases e
def listD (κ : Kap) (xs : List DV) : Option DV := match xs with
  | [.d (.tuple ys)] => some (.n ys)
  | [x] => (lvS κ x).map fun ys => .n ys
  | _ => none
theorem listI : CalI K (fun xs H Q => ∃ p ys, xs = [.ref p] ∧ (SqL K H p ys ∨ SqT K H p ys) ∧ ∀ l, H l = none → Q (.ref l) (upd H l (.lst ys))) listD := fun F B ι H κ vs xs z s w e Q q => by
  unfold listD at e
  split at e
  · cases e
    cases w with
    | cons w1 w2 =>
      cases w2
      obtain ⟨p, us, rfl, h1, r⟩ := tup_ok s w1
      exact ⟨p, us, rfl, .inr h1, newQ s r q⟩
  · rename_i x _
    cases e1 : lvS κ x with
    | none => rw [e1] at e; cases e
    | some ys =>
      rw [e1] at e; cases e
      cases w with
      | cons w1 w2 =>
        cases w2
        obtain ⟨p, us, rfl, h1, r⟩ := lvS_ok (F := F) s w1.toV e1
        exact ⟨p, us, rfl, .inl h1, newQ s r q⟩
  · cases e
def tupleD (κ : Kap) (xs : List DV) : Option DV := match xs with
  | [.d (.tuple ys)] => some (.d (.tuple ys))
  | [x] => (lvS κ x).map fun ys => .d (.tuple ys)
  | _ => none
theorem tupleI : CalI K (fun xs H Q => ∃ p ys, xs = [.ref p] ∧ ((SqL K H p ys ∧ ∀ l, H l = none → Q (.ref l) (upd H l (.tup ys))) ∨ (SqT K H p ys ∧ Q (.ref p) H))) tupleD := fun F B ι H κ vs xs z s w e Q q => by
  unfold tupleD at e
  split at e
  · cases e
    cases w with
    | cons w1 w2 =>
      cases w2
      obtain ⟨p, us, rfl, h1, r⟩ := tup_ok s w1
      exact ⟨p, us, rfl, .inr ⟨h1, q _ B ι H Grow.refl s w1⟩⟩
  · rename_i x _
    cases e1 : lvS κ x with
    | none => rw [e1] at e; cases e
    | some ys =>
      rw [e1] at e; cases e
      cases w with
      | cons w1 w2 =>
        cases w2
        obtain ⟨p, us, rfl, h1, r⟩ := lvS_ok (F := F) s w1.toV e1
        exact ⟨p, us, rfl, .inl ⟨h1, newT s r q⟩⟩
  · cases e
def cal1 (f : D → Option D) (_ : Kap) (xs : List DV) : Option DV := match xs with
  | [.d x] => (f x).map .d
  | _ => none
theorem cal1I {r : List V → Hp → VK → Prop} {f : D → Option D} (h : ∀ (B H : Hp) (v : V) (d e : D) (Q : VK), Same B H → Rp K B v d → f d = some e → (∀ u, Rp K B u e → Q u H) → r [v] H Q) : CalI K r (cal1 f) := fun F B ι H κ vs xs z s w e Q q => by
  unfold cal1 at e
  split at e
  · rename_i x
    cases e1 : f x with
    | none => rw [e1] at e; cases e
    | some d =>
      rw [e1] at e; cases e
      cases w with
      | cons w1 w2 =>
        cases w2
        exact h B H _ x d Q s.ex w1 e1 fun u r => keepQ s r q
  · cases e
def intF : D → Option D
  | .int i => some (.int i)
  | .bool b => some (.int (if b then 1 else 0))
  | _ => none
theorem intCI : CalI K (fun xs H Q => (∃ i, xs = [.int i] ∧ Q (.int i) H) ∨ ∃ k, xs = [.bl k] ∧ Q (.int (if k then 1 else 0)) H) (cal1 intF) := cal1I fun B H v d e Q _ r h q => by
  cases r with
  | int i => cases h; exact .inl ⟨_, rfl, q _ (.int _)⟩
  | bl b => cases h; exact .inr ⟨_, rfl, q _ (.int _)⟩
  | _ => cases h
def strF : D → Option D
  | .int i => if i.natAbs.log2 < 1920 then some (.str (toString i)) else none
  | .str x => some (.str x)
  | _ => none
theorem op_strAll {X : Cx} : CallR X (.type "str") (fun xs H Q => (∃ i, xs = [.int i] ∧ i.natAbs.log2 < 1920 ∧ Q (.str (toString i)) H) ∨ ∃ a, xs = [.str a] ∧ Q (.str a) H) := CallR.or call_str_int SkE.call_str_str
theorem strI : CalI K (fun xs H Q => (∃ i : Int, xs = [.int i] ∧ i.natAbs.log2 < 1920 ∧ Q (.str (toString i)) H) ∨ ∃ a, xs = [.str a] ∧ Q (.str a) H) (cal1 strF) := cal1I fun B H v d e Q _ r h q => by
  cases r with
  | int i =>
    simp only [strF] at h
    split at h
    · rename_i hl; cases h; exact .inl ⟨i, rfl, hl, q _ (.str _)⟩
    · cases h
  | str x => simp only [strF, Option.some.injEq] at h; subst h; exact .inr ⟨x, rfl, q _ (.str _)⟩
  | _ => cases h
def ordF : D → Option D
  | .str x => if x.length = 1 then some (.int (x.cps.getD 0 0 : Nat)) else none
  | _ => none
theorem ordI : CalI K (fun xs H Q => ∃ x, xs = [.str x] ∧ x.length = 1 ∧ Q (.int (x.cps.getD 0 0 : Nat)) H) (cal1 ordF) := cal1I fun B H v d e Q _ r h q => by
  cases r with
  | str x =>
    simp only [ordF] at h
    split at h
    · rename_i hl; cases h; exact ⟨x, rfl, hl, q _ (.int _)⟩
    · cases h
  | _ => cases h
def absF : D → Option D
  | .int i => some (.int (if i < 0 then -i else i))
  | _ => none
theorem absI : CalI K (fun xs H Q => ∃ i, xs = [.int i] ∧ Q (.int (if i < 0 then -i else i)) H) (cal1 absF) := cal1I fun B H v d e Q _ r h q => by
  cases r with
  | int i => cases h; exact ⟨i, rfl, q _ (.int _)⟩
  | _ => cases h

/-! ### all, any, sum, max, min -/
def boolsD : List D → Option (List Bool)
  | [] => some []
  | .bool b :: r => (boolsD r).map (b :: ·)
  | _ => none
def intsD : List D → Option (List Int)
  | [] => some []
  | .int b :: r => (intsD r).map (b :: ·)
  | _ => none
theorem bools_ok : ∀ {vs : List V} {ds : List D} {bs : List Bool}, RpAll K B vs ds → boolsD ds = some bs → vs = bs.map V.bl
  | _, _, _, .nil, e => by cases e; rfl
  | _, _, bs, .cons (d := d) (ds := ds) h r, e => by
    cases h with
    | bl b =>
      simp only [boolsD] at e
      cases q : boolsD ds with
      | none => rw [q] at e; cases e
      | some cs => rw [q] at e; cases e; rw [bools_ok r q]; rfl
    | _ => cases e
theorem ints_ok : ∀ {vs : List V} {ds : List D} {bs : List Int}, RpAll K B vs ds → intsD ds = some bs → vs = bs.map V.int
  | _, _, _, .nil, e => by cases e; rfl
  | _, _, bs, .cons (d := d) (ds := ds) h r, e => by
    cases h with
    | int b =>
      simp only [intsD] at e
      cases q : intsD ds with
      | none => rw [q] at e; cases e
      | some cs => rw [q] at e; cases e; rw [ints_ok r q]; rfl
    | _ => cases e
def lstD (f : List D → Option D) (κ : Kap) (xs : List DV) : Option DV := match xs with
  | [x] => (lv κ x).bind fun ys => (f ys).map .d
  | _ => none
theorem lstI {r : List V → Hp → VK → Prop} {f : List D → Option D} (h : ∀ (B H : Hp) (a : Addr) (us : List V) (ys : List D) (e : D) (Q : VK), H a = some (.lst us) → RpAll K B us ys → f ys = some e → (∀ u, Rp K B u e → Q u H) → r [.ref a] H Q) : CalI K r (lstD f) := fun F B ι H κ vs xs z s w e Q q => by
  unfold lstD at e
  split at e
  · rename_i x
    cases e1 : lv κ x with
    | none => rw [e1] at e; cases e
    | some ys =>
      rw [e1] at e
      simp only [Option.bind_some] at e
      cases e2 : f ys with
      | none => rw [e2] at e; cases e
      | some d =>
        rw [e2] at e; cases e
        cases w with
        | cons w1 w2 =>
          cases w2
          obtain ⟨p, us, rfl, h1, r⟩ := lv_ok (F := F) s w1.toV e1
          exact h B H p us ys d Q h1 r e2 fun u r => keepQ s r q
  · cases e
def allF (xs : List D) : Option D := (boolsD xs).map fun bs => .bool (bs.all id)
def anyF (xs : List D) : Option D := (boolsD xs).map fun bs => .bool (bs.any id)
def sumF (xs : List D) : Option D := (intsD xs).map fun bs => .int bs.sum
def maxI : List Int → Int
  | [] => 0
  | [x] => x
  | x :: y :: r => if x ≤ maxI (y :: r) then maxI (y :: r) else x
def minI : List Int → Int
  | [] => 0
  | [x] => x
  | x :: y :: r => if minI (y :: r) ≤ x then minI (y :: r) else x
theorem maxI_mem : ∀ (x : Int) (r : List Int), maxI (x :: r) ∈ x :: r
  | x, [] => by simp [maxI]
  | x, y :: r => by
    simp only [maxI]
    split
    · exact List.mem_cons_of_mem _ (maxI_mem y r)
    · exact List.mem_cons_self ..
theorem maxI_le : ∀ (x : Int) (r : List Int) (z : Int), z ∈ x :: r → z ≤ maxI (x :: r)
  | x, [], z, h => by simp at h; simp [maxI, h]
  | x, y :: r, z, h => by
    simp only [maxI]
    rcases List.mem_cons.mp h with rfl | h
    · split <;> omega
    · have := maxI_le y r z h
      split <;> omega
theorem minI_mem : ∀ (x : Int) (r : List Int), minI (x :: r) ∈ x :: r
  | x, [] => by simp [minI]
  | x, y :: r => by
    simp only [minI]
    split
    · exact List.mem_cons_of_mem _ (minI_mem y r)
    · exact List.mem_cons_self ..
theorem minI_le : ∀ (x : Int) (r : List Int) (z : Int), z ∈ x :: r → minI (x :: r) ≤ z
  | x, [], z, h => by simp at h; simp [minI, h]
  | x, y :: r, z, h => by
    simp only [minI]
    rcases List.mem_cons.mp h with rfl | h
    · split <;> omega
    · have := minI_le y r z h
      split <;> omega
def maxF (xs : List D) : Option D := (intsD xs).bind fun bs => if bs = [] then none else some (.int (maxI bs))
def minF (xs : List D) : Option D := (intsD xs).bind fun bs => if bs = [] then none else some (.int (minI bs))
theorem allI : CalI K (rAll K) (lstD allF) := lstI fun B H a us ys e Q h r ef q => by
  unfold allF at ef
  cases e1 : boolsD ys with
  | none => rw [e1] at ef; cases ef
  | some bs => rw [e1] at ef; cases ef; rw [bools_ok r e1] at h; exact ⟨a, bs, rfl, lst1 h, q _ (.bl _)⟩
theorem anyI : CalI K (rAny K) (lstD anyF) := lstI fun B H a us ys e Q h r ef q => by
  unfold anyF at ef
  cases e1 : boolsD ys with
  | none => rw [e1] at ef; cases ef
  | some bs => rw [e1] at ef; cases ef; rw [bools_ok r e1] at h; exact ⟨a, bs, rfl, lst1 h, q _ (.bl _)⟩
theorem sumI : CalI K (rSum K) (lstD sumF) := lstI fun B H a us ys e Q h r ef q => by
  unfold sumF at ef
  cases e1 : intsD ys with
  | none => rw [e1] at ef; cases ef
  | some bs => rw [e1] at ef; cases ef; rw [ints_ok r e1] at h; exact ⟨a, bs, rfl, lst1 h, q _ (.int _)⟩
theorem maxLI : CalI K (rMax K) (lstD maxF) := lstI fun B H a us ys e Q h r ef q => by
  unfold maxF at ef
  cases e1 : intsD ys with
  | none => rw [e1] at ef; cases ef
  | some bs =>
    rw [e1] at ef
    simp only [Option.bind_some] at ef
    cases bs with
    | nil => rw [if_pos rfl] at ef; cases ef
    | cons x r' =>
      rw [if_neg (by simp)] at ef; cases ef
      rw [ints_ok r e1] at h
      refine ⟨a, x :: r', rfl, lst1 h, by simp, fun m hm hy => ?_⟩
      have h1 := hy _ (maxI_mem x r')
      have h2 := maxI_le x r' m hm
      rw [show m = maxI (x :: r') by omega]
      exact q _ (.int _)
theorem minLI : CalI K (rMin K) (lstD minF) := lstI fun B H a us ys e Q h r ef q => by
  unfold minF at ef
  cases e1 : intsD ys with
  | none => rw [e1] at ef; cases ef
  | some bs =>
    rw [e1] at ef
    simp only [Option.bind_some] at ef
    cases bs with
    | nil => rw [if_pos rfl] at ef; cases ef
    | cons x r' =>
      rw [if_neg (by simp)] at ef; cases ef
      rw [ints_ok r e1] at h
      refine ⟨a, x :: r', rfl, lst1 h, by simp, fun m hm hy => ?_⟩
      have h1 := hy _ (minI_mem x r')
      have h2 := minI_le x r' m hm
      rw [show m = minI (x :: r') by omega]
      exact q _ (.int _)
def max2D (_ : Kap) (xs : List DV) : Option DV := match xs with
  | [.d (.int i), .d (.int j)] => some (.d (.int (if j > i then j else i)))
  | _ => none
def min2D (_ : Kap) (xs : List DV) : Option DV := match xs with
  | [.d (.int i), .d (.int j)] => some (.d (.int (if j < i then j else i)))
  | _ => none
theorem max2I : CalI K (fun xs H Q => ∃ i j, xs = [.int i, .int j] ∧ Q (.int (if j > i then j else i)) H) max2D := fun F B ι H κ vs xs z s w e Q q => by
  unfold max2D at e
  split at e
  · cases e
    cases w with
    | cons w1 w2 => cases w2 with
      | cons w2 w3 => cases w3; cases w1; cases w2; exact ⟨_, _, rfl, keepQ s (.int _) q⟩
  · cases e
theorem min2I : CalI K (fun xs H Q => ∃ i j, xs = [.int i, .int j] ∧ Q (.int (if j < i then j else i)) H) min2D := fun F B ι H κ vs xs z s w e Q q => by
  unfold min2D at e
  split at e
  · cases e
    cases w with
    | cons w1 w2 => cases w2 with
      | cons w2 w3 => cases w3; cases w1; cases w2; exact ⟨_, _, rfl, keepQ s (.int _) q⟩
  · cases e

/-! ### repr -/
def reprD (κ : Kap) (xs : List DV) : Option DV := match xs with
  | [x] => (dat κ x).bind fun d => if d.showable = true ∧ d.shown.length ≤ 16000000 ∧ d.depth ≤ 40 then some (.d (.str d.shown)) else none
  | _ => none
def rRepr (K : PySem.W.Frag) : List V → Hp → VK → Prop := fun xs H Q => ∃ v d, xs = [v] ∧ Dp K H v d ∧ d.showable = true ∧ d.hasDict = false ∧ d.shown.length ≤ 16000000 ∧ d.depth ≤ 40 ∧ Q (.str d.shown) H
end
section
variable {X : Cx}
theorem reprI {K : PySem.W.Frag} : CalI K (rRepr K) reprD := fun F B ι H κ vs xs z s w e Q q => by
  unfold reprD at e
  split at e
  · rename_i x
    cases e1 : dat κ x with
    | none => rw [e1] at e; cases e
    | some d =>
      rw [e1] at e
      simp only [Option.bind_some] at e
      split at e
      · rename_i h
        cases e
        cases w with
        | cons w1 w2 =>
          cases w2
          have dp := dat_ok (F := F) s w1.toV e1
          exact ⟨_, d, rfl, dp, h.1, hasDict_dp dp, h.2.1, h.2.2, keepQ s (.str _) q⟩
      · cases e
  · cases e
end
end DL

namespace DL
open L2 PyProof.Rows PySem PySem.Spec

section
variable {X : Cx}
theorem call_reprG (gu : X.A.guards = some []) (hu : X.A.units + 64 < cLine) : CallR X (.builtin "repr") (rRepr X.K) := by
  intro pins s σ H xs us Q I r h
  obtain ⟨v, d, rfl, dp, hs, hd, hl, hdep, q⟩ := h
  obtain ⟨u, rfl, rx⟩ := vals1 r
  obtain ⟨as, rd⟩ := Dp.reads I d v u dp rx
  have hl := line16 hl
  have fin : ∀ h' t k, (∀ b o, s.heap.get? b = some o → h'.get? b = some o) → EP X pins σ Q (.str d.shown t) { s with heap := h', toks := k } := fun h' t k kp => ⟨.str _, H, I.kept kp, ⟨_, rfl⟩, q⟩
  cases rd with
  | none => exact PySem.P.repr_of_none (fin s.heap _ _ fun _ _ e => e)
  | bool b => exact PySem.P.repr_of_bool (fin s.heap _ _ fun _ _ e => e)
  | int i t => exact PySem.P.repr_of_int (of_decide_eq_true hs) (fin s.heap _ _ fun _ _ e => e)
  | str x t => exact PySem.P.repr_of_str (fin s.heap _ _ fun _ _ e => e) hl
  | list h1 h2 h3 h4 => exact repr_of_reads' (h₀ := s.heap) (.list h1 h2 h3 h4) hs (PyData.noDict_hsm hd) gu (by omega) (fun _ _ e => e) (fun h' u t kp => fin h' u t kp) hl
  | tuple h1 h2 h3 h4 => exact repr_of_reads' (h₀ := s.heap) (.tuple h1 h2 h3 h4) hs (PyData.noDict_hsm hd) gu (by omega) (fun _ _ e => e) (fun h' u t kp => fin h' u t kp) hl
  | dict h1 h2 h3 h4 h5 => simp [PyData.hasDict] at hd
end

/-! ### isinstance -/
def isT (T : String) : D → Bool
  | .none => T == "NoneType"
  | .bool _ => T == "bool" || T == "int"
  | .int _ => T == "int"
  | .str _ => T == "str"
  | .list _ => T == "list"
  | .tuple _ => T == "tuple"
  | .dict _ => T == "dict"
def dvD : DV → D
  | .d x => x
  | .c _ => .list []
  | .n _ => .list []
def tyD : D → String
  | .none => "NoneType"
  | .bool _ => "bool"
  | .int _ => "int"
  | .str _ => "str"
  | .list _ => "list"
  | .tuple _ => "tuple"
  | .dict _ => "dict"
def knownT (T : String) : Bool := T == "int" || T == "bool" || T == "str" || T == "list" || T == "tuple"
theorem kit_known : ∀ T ∈ ["int", "bool", "str", "list", "tuple"], ∀ U ∈ ["NoneType", "bool", "int", "str", "list", "tuple"], kitB U T = some (U == T || (U == "bool" && T == "int")) := by decide +kernel
def isCell (κ : Kap) : DV → Bool
  | .c i => match κ[i]? with
    | some (.lst _) => true
    | _ => false
  | .d (.dict _) => false
  | _ => true
def mIsI (T : String) (m : ME) : ME := fun ρ κ => (m ρ κ).bind fun x κ1 => if isCell κ1 x = true then .ok (.d (.bool (isT T (dvD x)))) κ1 else .bad
def mIsI2 (T U : String) (m : ME) : ME := fun ρ κ => (m ρ κ).bind fun x κ1 => if isCell κ1 x = true then .ok (.d (.bool (isT T (dvD x) || isT U (dvD x)))) κ1 else .bad
section
variable {K : PySem.W.Frag} {F : List Addr} {B : Hp} {ι : List Addr} {H : Hp} {κ : Kap} {v : V} {x : DV}
theorem isT_eq (T : String) (hT : T ∈ ["int", "bool", "str", "list", "tuple"]) (d : D) (hd : ∀ k, d ≠ .dict k) : kitB (tyD d) T = some (isT T d) := by
  have hU : tyD d ∈ ["NoneType", "bool", "int", "str", "list", "tuple"] := by
    cases d with
    | dict k => exact absurd rfl (hd k)
    | _ => simp [tyD]
  rw [kit_known T hT (tyD d) hU]
  congr 1
  revert T
  cases d with
  | dict k => exact absurd rfl (hd k)
  | _ => simp only [tyD, isT] <;> decide
theorem tyOf_tup {a : Addr} {xs : List V} (h : SqT K H a xs) : TyX K H (.ref a) (.type "tuple") := by
  rcases h with (h | ⟨o, h⟩) | ⟨o, its, n, h, h2, _⟩
  · exact .base (.tup h)
  · exact .fTuple h
  · exact .kTuple h h2
theorem tyX_of (s : HSt K F B ι H κ) (w : VOk K F B ι H v x) (hc : isCell κ x = true) : TyX K H v (.type (tyD (dvD x))) ∧ ∀ k, dvD x ≠ .dict k := by
  cases x with
  | d x =>
    cases x with
    | none => cases w; exact ⟨.base .non, fun k => nofun⟩
    | bool b => cases w; exact ⟨.base (.bl b), fun k => nofun⟩
    | int b => cases w; exact ⟨.base (.int b), fun k => nofun⟩
    | str b => cases w; exact ⟨.base (.str b), fun k => nofun⟩
    | list xs => cases w with | lst h r => exact ⟨.base (.lst (s.ex _ _ h)), fun k => nofun⟩
    | tuple xs => cases w with | tup h r => exact ⟨tyOf_tup (same_t s.ex h), fun k => nofun⟩
    | dict k => cases hc
  | c i =>
    obtain ⟨a, h1, rfl⟩ := w
    simp only [isCell] at hc
    split at hc
    · rename_i ys e
      obtain ⟨vs, h2, _⟩ := s.cel i a _ h1 e
      exact ⟨.base (.lst h2), fun k => nofun⟩
    · cases hc
  | n xs =>
    obtain ⟨p, vs, rfl, h1, _⟩ := w
    exact ⟨.base (.lst h1), fun k => nofun⟩
end
section
variable {X : Cx} {E : XK} {e c c2 : Expr} {m : ME} {T U : String} {p pos p2 : Pos}
theorem je_isi (hg : Gl X "isinstance") (hm : X.mg "isinstance" = none) (he : JE X E e m) (hc : PE X c (tC (.ty T))) (hT : T ∈ ["int", "bool", "str", "list", "tuple"])
    (h1 : starEach [e, c] X.env = (false, eval e X.env) :: starEach [c] X.env := by rfl) (h2 : starEach [c] X.env = (false, eval c X.env) :: starEach [] X.env := by rfl) (hpl : (backTo pos (starEach [c] X.env)).any (·.1) = false := by rfl) :
    JE X E (.Call (.Name "isinstance" p) [e, c] [] pos) (mIsI T m) :=
  pe_imp (pe_callB call_isi hg hm (by decide +kernel) (pa_cons he (pa_cons hc pa_nil h2) h1) (by decide) (by decide) h1 hpl) fun σ H Q ⟨F, B, ι, ρ, κ, s, h⟩ => by
    unfold mIsI at h
    refine evE s (fun x κ1 e1 v B1 ι1 H1 g1 s1 w1 => ?_) (fun n fs κ1 e1 => by rw [e1] at h; exact h) (fun e => by rw [e] at h; exact h)
    rw [e1] at h
    dsimp only [Out.bind] at h
    split at h
    · rename_i hx
      obtain ⟨ty, nd⟩ := tyX_of s1 w1 hx
      exact ⟨v, .ty T, _, .type T, _, rfl, .ty T, ty, kit_ty (isT_eq T hT _ nd), h _ B1 ι1 H1 g1 s1 (.bl _)⟩
    · exact h.elim
theorem je_isi2 {k : Nat} (hg : Gl X "isinstance") (hm : X.mg "isinstance" = none) (he : JE X E e m) (hc : PE X c (tC (.ty T))) (hc2 : PE X c2 (tC (.ty U))) (hT : T ∈ ["int", "bool", "str", "list", "tuple"]) (hU : U ∈ ["int", "bool", "str", "list", "tuple"])
    (h1 : starEach [e, .Tuple [c, c2] k p2] X.env = (false, eval e X.env) :: starEach [.Tuple [c, c2] k p2] X.env := by rfl) (h2 : starEach [.Tuple [c, c2] k p2] X.env = (false, eval (.Tuple [c, c2] k p2) X.env) :: starEach [] X.env := by rfl)
    (h3 : starEach [c, c2] X.env = (false, eval c X.env) :: starEach [c2] X.env := by rfl) (h4 : starEach [c2] X.env = (false, eval c2 X.env) :: starEach [] X.env := by rfl)
    (hpl : (backTo pos (starEach [.Tuple [c, c2] k p2] X.env)).any (·.1) = false := by rfl) :
    JE X E (.Call (.Name "isinstance" p) [e, .Tuple [c, c2] k p2] [] pos) (mIsI2 T U m) :=
  pe_imp (pe_callB call_isiT hg hm (by decide +kernel) (pa_cons he (pa_cons (pe_tup (pa_cons hc (pa_cons hc2 pa_nil h4) h3)) pa_nil h2) h1) (by decide) (by decide) h1 hpl) fun σ H Q ⟨F, B, ι, ρ, κ, s, h⟩ => by
    unfold mIsI2 at h
    refine evE s (fun x κ1 e1 v B1 ι1 H1 g1 s1 w1 => ?_) (fun n fs κ1 e1 => by rw [e1] at h; exact h) (fun e => by rw [e] at h; exact h)
    rw [e1] at h
    dsimp only [Out.bind] at h
    split at h
    · rename_i hx
      refine ⟨(by show 2 ≤ sizeLine; decide), fun t ht => ?_⟩
      obtain ⟨F', hF, sF, back⟩ := s1.hold w1
      obtain ⟨s2, g2⟩ := sF.new (o := .tup [.ty T, .ty U]) ht
      obtain ⟨w2, s2', g2'⟩ := back g2 s2
      obtain ⟨ty, nd⟩ := tyX_of s2' w2 hx
      have k1 := kit_ty (K := X.K) (isT_eq T hT _ nd)
      have k2 := kit_ty (K := X.K) (isT_eq U hU _ nd)
      have kk : PySem.W.kitAny X.K (.type (tyD (dvD x))) [.type T, .type U] = some (isT T (dvD x) || isT U (dvD x)) :=
        kitAny_cons k1 (fun ha => by rw [ha, Bool.false_or]; exact kitAny_cons k2 (fun hb => by rw [hb]; rfl) fun hb => hb) fun ha => by rw [ha]; rfl
      exact ⟨v, t, [.ty T, .ty U], _, [.type T, .type U], _, rfl, upd_same, .cons (.ty T) (.cons (.ty U) .nil), ty, kk, h _ _ _ _ (g1.trans g2') s2' (.bl _)⟩
    · exact h.elim
end

/-! ### slices -/
abbrev MO := Rho → Kap → Out (Option Int)
def mNoP : MO := fun _ κ => .ok none κ
def mPt (m : ME) : MO := fun ρ κ => (m ρ κ).bind fun x κ1 => match x with
  | .d (.int i) => .ok (some i) κ1
  | _ => .bad
def tO (K : PySem.W.Frag) (mg : Str → Option Value) (E : XK) (m : MO) : TO := fun σ H Q => ∃ F B ι ρ κ, SOk K F B ι σ H ρ κ ∧ match m ρ κ with
  | .ok o κ' => ∀ B' ι' H', Grow F B ι H B' ι' H' → HSt K F B' ι' H' κ' → Q o H'
  | .ex n fs κ' => XW K mg E F B ι H n fs κ'
  | .bad => False
abbrev JO (X : Cx) (E : XK) (e : Option Expr) (m : MO) : Prop := PO X e (tO X.K X.mg E m)
def cutD (xs : List D) (lo hi : Option Int) : List D := (xs.drop (HT.sIx xs.length 0 lo)).take (HT.sIx xs.length xs.length hi - HT.sIx xs.length 0 lo)
def slD (κ : Kap) (x : DV) (lo hi : Option Int) : Option DV := match x with
  | .d (.str a) => if a.length ≤ 16000000 then some (.d (.str (cutS a lo hi))) else none
  | .d (.tuple xs) => some (.d (.tuple (cutD xs lo hi)))
  | x => (lvS κ x).map fun xs => .n (cutD xs lo hi)
def mSl (f : Kap → DV → Option Int → Option Int → Option DV) (a : ME) (l u : MO) : ME := fun ρ κ => (a ρ κ).bind fun x κ1 => (l ρ κ1).bind fun lo κ2 => (u ρ κ2).bind fun hi κ3 => opt κ3 (f κ3 x lo hi)
def mRev (a : ME) : ME := fun ρ κ => (a ρ κ).bind fun x κ1 => match lvS κ1 x with
  | some xs => .ok (.n xs.reverse) κ1
  | none => .bad
section
variable {X : Cx} {E : XK} {e : Expr} {m : ME} {ml mu : MO} {lo hi : Option Expr} {pos p2 : Pos}
theorem po_imp {e : Option Expr} {t t' : TO} (h : PO X e t) (i : ∀ σ H Q, t' σ H Q → t σ H Q) : PO X e t' := ⟨fun pins s σ H Q I q => h.run pins s σ H Q I (i σ H Q q)⟩
theorem jo_none : JO X E none mNoP := po_imp po_none fun σ H Q ⟨F, B, ι, ρ, κ, s, h⟩ => h B ι H Grow.refl s.hs
theorem jo_some (he : JE X E e m) : JO X E (some e) (mPt m) := po_imp (po_some he) fun σ H Q ⟨F, B, ι, ρ, κ, s, h⟩ => by
  unfold mPt at h
  refine evE s (fun x κ1 e1 v B1 ι1 H1 g1 s1 w1 => ?_) (fun n fs κ1 e1 => by rw [e1] at h; exact h) (fun e => by rw [e] at h; exact h)
  rw [e1] at h
  dsimp only [Out.bind] at h
  split at h
  · rename_i o κ' q
    split at q
    · cases q; cases w1; exact ⟨_, rfl, h B1 ι1 H1 g1 s1⟩
    · cases q
  · rename_i q; split at q <;> cases q
  · exact h.elim
theorem evO {K : PySem.W.Frag} {mg : Str → Option Value} {F : List Addr} {B : Hp} {ι : List Addr} {σ : L2.St} {H : Hp} {ρ : Rho} {κ : Kap} {m : MO} {Q : Option Int → Hp → Prop} (s : SOk K F B ι σ H ρ κ)
    (hok : ∀ x κ1, m ρ κ = .ok x κ1 → ∀ B1 ι1 H1, Grow F B ι H B1 ι1 H1 → HSt K F B1 ι1 H1 κ1 → Q x H1)
    (hex : ∀ n fs κ1, m ρ κ = .ex n fs κ1 → XW K mg E F B ι H n fs κ1) (hb : m ρ κ ≠ .bad) : tO K mg E m σ H Q := by
  refine ⟨F, B, ι, ρ, κ, s, ?_⟩
  cases e : m ρ κ with
  | ok x κ1 => exact hok x κ1 e
  | ex n fs κ1 => exact hex n fs κ1 e
  | bad => exact hb e
theorem cut_rp {K : PySem.W.Frag} {B : Hp} {vs : List V} {xs : List D} (r : RpAll K B vs xs) (lo hi : Option Int) : RpAll K B (cutV vs lo hi) (cutD xs lo hi) := by
  unfold cutV cutD
  rw [r.len]
  exact (r.drop _).take _
theorem sl_all : SlR X (fun x lo hi H Q => rSlS x lo hi H Q ∨ rSlA X.K x lo hi H Q ∨ rSlL X.K x lo hi H Q) := sl_str.or (sl_tupA.or sl_list)
theorem je_sl (he : JE X E e m) (hl : JO X E lo ml) (hu : JO X E hi mu) : JE X E (.Subscript e (.Slice lo hi none p2) pos) (mSl slD m ml mu) :=
  pe_imp (pe_slice sl_all he hl hu) fun σ H Q ⟨F, B, ι, ρ, κ, s, h⟩ => by
    unfold mSl at h
    refine evE s (fun x κ1 e1 v B1 ι1 H1 g1 s1 w1 => ?_) (fun n fs κ1 e1 => by rw [e1] at h; exact h) (fun e => by rw [e] at h; exact h)
    rw [e1] at h
    replace h : PostE X.K X.mg E F B ι H Q ((ml ρ κ1).bind fun lo κ2 => (mu ρ κ2).bind fun hi κ3 => opt κ3 (slD κ3 x lo hi)) := h
    obtain ⟨F', hF, s1', back⟩ := s1.hold w1
    refine evO (s.step g1 s1') (fun lo κ2 e2 B2 ι2 H2 g2 s2 => ?_) (fun n fs κ2 e2 => by rw [e2] at h; exact XW.grow h g1 hF) (fun e2 => by rw [e2] at h; exact h)
    rw [e2] at h
    replace h : PostE X.K X.mg E F B ι H Q ((mu ρ κ2).bind fun hi κ3 => opt κ3 (slD κ3 x lo hi)) := h
    refine evO ((s.step g1 s1').step g2 s2) (fun hi κ3 e3 B3 ι3 H3 g3 s3 => ?_) (fun n fs κ3 e3 => by rw [e3] at h; exact XW.grow h (g1.trans (g2.less hF)) hF) (fun e3 => by rw [e3] at h; exact h)
    rw [e3] at h
    replace h : PostE X.K X.mg E F B ι H Q (opt κ3 (slD κ3 x lo hi)) := h
    obtain ⟨w3, s3', g3'⟩ := back (g2.trans g3) s3
    have gg := g1.trans g3'
    cases q : slD κ3 x lo hi with
    | none => rw [q] at h; exact h.elim
    | some z =>
      rw [q] at h
      replace h : ∀ v B' ι' H', Grow F B ι H B' ι' H' → HSt X.K F B' ι' H' κ3 → VOk X.K F B' ι' H' v z → Q v H' := h
      unfold slD at q
      split at q
      · split at q
        · rename_i hl
          cases q; cases w3
          exact .inl ⟨_, rfl, line16 hl, h _ B3 ι3 H3 gg s3' (.str _)⟩
        · cases q
      · rename_i xs
        cases q
        obtain ⟨p, vs, rfl, h1, r⟩ := tup_ok s3' w3
        refine .inr (.inl ⟨p, vs, rfl, h1, fun hw => ?_, fun _ => newT s3' (cut_rp r lo hi) fun v' B' ι' H' g s' w' => h v' B' ι' H' (gg.trans g) s' w'⟩)
        have e : cutD xs lo hi = xs := by
          unfold cutD
          rw [← r.len, hw.1, hw.2, List.drop_zero, Nat.sub_zero, List.take_of_length_le (Nat.le_of_eq r.len.symm)]
        rw [e] at h
        exact h _ B3 ι3 H3 gg s3' w3
      · cases q1 : lvS κ3 x with
        | none => rw [q1] at q; cases q
        | some xs =>
          rw [q1] at q; cases q
          obtain ⟨p, vs, rfl, h1, r⟩ := lvS_ok s3' w3 q1
          exact .inr (.inr ⟨p, vs, rfl, h1, newQ s3' (cut_rp r lo hi) fun v' B' ι' H' g s' w' => h v' B' ι' H' (gg.trans g) s' w'⟩)
theorem je_rev {k : Nat} {p1 p3 : Pos} (he : JE X E e m) : JE X E (.Subscript e (.Slice none none (some (.UnaryOp .USub (.Constant (.int 1) k p1) p2)) p3) pos) (mRev m) :=
  pe_imp (pe_revL he) fun σ H Q ⟨F, B, ι, ρ, κ, s, h⟩ => by
    unfold mRev at h
    refine evE s (fun x κ1 e1 v B1 ι1 H1 g1 s1 w1 => ?_) (fun n fs κ1 e1 => by rw [e1] at h; exact h) (fun e => by rw [e] at h; exact h)
    rw [e1] at h
    dsimp only [Out.bind] at h
    split at h
    · rename_i xs q
      obtain ⟨p, vs, rfl, h1, r⟩ := lvS_ok s1 w1 q
      exact ⟨p, vs, rfl, h1, newQ s1 r.reverse fun v' B' ι' H' g s' w' => h v' B' ι' H' (g1.trans g) s' w'⟩
    · exact h.elim
end
end DL

namespace DL
open L2 PyProof.Rows PySem PySem.Spec

section
variable {K : PySem.W.Frag} {F : List Addr} {B : Hp} {ι : List Addr} {H : Hp} {κ : Kap} {v : V} {x : DV}
/-- a cell is written -/
theorem HSt.setCell (s : HSt K F B ι H κ) {i : Nat} {a : Addr} (hi : ι[i]? = some a) (hl : κ[i]? ≠ some .dead) {o : HO} {cl : Cell} (hc : ∀ H' : Hp, H' a = some o → COk K B ι H' a cl) :
    HSt K F B ι (upd H a o) (κ.set i cl) ∧ Grow F B ι H B ι (upd H a o) := by
  have ma := List.mem_of_getElem? hi
  have hb := s.out i a hi hl
  refine ⟨⟨fun b u e => ?_, by rw [List.length_set]; exact s.len, s.nd, fun j b m l => ?_, fun b m => ?_, fun j b cl' e1 e2 => ?_, fun b m => ?_, fun q m => let t := s.tb q m; t.to (Same.refl _) (upd_ne fun z => t.2.2.1 (z ▸ ma)) t.2.1 t.2.2.1 t.2.2.2⟩, ⟨Same.refl _, fun _ _ h => h, fun b m => upd_ne (fun (e : b = a) => (s.pro b m).2.2 (e ▸ ma))⟩⟩
  · rw [upd_ne (fun (q : b = a) => by rw [q, hb] at e; cases e)]; exact s.ex b u e
  · by_cases q : i = j
    · subst q; rw [hi] at m; cases m; exact hb
    · rw [List.getElem?_set_ne q] at l; exact s.out j b m l
  · obtain ⟨h1, h2, h3⟩ := s.pro b m
    refine ⟨?_, h2, h3⟩
    rw [upd_ne (fun (e : b = a) => h3 (e ▸ ma))]; exact h1
  · by_cases q : i = j
    · subst q
      rw [hi] at e1
      cases e1
      rw [List.getElem?_set_self (by rw [← s.len]; exact (List.getElem?_eq_some_iff.mp hi).1)] at e2
      cases e2
      exact hc _ upd_same
    · rw [List.getElem?_set_ne q] at e2
      exact (s.cel j b cl' e1 e2).mono (Same.refl _) (fun _ _ h => h) (upd_ne (fun (e : b = a) => q (nd_ix s.nd hi (e ▸ e1))))
  · by_cases q : b = a
    · subst q; exact ⟨_, upd_same⟩
    · rw [upd_ne q]; exact s.tr b m
end

/-! ### methods of a cell -/
/-- what a method does to a list's items, and its value -/
def CelI (r : V → List V → Hp → VK → Prop) (f : List DV → List DV → Option (DV × List DV)) : Prop :=
  ∀ (K : PySem.W.Frag) (B : Hp) (ι : List Addr) (H : Hp) (a : Addr) (us ws : List V) (ys xs : List DV) (z : DV) (ys' : List DV), H a = some (.lst us) → Paired (WOk K B ι) us ys → Paired (WOk K B ι) ws xs → f ys xs = some (z, ys') →
    ∀ Q : VK, (∀ v us', WOk K B ι v z → Paired (WOk K B ι) us' ys' → Q v (upd H a (.lst us'))) → r (.ref a) ws H Q
def mCm (f : List DV → List DV → Option (DV × List DV)) (mo : ME) (ma : MA) : ME := fun ρ κ => (mo ρ κ).bind fun x κ1 => match x with
  | .c i => match κ1[i]? with
    | some (.lst _) => (ma ρ κ1).bind fun xs κ2 => match κ2[i]? with
      | some (.lst ys) => match f ys xs with
        | some (z, ys') => .ok z (κ2.set i (.lst ys'))
        | none => .bad
      | _ => .bad
    | _ => .bad
  | _ => .bad
section
variable {K : PySem.W.Frag} {mg : Str → Option Value} {E : XK}
theorem cm_imp {r : V → List V → Hp → VK → Prop} {f : List DV → List DV → Option (DV × List DV)} {mo : ME} {ma : MA} (hi : CelI r f) {σ : L2.St} {H : Hp} {Q : VK} (h : tM K mg E (mCm f mo ma) σ H Q) : tBM K "list" r (tM K mg E mo) (tA K mg E ma) σ H Q := by
  obtain ⟨F, B, ι, ρ, κ, s, h⟩ := h
  unfold mCm at h
  refine evE s (fun x κ1 e1 v B1 ι1 H1 g1 s1 w1 => ?_) (fun n fs κ1 e1 => by rw [e1] at h; exact h) (fun e => by rw [e] at h; exact h)
  rw [e1] at h
  dsimp only [Out.bind] at h
  split at h
  · rename_i i
    split at h
    · rename_i ys0 e0
      obtain ⟨a, h1, rfl⟩ := w1
      obtain ⟨us0, h0, _⟩ := s1.cel i a _ h1 e0
      refine ⟨.inl ⟨rfl, us0, lst1 h0⟩, ?_⟩
      replace h : PostE K mg E F B ι H Q ((ma ρ κ1).bind fun xs κ2 => match κ2[i]? with
        | some (.lst ys) => match f ys xs with
          | some (z, ys') => .ok z (κ2.set i (.lst ys'))
          | none => .bad
        | _ => .bad) := h
      refine evA (s.step g1 s1) (fun xs κ2 e2 ws B2 ι2 H2 g2 s2 w2 => ?_) (fun n fs κ2 e2 => by rw [e2] at h; exact XW.grow h g1 fun _ m => m) (fun e => by rw [e] at h; exact h)
      rw [e2] at h
      dsimp only [Out.bind] at h
      split at h
      · rename_i ys e3
        split at h
        · rename_i z ys' e4
          have h2 := g2.i i a h1
          obtain ⟨us, h3, p3⟩ := s2.cel i a _ h2 e3
          refine hi K B2 ι2 H2 a us ws ys xs z ys' h3 p3 w2 e4 Q fun v us' wv p' => ?_
          obtain ⟨s3, g3⟩ := s2.setCell h2 (by rw [e3]; simp) (o := .lst us') (cl := .lst ys') fun H' e => ⟨us', e, p'⟩
          exact h v B2 ι2 _ ((g1.trans g2).trans g3) s3 wv.toV
        · exact h.elim
      · exact h.elim
    · exact h.elim
  · exact h.elim
theorem cm0_imp {r : V → List V → Hp → VK → Prop} {f : List DV → List DV → Option (DV × List DV)} {mo : ME} (hi : CelI r f) {σ : L2.St} {H : Hp} {Q : VK} (h : tM K mg E (mCm f mo mNil) σ H Q) : tBM0 K "list" r (tM K mg E mo) σ H Q := by
  obtain ⟨F, B, ι, ρ, κ, s, h⟩ := h
  unfold mCm at h
  refine evE s (fun x κ1 e1 v B1 ι1 H1 g1 s1 w1 => ?_) (fun n fs κ1 e1 => by rw [e1] at h; exact h) (fun e => by rw [e] at h; exact h)
  rw [e1] at h
  dsimp only [Out.bind, mNil] at h
  split at h
  · rename_i i
    split at h
    · rename_i ys0 e0
      obtain ⟨a, h1, rfl⟩ := w1
      obtain ⟨us0, h0, p0⟩ := s1.cel i a _ h1 e0
      refine ⟨.inl ⟨rfl, us0, lst1 h0⟩, ?_⟩
      have e0' : κ1[i]? = some (.lst ys0) := by assumption
      replace h : PostE K mg E F B ι H Q (match κ1[i]? with
        | some (.lst ys) => match f ys [] with
          | some (z, ys') => .ok z (κ1.set i (.lst ys'))
          | none => .bad
        | _ => .bad) := by rw [e0']; exact h
      rw [e0'] at h
      dsimp only at h
      split at h
      · rename_i z ys' e4
        refine hi K B1 ι1 H1 a us0 [] _ [] z ys' h0 p0 .nil e4 Q fun v us' wv p' => ?_
        obtain ⟨s3, g3⟩ := s1.setCell h1 (by first | (rw [e0]; simp) | (rw [e0']; simp)) (o := .lst us') (cl := .lst ys') fun H' e => ⟨us', e, p'⟩
        exact h v B1 ι1 _ (g1.trans g3) s3 wv.toV
      · exact h.elim
    · exact h.elim
  · exact h.elim
end
section
variable {X : Cx} {E : XK} {o e : Expr} {es : List Expr} {name : Str} {apos cpos : Pos} {id : String} {r : V → List V → Hp → VK → Prop} {f : List DV → List DV → Option (DV × List DV)} {mo : ME} {ma : MA}
theorem je_cm (slot : Slot "list" name id) (hty : typeOf (.builtin id) = pure (.type "method_descriptor")) (hm : MtR X id r) (hi : CelI r f) (ho : JE X E o mo) (ha : JA X E (e :: es) ma)
    (hbase : attributeBase o name X.env (eval o X.env) = eval o X.env := by rfl)
    (hfew : ((backTo cpos (starEach (e :: es) X.env)).all (fun x => !x.1) && (backToKw cpos (keywordEach [] X.env)).all (fun x => x.1.isSome)
      && decide ((e :: es).length + ([] : List Keyword).length + (if ([] : List Keyword).isEmpty then 0 else 1) < 30)) = true := by rfl)
    (hline : (apos.endLine == cpos.line) = true := by rfl) (hs : starEach (e :: es) X.env = (false, eval e X.env) :: starEach es X.env := by rfl) (hplain : (backTo cpos (starEach es X.env)).any (·.1) = false := by rfl) :
    JE X E (.Call (.Attribute o name apos) (e :: es) [] cpos) (mCm f mo ma) :=
  pe_imp (pe_bm PySem.F.plainAttrs_list slot hty hm ho ha hbase hfew hline hs hplain) fun _ _ _ h => cm_imp hi h
theorem je_cm0 (slot : Slot "list" name id) (hty : typeOf (.builtin id) = pure (.type "method_descriptor")) (hm : MtR X id r) (hi : CelI r f) (ho : JE X E o mo)
    (hbase : attributeBase o name X.env (eval o X.env) = eval o X.env := by rfl) (hline : (apos.endLine == cpos.line) = true := by rfl) : JE X E (.Call (.Attribute o name apos) [] [] cpos) (mCm f mo mNil) :=
  pe_imp (pe_bm0 PySem.F.plainAttrs_list slot hty hm ho hbase hline) fun _ _ _ h => cm0_imp hi h
end
section
variable {K : PySem.W.Frag} {B : Hp} {ι : List Addr}
theorem pr_take {us : List V} {ys : List DV} (n : Nat) (p : Paired (WOk K B ι) us ys) : Paired (WOk K B ι) (us.take n) (ys.take n) := by
  induction p generalizing n with
  | nil => cases n <;> exact .nil
  | cons h _ ih => cases n with
    | zero => exact .nil
    | succ n => exact .cons h (ih n)
theorem pr_drop {us : List V} {ys : List DV} (n : Nat) (p : Paired (WOk K B ι) us ys) : Paired (WOk K B ι) (us.drop n) (ys.drop n) := by
  induction p generalizing n with
  | nil => cases n <;> exact .nil
  | cons h t ih => cases n with
    | zero => exact .cons h t
    | succ n => exact ih n
theorem pr_app {us ws : List V} {ys xs : List DV} (p : Paired (WOk K B ι) us ys) (q : Paired (WOk K B ι) ws xs) : Paired (WOk K B ι) (us ++ ws) (ys ++ xs) := by
  induction p with
  | nil => exact q
  | cons h _ ih => exact .cons h ih
theorem pr_erase {us : List V} {ys : List DV} (n : Nat) (p : Paired (WOk K B ι) us ys) : Paired (WOk K B ι) (us.eraseIdx n) (ys.eraseIdx n) := by
  induction p generalizing n with
  | nil => exact .nil
  | cons h t ih => cases n with
    | zero => exact t
    | succ n => exact .cons h (ih n)
theorem pr_set {us : List V} {ys : List DV} {v : V} {x : DV} (n : Nat) (w : WOk K B ι v x) (p : Paired (WOk K B ι) us ys) : Paired (WOk K B ι) (us.set n v) (ys.set n x) := by
  induction p generalizing n with
  | nil => exact .nil
  | cons h t ih => cases n with
    | zero => exact .cons w t
    | succ n => exact .cons h (ih n)
theorem pr_rev {us : List V} {ys : List DV} (p : Paired (WOk K B ι) us ys) : Paired (WOk K B ι) us.reverse ys.reverse := by
  induction p with
  | nil => exact .nil
  | cons h _ ih =>
    rw [List.reverse_cons, List.reverse_cons]
    exact pr_app ih (.cons h .nil)
end
def appF (ys xs : List DV) : Option (DV × List DV) := match xs with
  | [x] => if ys.length < 1000000 then some (.d .none, ys ++ [x]) else none
  | _ => none
theorem appI : CelI rAppend appF := fun K B ι H a us ws ys xs z ys' h p w e Q q => by
  unfold appF at e
  split at e
  · split at e
    · rename_i x hl
      cases e
      cases w with
      | cons w1 w2 =>
        cases w2
        exact ⟨a, us, _, rfl, rfl, h, by rw [p.length]; exact Nat.lt_of_lt_of_le hl (by decide), q .non _ .non (pr_app p (.cons w1 .nil))⟩
    · cases e
  · cases e
def insF (ys xs : List DV) : Option (DV × List DV) := match xs with
  | [.d (.int i), x] => if ys.length < 1000000 ∧ 0 ≤ i ∧ i < 1000000 then some (.d .none, ys.take i.toNat ++ [x] ++ ys.drop i.toNat) else none
  | _ => none
def rIns : V → List V → Hp → VK → Prop := fun x vs H Q => ∃ (l : Addr) (xs : List V) (i : Int) (y : V), x = .ref l ∧ vs = [.int i, y] ∧ H l = some (.lst xs) ∧ xs.length < sizeLine ∧ 0 ≤ i ∧ i < 2 ^ 63 ∧ Q .non (upd H l (.lst (xs.take i.toNat ++ [y] ++ xs.drop i.toNat)))
theorem insI : CelI rIns insF := fun K B ι H a us ws ys xs z ys' h p w e Q q => by
  unfold insF at e
  split at e
  · split at e
    · rename_i i x hl
      cases e
      cases w with
      | cons w1 w2 => cases w2 with
        | cons w2 w3 =>
          cases w3; cases w1
          exact ⟨a, us, _, _, rfl, rfl, h, by rw [p.length]; exact Nat.lt_of_lt_of_le hl.1 (by decide), hl.2.1, by omega, q .non _ .non (pr_app (pr_app (pr_take _ p) (.cons w2 .nil)) (pr_drop _ p))⟩
    · cases e
  · cases e
def popF (ys xs : List DV) : Option (DV × List DV) := match xs with
  | [] => (ys[ys.length - 1]?).map fun y => (y, ys.dropLast)
  | _ => none
theorem popI : CelI rPop popF := fun K B ι H a us ws ys xs z ys' h p w e Q q => by
  unfold popF at e
  split at e
  · cases w
    cases e1 : ys[ys.length - 1]? with
    | none => rw [e1] at e; cases e
    | some y =>
      rw [e1] at e; cases e
      obtain ⟨v, h1, h2⟩ := Paired.getP p e1
      refine ⟨a, us, v, rfl, rfl, h, by rw [p.length]; exact h1, q v _ h2 ?_⟩
      rw [List.dropLast_eq_take, List.dropLast_eq_take, p.length]
      exact pr_take _ p
  · cases e
def popAtF (ys xs : List DV) : Option (DV × List DV) := match xs with
  | [.d (.int i)] => if 0 ≤ i ∧ i < 1000000 then (ys[i.toNat]?).map fun y => (y, ys.eraseIdx i.toNat) else none
  | _ => none
theorem popAtI : CelI rPopAt popAtF := fun K B ι H a us ws ys xs z ys' h p w e Q q => by
  unfold popAtF at e
  split at e
  · split at e
    · rename_i i hl
      cases e1 : ys[i.toNat]? with
      | none => rw [e1] at e; cases e
      | some y =>
        rw [e1] at e; cases e
        cases w with
        | cons w1 w2 =>
          cases w2; cases w1
          obtain ⟨v, h1, h2⟩ := Paired.getP p e1
          have hlt : i.toNat < us.length := (List.getElem?_eq_some_iff.mp h1).1
          refine ⟨a, us, i, i.toNat, v, rfl, rfl, h, by omega, by omega, ?_, h1, q v _ h2 (pr_erase _ p)⟩
          have := (ixN_seq (n := us.length) (i := i) (j := i.toNat) (by unfold ixN; rw [if_pos hl.1, if_pos (by omega)])).1
          exact this
    · cases e
  · cases e
def revF (ys xs : List DV) : Option (DV × List DV) := match xs with
  | [] => some (.d .none, ys.reverse)
  | _ => none
theorem revI : CelI rReverse revF := fun K B ι H a us ws ys xs z ys' h p w e Q q => by
  unfold revF at e
  split at e
  · cases e; cases w
    exact ⟨a, us, rfl, rfl, h, q .non _ .non (pr_rev p)⟩
  · cases e

/-! ### x[i] = e -/
def bSub (mo mi : ME) : MG := fun x ρ κ => match mo ρ κ with
  | .ok (.c j) κ1 => match mi ρ κ1 with
    | .ok (.d (.int k)) κ2 => match κ2[j]? with
      | some (.lst ys) => match ixN ys.length k with
        | some n => some (ρ, κ2.set j (.lst (ys.set n x)))
        | none => none
      | _ => none
    | _ => none
  | _ => none
section
variable {X : Cx} {o i : Expr} {mo mi : ME} {pos : Pos}
theorem jg_sub (ho : JE X E0 o mo) (hi : JE X E0 i mi)
    (ha : ∀ v, assign (.Subscript o i pos) X.env v = (do
      let ov ← holding [v] (eval o X.env)
      let iv ← holding [v, ov] (eval i X.env)
      standAt pos
      holding [v, ov, iv] (setItem ov iv v)
      release [v, ov, iv] []) := by intro _; rfl) : JG X (.Subscript o i pos) (bSub mo mi) [] :=
  pg_imp (pg_sub ho hi set_list ha) fun v σ H Q ⟨F, B, ι, ρ, κ, x, s, w, h⟩ => by
    unfold bSub at h
    refine evE s (fun y κ1 e1 u B1 ι1 H1 g1 s1 w1 => ?_) (fun n fs κ1 e1 => by rw [e1] at h; exact h.elim) (fun e => by rw [e] at h; exact h)
    rw [e1] at h
    cases y with
    | d y => exact h.elim
    | n y => exact h.elim
    | c j =>
      dsimp only at h
      refine evE (s.step g1 s1) (fun z κ2 e2 u2 B2 ι2 H2 g2 s2 w2 => ?_) (fun n fs κ1 e2 => by rw [e2] at h; exact h.elim) (fun e => by rw [e] at h; exact h)
      rw [e2] at h
      obtain ⟨a, h1, rfl⟩ := w1
      cases z with
      | c _ => exact h.elim
      | n _ => exact h.elim
      | d z =>
        cases z with
        | int k =>
          dsimp only at h
          cases q1 : κ2[j]? with
          | none => rw [q1] at h; exact h.elim
          | some cl =>
            rw [q1] at h
            cases cl with
            | lst ys =>
              dsimp only at h
              cases q2 : ixN ys.length k with
              | none => rw [q2] at h; exact h.elim
              | some n =>
                rw [q2] at h
                have h2 := g2.i j a h1
                obtain ⟨us, h3, p3⟩ := s2.cel j a _ h2 q1
                cases w2
                have w' := (w.grow g1).grow g2
                obtain ⟨s3, g3⟩ := s2.setCell h2 (by rw [q1]; simp) (o := .lst (us.set n v)) (cl := .lst (ys.set n x)) fun H' e => ⟨_, e, pr_set n w' p3⟩
                exact ⟨a, us, k, n, rfl, rfl, h3, by rw [p3.length]; exact q2, h σ B2 ι2 _ ⟨rfl, fun _ _ => rfl⟩ ((g1.trans g2).trans g3) (s.step ((g1.trans g2).trans g3) s3)⟩
            | _ => exact h.elim
        | _ => exact h.elim
end

/-! ### methods of a text -/
def mMs (f : Kap → Str → List DV → Option DV) (mo : ME) (ma : MA) : ME := fun ρ κ => (mo ρ κ).bind fun x κ1 => match x with
  | .d (.str a) => (ma ρ κ1).bind fun xs κ2 => opt κ2 (f κ2 a xs)
  | _ => .bad
def MsI (K : PySem.W.Frag) (r : V → List V → Hp → VK → Prop) (f : Kap → Str → List DV → Option DV) : Prop :=
  ∀ F B ι H κ a ws xs z, HSt K F B ι H κ → Paired (WOk K B ι) ws xs → f κ a xs = some z → ∀ Q : VK,
    (∀ v' B' ι' H', Grow F B ι H B' ι' H' → HSt K F B' ι' H' κ → VOk K F B' ι' H' v' z → Q v' H') → r (.str a) ws H Q
section
variable {K : PySem.W.Frag} {mg : Str → Option Value} {E : XK}
theorem ms_imp {r : V → List V → Hp → VK → Prop} {f : Kap → Str → List DV → Option DV} {mo : ME} {ma : MA} (hi : MsI K r f) {σ : L2.St} {H : Hp} {Q : VK} (h : tM K mg E (mMs f mo ma) σ H Q) : tBM K "str" r (tM K mg E mo) (tA K mg E ma) σ H Q := by
  obtain ⟨F, B, ι, ρ, κ, s, h⟩ := h
  unfold mMs at h
  refine evE s (fun x κ1 e1 v B1 ι1 H1 g1 s1 w1 => ?_) (fun n fs κ1 e1 => by rw [e1] at h; exact h) (fun e => by rw [e] at h; exact h)
  rw [e1] at h
  dsimp only [Out.bind] at h
  split at h
  · rename_i a
    cases w1
    refine ⟨rfl, ?_⟩
    replace h : PostE K mg E F B ι H Q ((ma ρ κ1).bind fun xs κ2 => opt κ2 (f κ2 a xs)) := h
    refine evA (s.step g1 s1) (fun xs κ2 e2 ws B2 ι2 H2 g2 s2 w2 => ?_) (fun n fs κ2 e2 => by rw [e2] at h; exact XW.grow h g1 fun _ m => m) (fun e => by rw [e] at h; exact h)
    rw [e2] at h
    replace h : PostE K mg E F B ι H Q (opt κ2 (f κ2 a xs)) := h
    cases e : f κ2 a xs with
    | none => rw [e] at h; exact h.elim
    | some z =>
      rw [e] at h
      exact hi F B2 ι2 H2 κ2 a ws xs z s2 w2 e Q fun v' B' ι' H' g s' w' => h v' B' ι' H' ((g1.trans g2).trans g) s' w'
  · exact h.elim
theorem ms0_imp {r : V → List V → Hp → VK → Prop} {f : Kap → Str → List DV → Option DV} {mo : ME} (hi : MsI K r f) {σ : L2.St} {H : Hp} {Q : VK} (h : tM K mg E (mMs f mo mNil) σ H Q) : tBM0 K "str" r (tM K mg E mo) σ H Q := by
  obtain ⟨F, B, ι, ρ, κ, s, h⟩ := h
  unfold mMs at h
  refine evE s (fun x κ1 e1 v B1 ι1 H1 g1 s1 w1 => ?_) (fun n fs κ1 e1 => by rw [e1] at h; exact h) (fun e => by rw [e] at h; exact h)
  rw [e1] at h
  dsimp only [Out.bind, mNil] at h
  split at h
  · rename_i a
    cases w1
    refine ⟨rfl, ?_⟩
    replace h : PostE K mg E F B ι H Q (opt κ1 (f κ1 a [])) := h
    cases e : f κ1 a [] with
    | none => rw [e] at h; exact h.elim
    | some z =>
      rw [e] at h
      exact hi F B1 ι1 H1 κ1 a [] [] z s1 .nil e Q fun v' B' ι' H' g s' w' => h v' B' ι' H' (g1.trans g) s' w'
  · exact h.elim
end
section
variable {X : Cx} {E : XK} {o e : Expr} {es : List Expr} {name : Str} {apos cpos : Pos} {id : String} {r : V → List V → Hp → VK → Prop} {f : Kap → Str → List DV → Option DV} {mo : ME} {ma : MA}
theorem je_ms (slot : Slot "str" name id) (hty : typeOf (.builtin id) = pure (.type "method_descriptor")) (hm : MtR X id r) (hi : MsI X.K r f) (ho : JE X E o mo) (ha : JA X E (e :: es) ma)
    (hbase : attributeBase o name X.env (eval o X.env) = eval o X.env := by rfl)
    (hfew : ((backTo cpos (starEach (e :: es) X.env)).all (fun x => !x.1) && (backToKw cpos (keywordEach [] X.env)).all (fun x => x.1.isSome)
      && decide ((e :: es).length + ([] : List Keyword).length + (if ([] : List Keyword).isEmpty then 0 else 1) < 30)) = true := by rfl)
    (hline : (apos.endLine == cpos.line) = true := by rfl) (hs : starEach (e :: es) X.env = (false, eval e X.env) :: starEach es X.env := by rfl) (hplain : (backTo cpos (starEach es X.env)).any (·.1) = false := by rfl) :
    JE X E (.Call (.Attribute o name apos) (e :: es) [] cpos) (mMs f mo ma) :=
  pe_imp (pe_bm PySem.F.plainAttrs_str slot hty hm ho ha hbase hfew hline hs hplain) fun _ _ _ h => ms_imp hi h
theorem je_ms0 (slot : Slot "str" name id) (hty : typeOf (.builtin id) = pure (.type "method_descriptor")) (hm : MtR X id r) (hi : MsI X.K r f) (ho : JE X E o mo)
    (hbase : attributeBase o name X.env (eval o X.env) = eval o X.env := by rfl) (hline : (apos.endLine == cpos.line) = true := by rfl) : JE X E (.Call (.Attribute o name apos) [] [] cpos) (mMs f mo mNil) :=
  pe_imp (pe_bm0 PySem.F.plainAttrs_str slot hty hm ho hbase hline) fun _ _ _ h => ms0_imp hi h
end
def upperF (_ : Kap) (a : Str) (xs : List DV) : Option DV := match xs with
  | [] => if a.length ≤ 5000000 then some (.d (.str (Txt.upper a))) else none
  | _ => none
def lowerF (_ : Kap) (a : Str) (xs : List DV) : Option DV := match xs with
  | [] => if a.length ≤ 5000000 then some (.d (.str (Txt.lower a))) else none
  | _ => none
def stripF (_ : Kap) (a : Str) (xs : List DV) : Option DV := match xs with
  | [.d (.str b)] => if a.length ≤ 16000000 then some (.d (.str (Txt.stripChars a b))) else none
  | _ => none
def strsD : List D → Option (List Str)
  | [] => some []
  | .str b :: r => (strsD r).map (b :: ·)
  | _ => none
def seqD (κ : Kap) : DV → Option (List D)
  | .d (.tuple ys) => some ys
  | y => lv κ y
def joinF (κ : Kap) (a : Str) (xs : List DV) : Option DV := match xs with
  | [y] => ((seqD κ y).bind strsD).bind fun (ys : List Str) => if (ys.map (·.length)).sum + ys.length * a.length ≤ 16000000 then some (.d (.str (Txt.join a ys))) else none
  | _ => none
section
variable {K : PySem.W.Frag}
theorem upperI : MsI K (fun x xs H Q => ∃ a, x = .str a ∧ xs = [] ∧ a.length ≤ 5592405 ∧ Q (.str (Txt.upper a)) H) upperF := fun F B ι H κ a ws xs z s w e Q q => by
  unfold upperF at e
  split at e
  · split at e
    · rename_i hl; cases e; cases w; exact ⟨_, rfl, rfl, by omega, keepQ s (.str _) q⟩
    · cases e
  · cases e
theorem lowerI : MsI K (fun x xs H Q => ∃ a, x = .str a ∧ xs = [] ∧ a.length ≤ 5592405 ∧ Q (.str (Txt.lower a)) H) lowerF := fun F B ι H κ a ws xs z s w e Q q => by
  unfold lowerF at e
  split at e
  · split at e
    · rename_i hl; cases e; cases w; exact ⟨_, rfl, rfl, by omega, keepQ s (.str _) q⟩
    · cases e
  · cases e
theorem stripI : MsI K (fun x xs H Q => ∃ a b, x = .str a ∧ xs = [.str b] ∧ a.length ≤ sizeLine ∧ Q (.str (Txt.stripChars a b)) H) stripF := fun F B ι H κ a ws xs z s w e Q q => by
  unfold stripF at e
  split at e
  · split at e
    · rename_i hl; cases e
      cases w with
      | cons w1 w2 => cases w2; cases w1; exact ⟨_, _, rfl, rfl, line16 hl, keepQ s (.str _) q⟩
    · cases e
  · cases e
theorem strs_ok {B : Hp} : ∀ {vs : List V} {ds : List D} {bs : List Str}, RpAll K B vs ds → strsD ds = some bs → vs = bs.map V.str
  | _, _, _, .nil, e => by cases e; rfl
  | _, _, bs, .cons (d := d) (ds := ds) h r, e => by
    cases h with
    | str b =>
      simp only [strsD] at e
      cases q : strsD ds with
      | none => rw [q] at e; cases e
      | some cs => rw [q] at e; cases e; rw [strs_ok r q]; rfl
    | _ => cases e
theorem seqD_ok {F : List Addr} {B : Hp} {ι : List Addr} {H : Hp} {κ : Kap} {v : V} {x : DV} (s : HSt K F B ι H κ) (w : VOk K F B ι H v x) {xs : List D} (e : seqD κ x = some xs) : ∃ a vs, v = .ref a ∧ (SqL K H a vs ∨ SqT K H a vs) ∧ RpAll K B vs xs := by
  unfold seqD at e
  split at e
  · cases e
    obtain ⟨p, vs, rfl, h, r⟩ := tup_ok s w
    exact ⟨p, vs, rfl, .inr h, r⟩
  · obtain ⟨p, vs, rfl, h, r⟩ := lv_ok s w e
    exact ⟨p, vs, rfl, .inl (lst1 h), r⟩
theorem joinI : MsI K (fun x xs H Q => ∃ a p, ∃ ys : List Str, x = .str a ∧ xs = [.ref p] ∧ (SqL K H p (ys.map V.str) ∨ SqT K H p (ys.map V.str)) ∧
    (ys.map (·.length)).sum + ys.length * a.length ≤ 16777216 ∧ Q (.str (Txt.join a ys)) H) joinF := fun F B ι H κ a ws xs z s w e Q q => by
  unfold joinF at e
  split at e
  · rename_i y
    cases w with
    | cons w1 w2 =>
      cases w2
      cases e1 : seqD κ y with
      | none => rw [e1] at e; cases e
      | some ys =>
        rw [e1] at e
        simp only [Option.bind_some] at e
        cases e2 : strsD ys with
        | none => rw [e2] at e; cases e
        | some zs =>
          rw [e2] at e
          simp only [Option.bind_some] at e
          split at e
          · rename_i hl
            cases e
            obtain ⟨p, vs, rfl, h1, r⟩ := seqD_ok (F := F) s w1.toV e1
            rw [strs_ok r e2] at h1
            exact ⟨a, p, zs, rfl, rfl, h1, by omega, keepQ s (.str _) q⟩
          · cases e
  · cases e
end

/-! ### chains -/
def mChain (f g : Kap → DV → DV → Option DV) (a b c : ME) : ME := fun ρ κ => (a ρ κ).bind fun x κ1 => (b ρ κ1).bind fun y κ2 => match f κ2 x (fz y) with
  | some (.d (.bool true)) => (c ρ κ2).bind fun z κ3 => opt κ3 (g κ3 (fz y) z)
  | some (.d (.bool false)) => .ok (.d (.bool false)) κ2
  | _ => .bad
section
variable {K : PySem.W.Frag} {mg : Str → Option Value} {E : XK}
theorem chain_imp {r r' : R2} {f g : Kap → DV → DV → Option DV} {ma mb mc : ME} (hi : BinI K r f) (hi' : BinI K r' g) {σ : L2.St} {H : Hp} {Q : VK} (h : tM K mg E (mChain f g ma mb mc) σ H Q) : tChain r r' (tM K mg E ma) (tM K mg E mb) (tM K mg E mc) σ H Q := by
  obtain ⟨F, B, ι, ρ, κ, s, h⟩ := h
  unfold mChain at h
  refine evE s (fun x κ1 e1 v B1 ι1 H1 g1 s1 w1 => ?_) (fun n fs κ1 e1 => by rw [e1] at h; exact h) (fun e => by rw [e] at h; exact h)
  rw [e1] at h
  obtain ⟨F', hF, s1', back⟩ := s1.hold w1
  replace h : PostE K mg E F B ι H Q ((mb ρ κ1).bind fun y κ2 => match f κ2 x (fz y) with
    | some (.d (.bool true)) => (mc ρ κ2).bind fun z κ3 => opt κ3 (g κ3 (fz y) z)
    | some (.d (.bool false)) => .ok (.d (.bool false)) κ2
    | _ => .bad) := h
  refine evE (s.step g1 s1') (fun y κ2 e2 w B2 ι2 H2 g2 s2 w2 => ?_) (fun n fs κ2 e2 => by rw [e2] at h; exact XW.grow h g1 hF) (fun e => by rw [e] at h; exact h)
  rw [e2] at h
  obtain ⟨B3, s3, g3, w3⟩ := s2.fz w2
  obtain ⟨w1', s3', g3'⟩ := back (g2.trans g3) s3
  have so := s.step (g1.trans g3') s3'
  dsimp only [Out.bind] at h
  split at h
  · rename_i ef
    refine hi F B3 ι2 H2 κ2 v w x (fz y) _ s3' w1' w3.toV ef _ fun z' B4 ι4 H4 g4 s4 w4 => ?_
    cases w4
    refine ⟨true, rfl, ?_⟩
    rw [if_pos rfl]
    replace h : PostE K mg E F B ι H Q ((mc ρ κ2).bind fun z κ3 => opt κ3 (g κ3 (fz y) z)) := h
    refine evE (so.step g4 s4) (fun z κ5 e5 u B5 ι5 H5 g5 s5 w5 => ?_) (fun n fs κ2 e2 => by rw [e2] at h; exact XW.grow h ((g1.trans g3').trans g4) fun _ m => m) (fun e => by rw [e] at h; exact h)
    rw [e5] at h
    replace h : PostE K mg E F B ι H Q (opt κ5 (g κ5 (fz y) z)) := h
    cases q : g κ5 (fz y) z with
    | none => rw [q] at h; exact h.elim
    | some z2 =>
      rw [q] at h
      exact hi' F B5 ι5 H5 κ5 w u (fz y) z z2 s5 ((w3.grow g4).grow g5).toV w5 q Q fun v' B' ι' H' g s' w' => h v' B' ι' H' (((((g1.trans g3').trans g4).trans g5)).trans g) s' w'
  · rename_i ef
    refine hi F B3 ι2 H2 κ2 v w x (fz y) _ s3' w1' w3.toV ef _ fun z' B4 ι4 H4 g4 s4 w4 => ?_
    cases w4
    exact ⟨false, rfl, by rw [if_neg Bool.false_ne_true]; exact h _ B4 ι4 H4 ((g1.trans g3').trans g4) s4 (.bl _)⟩
  · exact h.elim
end
section
variable {X : Cx} {E : XK} {a b c : Expr} {ma mb mc : ME} {pos : Pos} {op op' : CmpOp} {r r' : R2} {f g : Kap → DV → DV → Option DV}
theorem je_chain (ho : OpR X (compareOp op) r) (hi : BinI X.K r f) (ho' : OpR X (compareOp op') r') (hi' : BinI X.K r' g) (ha : JE X E a ma) (hb : JE X E b mb) (hc : JE X E c mc)
    (hm : lastMarks [op, op'] [b, c] = false := by with_unfolding_all rfl) : JE X E (.Compare a [op, op'] [b, c] pos) (mChain f g ma mb mc) :=
  pe_imp (pe_chain ho ho' ha hb hc hm) fun _ _ _ h => chain_imp hi hi' h
theorem jt_chain (ho : OpR X (compareOp op) r) (hi : BinI X.K r f) (ho' : OpR X (compareOp op') r') (hi' : BinI X.K r' g) (ha : JE X E a ma) (hb : JE X E b mb) (hc : JE X E c mc)
    (hm : lastMarks [op, op'] [b, c] = false := by with_unfolding_all rfl) : JT X E (.Compare a [op, op'] [b, c] pos) (mTb (mChain f g ma mb mc)) :=
  pt_imp (pt_chain ho ho' ha hb hc hm) fun _ _ _ h => chain_imp hi hi' (tb_imp h)
end
end DL

namespace DL
open L2 PyProof.Rows PySem PySem.Spec

/-- a def of the text that keeps its mirror -/
structure Cal (P : Program) (w : World) (K : PySem.W.Frag) (mg : Str → Option Value) (base : Heap) (k : Nat) (x : Str) (st : Stmt) (ps : List Str) (m : MF) : Prop where
  ex : ∃ f fd nm ql, Fun K nm ql st f fd ∧ Binds K fd ps [] ∧ FnG P w K mg base CX0 k f fd ps (spM K mg ps.length m) ∧ mg x = some (.ref f)
  na : NArgs m ps.length
section
variable {X : Cx} {k : Nat} {st : Stmt} {ps : List Str} {m : MF} {x : Str} {p pos : Pos} {e : Expr} {es : List Expr} {ma : MA}
theorem je_callC (gu : X.A.guards = some []) (hr : Room k X.A) (C : Cal X.prog X.w X.K X.mg X.base k x st ps m) (ha : JA X E0 (e :: es) ma) (hg : Gl X x := by rfl) (hdb : (x == ("__debug__" : Str)) = false := by decide) (he : starEach (e :: es) X.env = (false, eval e X.env) :: starEach es X.env := by rfl) (hpl : (backTo pos (starEach es X.env)).any (·.1) = false := by rfl) :
    JE X E0 (.Call (.Name x p) (e :: es) [] pos) (mCall m ma) := by
  obtain ⟨f, fd, _, _, Fu, hb, Fo, hm⟩ := C.ex
  exact je_call gu Fo C.na hr hg hm Fu.kp hb ha hdb he hpl
theorem je_callC0 (gu : X.A.guards = some []) (hr : Room k X.A) (C : Cal X.prog X.w X.K X.mg X.base k x st ps m) (hg : Gl X x := by rfl) (hdb : (x == ("__debug__" : Str)) = false := by decide) : JE X E0 (.Call (.Name x p) [] [] pos) (mCall m mNil) := by
  obtain ⟨f, fd, _, _, Fu, hb, Fo, hm⟩ := C.ex
  exact je_call0 gu Fo C.na hr hg hm Fu.kp hb hdb
end
theorem Cal.more {P : Program} {w : World} {K : PySem.W.Frag} {mg : Str → Option Value} {base : Heap} {j k : Nat} {x : Str} {st : Stmt} {ps : List Str} {m : MF} (C : Cal P w K mg base j x st ps m) (h : j ≤ k) : Cal P w K mg base k x st ps m := by
  obtain ⟨⟨f, fd, nm, ql, a, b, c, d⟩, n⟩ := C
  exact ⟨⟨f, fd, nm, ql, a, b, c.more h, d⟩, n⟩

/-! ### calls by keywords alone -/
structure JK (X : Cx) (E : XK) (kws : List Keyword) (m : MA) : Prop where
  pk : PK X kws (tA X.K X.mg E m)
theorem pk_imp {X : Cx} {k : List Keyword} {t t' : TA} (h : PK X k t) (i : ∀ σ H Q, t' σ H Q → t σ H Q) : PK X k t' := ⟨fun p pins s σ H Q I q => h.run p pins s σ H Q I (i σ H Q q)⟩
section
variable {X : Cx} {E : XK} {a : Expr} {ma : ME} {mr : MA} {kws : List Keyword} {nm : Option Str} {kpos : Pos}
theorem jk_nil : JK X E [] mNil := ⟨pk_imp pk_nil fun σ H Q ⟨F, B, ι, ρ, κ, s, h⟩ => h [] B ι H Grow.refl s.hs .nil⟩
theorem jk_cons (ha : JE X E a ma) (hr : JK X E kws mr) : JK X E (⟨nm, a, kpos⟩ :: kws) (mCons ma mr) :=
  ⟨pk_imp (pk_cons ha hr.pk) fun σ H Q ⟨F, B, ι, ρ, κ, s, h⟩ => by
    unfold mCons at h
    refine evE s (fun x κ1 e1 v B1 ι1 H1 g1 s1 w1 => ?_) (fun n fs κ1 e1 => by rw [e1] at h; exact h) (fun e => by rw [e] at h; exact h)
    rw [e1] at h
    replace h : PostA X.K X.mg E F B ι H Q (Out.bind (mr ρ κ1) fun xs κ2 => .ok (fz x :: xs) κ2) := h
    obtain ⟨B1', s1', g1', w1'⟩ := s1.fz w1
    refine evA (s.step (g1.trans g1') s1') (fun xs κ2 e2 vs B2 ι2 H2 g2 s2 w2 => ?_) (fun n fs κ2 e2 => by rw [e2] at h; exact XW.grow h (g1.trans g1') fun _ m => m) (fun e => by rw [e] at h; exact h)
    rw [e2] at h
    exact h (v :: vs) B2 ι2 H2 ((g1.trans g1').trans g2) s2 (.cons (w1'.grow g2) w2)⟩
end
/-- the keywords' values, put in the parameters' order -/
def perm {α : Type} (ix : List Nat) (xs : List α) : List α := ix.filterMap fun i => xs[i]?
def mCallK (ix : List Nat) (n : Nat) (m : MF) (a : MA) : ME := fun ρ κ => (a ρ κ).bind fun xs κ1 => if xs.length = n then m (perm ix xs) κ1 else .bad
theorem perm_pr {α β : Type} {R : α → β → Prop} {xs : List α} {ys : List β} (p : Paired R xs ys) : ∀ ix : List Nat, Paired R (perm ix xs) (perm ix ys)
  | [] => .nil
  | i :: r => by
    have ih := perm_pr p r
    unfold perm at ih ⊢
    rw [List.filterMap_cons, List.filterMap_cons]
    cases q : ys[i]? with
    | none =>
      have : xs[i]? = none := by
        rw [List.getElem?_eq_none_iff] at q ⊢
        rw [p.length]; exact q
      rw [this]; exact ih
    | some b =>
      obtain ⟨a, e, h⟩ := Paired.getP p q
      rw [e]; exact .cons h ih
section
variable {X : Cx} {k : Nat} {st : Stmt} {ps ks : List Str} {m : MF} {x : Str} {p pos : Pos} {kws : List Keyword} {ma : MA} {ix : List Nat}
theorem je_callCK (gu : X.A.guards = some []) (hr : Room k X.A) (C : Cal X.prog X.w X.K X.mg X.base k x st ps m) (hkw : JK X E0 kws ma)
    (hb : ∀ (nm ql : Str) (kV doc pm : Value) (an : Option Addr) (cdv ct : Value) (ws : List Value), ws.length = ks.length → bindArgs (PySem.W.fnOf nm ql (defArgs st) (defBody st) (defScope st) .none kV doc pm an cdv ct) ⟨[], ks.zip ws⟩ = pure (ps.zip (perm ix ws)))
    (hg : Gl X x := by rfl) (hall : (backToKw pos (keywordEach kws X.env)).all (·.1.isSome) = true := by rfl) (hks : (backToKw pos (keywordEach kws X.env)).filterMap (·.1) = ks := by rfl) (hdb : (x == ("__debug__" : Str)) = false := by decide)
    (hpl : ((backTo pos (starEach [] X.env)).any (·.1) || (backToKw pos (keywordEach kws X.env)).any (·.1.isNone)) = false := by rfl) :
    JE X E0 (.Call (.Name x p) [] kws pos) (mCallK ix ks.length m ma) := by
  obtain ⟨f, fd, _, _, Fu, _, Fo, hm⟩ := C.ex
  constructor
  intro pins s σ H Q I h
  refine wpAny_Call_Name_kw (ld_glob I hg hm (PySem.W.callWith_KW0 (h₀ := X.base) I.ok.mod.kin Fu.kp hall ?_ hpl) hdb)
  obtain ⟨F, B, ι, ρ, κ, so, h⟩ := h
  unfold mCallK at h
  refine thn (hkw.pk.run pos pins s σ H (fun vs H1 => spM X.K X.mg ps.length m (perm ix vs) H1 Q E0 ∧ vs.length = ks.length) I ?_) ?_
  · refine evA so (fun xs κ1 e1 vs B1 ι1 H1 g1 s1 w1 => ?_) (fun n fs κ1 e1 => by rw [e1] at h; exact fun C d B' ι' H' ws a b c e f => absurd (h C d B' ι' H' ws a b c e f) id) (fun e => by rw [e] at h; exact h)
    rw [e1] at h
    dsimp only [Out.bind] at h
    split at h
    · rename_i hl
      have hl2 : (perm ix xs).length = ps.length := Decidable.byContradiction fun q => by rw [C.na _ _ q] at h; exact h
      have pp := perm_pr w1 ix
      exact ⟨⟨by rw [pp.length]; exact hl2, F, B1, ι1, perm ix xs, κ1, s1, pp, PostE.grow h g1⟩, by rw [w1.length]; exact hl⟩
    · exact h.elim
  · rintro ws s2 ⟨zs, H2, I2, rz, q2, lz⟩
    refine ⟨I2.kIn, ?_⟩
    rw [hks]
    have lw : ws.length = ks.length := by rw [← rz.length]; exact lz
    obtain ⟨oc, od, kV, doc, pm, an, cdv, ct, osl, rfl, look, code⟩ := Fu.ex
    exact goes Fo gu hr (fun _ => .of_eq (hb _ _ kV doc pm an cdv ct ws lw)) pass0 I2 (perm_pr rz ix) q2
end

/-! ### a, b = x, y, stored at once -/
def put (fl : Bool) (x : DV) (κ : Kap) : Option (DV × Kap) := if fl = true then (match x with
  | .n xs => some (.c κ.length, κ ++ [.lst (xs.map .d)])
  | _ => none) else some (fz x, κ)
def addF (v : V) (x : DV) (F : List Addr) : List Addr := match x, v with
  | .n _, .ref p => p :: F
  | _, _ => F
def mPar (i j : Nat) (f1 f2 : Bool) (a b : ME) : MS := fun ρ κ => (a ρ κ).bindS fun x κ1 => (b ρ κ1).bindS fun y κ2 => match put f1 x κ2 with
  | some (x', κ3) => match put f2 y κ3 with
    | some (y', κ4) => .nx ((ρ.set i (some x')).set j (some y')) κ4
    | none => .bad
  | none => .bad
section
variable {K : PySem.W.Frag} {mg : Str → Option Value} {E : XK} {F : List Addr} {B : Hp} {ι : List Addr} {H : Hp} {κ : Kap} {v u : V} {x y : DV}
theorem HSt.put (s : HSt K F B ι H κ) (w : VOk K F B ι H v x) {fl : Bool} {x' : DV} {κ' : Kap} (e : put fl x κ = some (x', κ')) :
    ∃ B' ι', HSt K F B' ι' H κ' ∧ Grow F B ι H B' ι' H ∧ WOk K B' ι' v x' ∧ ∀ u y, VOk K (addF v x F) B ι H u y → VOk K F B' ι' H u y := by
  unfold DL.put at e
  have other : ∀ {B' : Hp} {ι' : List Addr} {p : Addr}, Grow F B ι H B' ι' H → (∀ q, q ≠ p → B q = none → B' q = none) → (∀ q, q ≠ p → q ∉ ι → q ∉ ι') → ∀ u y, VOk K (p :: F) B ι H u y → VOk K F B' ι' H u y := by
    intro B' ι' p g hB hι u y w
    cases y with
    | d y => exact Rp.mono g.b w
    | c i => exact (show WOk K B ι u (.c i) from w).grow g
    | n ys =>
      obtain ⟨q, vs, e, h1, h2, h3, h4, r⟩ := w
      have qp : q ≠ p := fun z => h4 (by rw [z]; exact List.mem_cons_self ..)
      exact ⟨q, vs, e, h1, hB q qp h2, hι q qp h3, fun z => h4 (List.mem_cons_of_mem _ z), r.mono g.b⟩
  cases x with
  | d x =>
    cases fl with
    | true => rw [if_pos rfl] at e; cases e
    | false => rw [if_neg Bool.false_ne_true] at e; cases e; exact ⟨B, ι, s, Grow.refl, w, fun u y h => h⟩
  | c i =>
    cases fl with
    | true => rw [if_pos rfl] at e; cases e
    | false => rw [if_neg Bool.false_ne_true] at e; cases e; exact ⟨B, ι, s, Grow.refl, w, fun u y h => h⟩
  | n xs =>
    obtain ⟨p, vs, rfl, h1, h2, h3, h4, r⟩ := w
    cases fl with
    | true =>
      rw [if_pos rfl] at e; cases e
      obtain ⟨s2, g2, w2⟩ := s.cell h1 h2 h3 h4 r
      refine ⟨B, _, s2, g2, w2, other g2 (fun _ _ h => h) fun q hq hn hm => ?_⟩
      rcases List.mem_append.mp hm with m | m
      · exact hn m
      · exact hq (List.mem_singleton.mp m)
    | false =>
      rw [if_neg Bool.false_ne_true] at e; cases e
      obtain ⟨s2, g2⟩ := s.frz h1 h2 h3 h4
      exact ⟨_, ι, s2, g2, .lst upd_same (r.mono g2.b), other g2 (fun q hq h => by rw [upd_ne hq]; exact h) fun _ _ h => h⟩
theorem HSt.hold2 (s : HSt K F B ι H κ) (w : VOk K F B ι H v x) : (∀ a ∈ F, a ∈ addF v x F) ∧ HSt K (addF v x F) B ι H κ ∧
    ∀ {B' : Hp} {ι' : List Addr} {H' : Hp} {κ' : Kap}, Grow (addF v x F) B ι H B' ι' H' → HSt K (addF v x F) B' ι' H' κ' → VOk K F B' ι' H' v x ∧ HSt K F B' ι' H' κ' ∧ Grow F B ι H B' ι' H' := by
  cases x with
  | d x => exact ⟨fun _ m => m, s, fun g h => ⟨Rp.mono g.b w, h, g⟩⟩
  | c i => exact ⟨fun _ m => m, s, fun g h => ⟨(show WOk K B ι v (.c i) from w).grow g, h, g⟩⟩
  | n xs =>
    obtain ⟨p, vs, rfl, h1, h2, h3, h4, r⟩ := w
    refine ⟨fun _ m => List.mem_cons_of_mem _ m, ⟨s.ex, s.len, s.nd, s.out, fun a m => ?_, s.cel, s.tr, fun q m => let t := s.tb q m; t.to (Same.refl _) rfl t.2.1 t.2.2.1 fun z => (List.mem_cons.mp z).elim (t.ne h1 (by intro _ z; cases z)) t.2.2.2⟩, fun g h => ?_⟩
    · rcases List.mem_cons.mp m with rfl | m
      · exact ⟨⟨_, h1⟩, h2, h3⟩
      · exact s.pro a m
    · obtain ⟨⟨o, e1⟩, e2, e3⟩ := h.pro p (List.mem_cons_self ..)
      exact ⟨⟨p, vs, rfl, (g.fr p (List.mem_cons_self ..)).trans h1, e2, e3, h4, r.mono g.b⟩, h.less fun _ m => List.mem_cons_of_mem _ m, g.less fun _ m => List.mem_cons_of_mem _ m⟩
theorem par_imp {i j : Nat} {f1 f2 : Bool} {ma mb : ME} {De : Ends} {σ : L2.St} {H : Hp} (h : tS K mg E (mPar i j f1 f2 ma mb) De σ H) : tPar i j (tCons (tM K mg E ma) (tCons (tM K mg E mb) tNil)) De σ H := by
  obtain ⟨F, B, ι, ρ, κ, s, h⟩ := h
  unfold mPar at h
  refine evE s (fun x κ1 e1 v B1 ι1 H1 g1 s1 w1 => ?_) (fun n fs κ1 e1 => by rw [e1] at h; exact h) (fun e => by rw [e] at h; exact h)
  rw [e1] at h
  obtain ⟨hF, s1', back⟩ := s1.hold2 w1
  replace h : PostS K mg E F B ι H De ((mb ρ κ1).bindS fun y κ2 => match put f1 x κ2 with
    | some (x', κ3) => match put f2 y κ3 with
      | some (y', κ4) => .nx ((ρ.set i (some x')).set j (some y')) κ4
      | none => .bad
    | none => .bad) := h
  refine evE (s.step g1 s1') (fun y κ2 e2 u B2 ι2 H2 g2 s2 w2 => ?_) (fun n fs κ2 e2 => by rw [e2] at h; exact XW.grow h g1 hF) (fun e => by rw [e] at h; exact h)
  rw [e2] at h
  obtain ⟨w1', s2', g2'⟩ := back g2 s2
  dsimp only [Out.bindS] at h
  split at h
  · rename_i x' κ3 q1
    split at h
    · rename_i y' κ4 q2
      obtain ⟨B3, ι3, s3, g3, w3, oth⟩ := s2'.put w1' q1
      obtain ⟨B4, ι4, s4, g4, w4, _⟩ := s3.put (oth u y w2) q2
      have gg := ((g1.trans g2').trans g3).trans g4
      exact ⟨v, u, rfl, h _ B4 ι4 H2 gg (((s.step gg s4).set i (w3.grow g4)).set j w4)⟩
    · exact h.elim
  · exact h.elim
end
section
variable {X : Cx} {E : XK} {i j : Nat} {f1 f2 : Bool} {x y : Str} {a b : Expr} {ma mb : ME} {px py pt pos : Pos} {kt k2 : Nat} {pt2 : Pos}
theorem js_par (hc : X.calm = true) (hN : X.N.Nodup) (hi : X.N[i]? = some x) (hj : X.N[j]? = some y) (hij : i ≠ j)
    (hx : X.env.scope.names.lookup x = some .local) (hy : X.env.scope.names.lookup y = some .local) (ha : JE X E a ma) (hb : JE X E b mb)
    (hw : swappedStores [.Tuple [.Name x px, .Name y py] kt pt] (.Tuple [a, b] k2 pt2) X.env = pure (some [x, y]))
    (h1 : starEach [a, b] X.env = (false, eval a X.env) :: starEach [b] X.env := by rfl) (h2 : starEach [b] X.env = (false, eval b X.env) :: starEach [] X.env := by rfl)
    (hs : swapsWithSole [.Tuple [.Name x px, .Name y py] kt pt] (.Tuple [a, b] k2 pt2) pos.line X.env = pure false := by rfl) :
    JS X E (.Assign [.Tuple [.Name x px, .Name y py] kt pt] (.Tuple [a, b] k2 pt2) pos) (mPar i j f1 f2 ma mb) :=
  ps_imp (ps_par hc hN hi hj hij hx hy (pa_cons ha (pa_cons hb pa_nil h2) h1) hw hs) fun _ _ _ h => par_imp h
end
end DL

namespace DL
open L2 PyProof.Rows PySem PySem.Spec

/-! ### enumerate, zip of lists -/
def enumD : Nat → List D → List D
  | _, [] => []
  | k, d :: r => .tuple [.int k, d] :: enumD (k + 1) r
theorem enumD_get : ∀ (ds : List D) (k i : Nat), (enumD k ds)[i]? = (ds[i]?).map fun d => .tuple [.int ((k + i : Nat) : Int), d]
  | [], _, _ => by simp [enumD]
  | d :: r, k, 0 => by simp [enumD]
  | d :: r, k, i + 1 => by
    simp only [enumD, List.getElem?_cons_succ]
    rw [enumD_get r (k + 1) i, show k + 1 + i = k + (i + 1) by omega]
theorem enumD_len : ∀ (ds : List D) (k : Nat), (enumD k ds).length = ds.length
  | [], _ => rfl
  | d :: r, k => by simp [enumD, enumD_len r]
def zipD : List D → List D → List D
  | a :: r, b :: q => .tuple [a, b] :: zipD r q
  | _, _ => []
theorem zipD_get : ∀ (xs ys : List D) (i : Nat) (d : D), (zipD xs ys)[i]? = some d → ∃ a b, xs[i]? = some a ∧ ys[i]? = some b ∧ d = .tuple [a, b]
  | [], _, _, _, h => by simp [zipD] at h
  | _ :: _, [], _, _, h => by simp [zipD] at h
  | a :: r, b :: q, 0, d, h => by simp [zipD] at h; exact ⟨a, b, rfl, rfl, h.symm⟩
  | a :: r, b :: q, i + 1, d, h => by
    simp only [zipD, List.getElem?_cons_succ] at h ⊢
    exact zipD_get r q i d h
theorem zipD_len : ∀ (xs ys : List D), (zipD xs ys).length = min xs.length ys.length
  | [], _ => by simp [zipD]
  | _ :: _, [] => by simp [zipD]
  | a :: r, b :: q => by simp only [zipD, List.length_cons, zipD_len r q]; omega
def mEnum (a : MA) : MI := fun ρ κ => (a ρ κ).bind fun xs κ1 => match xs with
  | [.d (.list ds)] => .ok (enumD 0 ds) κ1
  | _ => .bad
def mZip (a : MA) : MI := fun ρ κ => (a ρ κ).bind fun xs κ1 => match xs with
  | [.d (.list ds), .d (.list es)] => .ok (zipD ds es) κ1
  | _ => .bad
section
variable {K : PySem.W.Frag} {F : List Addr} {B B' : Hp} {ι ι' : List Addr} {H H' : Hp} {κ : Kap}
theorem yld_enum {a : Addr} {vs : List V} {xs : List D} (hS : SqL K B a vs) (r : RpAll K B vs xs) : Yld K F B ι H (Ite K a) (enumD 0 xs) := fun F' i B' ι' H' κ' _ g s => by
  have h1 : SqL K H' a vs := s.ex.seq (g.b.seq hS)
  refine ⟨fun d e => ?_, fun e => ⟨vs, h1, by rw [r.len, ← enumD_len xs 0]; exact e⟩⟩
  rw [enumD_get] at e
  cases q : xs[i]? with
  | none => rw [q] at e; cases e
  | some y =>
    rw [q] at e
    simp only [Option.map_some, Option.some.injEq, Nat.zero_add] at e
    subst e
    obtain ⟨v, e1, w⟩ := r.get q
    refine ⟨⟨vs, v, h1, e1⟩, fun x H'' yy => ?_⟩
    obtain ⟨T, z, rfl, hT, rfl, hz⟩ := yy
    have ez := hz vs h1
    rw [e1] at ez
    cases ez
    obtain ⟨s2, g2⟩ := s.new (o := .tup [.int (i : Nat), v]) hT
    exact ⟨_, g2, s2, .tup (.inl (.inl upd_same)) (.cons (.int _) (.cons ((w.mono g.b).mono g2.b) .nil))⟩
theorem yld_zip {a b : Addr} {vs us : List V} {xs ys : List D} (hS : SqL K B a vs) (r : RpAll K B vs xs) (hS2 : SqL K B b us) (r2 : RpAll K B us ys) : Yld K F B ι H (Itz K a b) (zipD xs ys) := fun F' i B' ι' H' κ' _ g s => by
  have h1 : SqL K H' a vs := s.ex.seq (g.b.seq hS)
  have h2 : SqL K H' b us := s.ex.seq (g.b.seq hS2)
  refine ⟨fun d e => ?_, fun e => ⟨vs, us, h1, h2, ?_⟩⟩
  · obtain ⟨p, q, e1, e2, rfl⟩ := zipD_get xs ys i d e
    obtain ⟨v, e3, w⟩ := r.get e1
    obtain ⟨u, e4, w2⟩ := r2.get e2
    refine ⟨⟨vs, us, v, u, h1, h2, e3, e4⟩, fun x H'' yy => ?_⟩
    obtain ⟨T, z, z2, rfl, hT, rfl, hz, hz2⟩ := yy
    have ez := hz vs h1
    rw [e3] at ez
    cases ez
    have ez2 := hz2 us h2
    rw [e4] at ez2
    cases ez2
    obtain ⟨s2, g2⟩ := s.new (o := .tup [v, u]) hT
    exact ⟨_, g2, s2, .tup (.inl (.inl upd_same)) (.cons ((w.mono g.b).mono g2.b) (.cons ((w2.mono g.b).mono g2.b) .nil))⟩
  · rw [zipD_len] at e
    rw [r.len, r2.len]
    omega
end
section
variable {X : Cx} {E : XK} {e e2 : Expr} {ma : MA} {p pos tpos : Pos} {elts : List Expr} {kk : Nat}
theorem ji_enum (hg : Gl X "enumerate") (hm : X.mg "enumerate" = none) (ha : JA X E [e] ma) (hs : starEach [e] X.env = [(false, eval e X.env)] := by rfl) : JI X E (.Tuple elts kk tpos) (.Call (.Name "enumerate" p) [e] [] pos) (mEnum ma) :=
  ji_imp (pi_enum hg hm ha hs) fun σ H R ⟨F, B, ι, ρ, κ, s, h⟩ => by
    unfold mEnum at h
    refine evA s (fun x κ1 e1 v B1 ι1 H1 g1 s1 w1 => ?_) (fun n fs κ1 e1 => by rw [e1] at h; exact h) (fun e => by rw [e] at h; exact h)
    rw [e1] at h
    dsimp only [Out.bind] at h
    split at h
    · rename_i xs κ' q
      split at q
      · cases q
        cases w1 with
        | cons w w2 =>
          cases w2
          cases w with
          | lst hL r => exact ⟨_, _, rfl, lst1 (s1.ex _ _ hL), h _ B1 ι1 H1 g1 s1 (yld_enum (lst1 hL) r)⟩
      · cases q
    · rename_i q; split at q <;> cases q
    · exact h.elim
theorem ji_zip (hg : Gl X "zip") (hm : X.mg "zip" = none) (ha : JA X E [e, e2] ma) (hs : starEach [e, e2] X.env = (false, eval e X.env) :: starEach [e2] X.env := by rfl) (hpl : (backTo pos (starEach [e2] X.env)).any (·.1) = false := by rfl) : JI X E (.Tuple elts kk tpos) (.Call (.Name "zip" p) [e, e2] [] pos) (mZip ma) :=
  ji_imp (pi_zip hg hm ha hs hpl) fun σ H R ⟨F, B, ι, ρ, κ, s, h⟩ => by
    unfold mZip at h
    refine evA s (fun x κ1 e1 v B1 ι1 H1 g1 s1 w1 => ?_) (fun n fs κ1 e1 => by rw [e1] at h; exact h) (fun e => by rw [e] at h; exact h)
    rw [e1] at h
    dsimp only [Out.bind] at h
    split at h
    · rename_i xs κ' q
      split at q
      · cases q
        cases w1 with
        | cons w w2 => cases w2 with
          | cons w' w3 =>
            cases w3
            cases w with
            | lst hL r => cases w' with
              | lst hL2 r2 => exact ⟨_, _, _, _, rfl, lst1 (s1.ex _ _ hL), lst1 (s1.ex _ _ hL2), h _ B1 ι1 H1 g1 s1 (yld_zip (lst1 hL) r (lst1 hL2) r2)⟩
      · cases q
    · rename_i q; split at q <;> cases q
    · exact h.elim
end
end DL

namespace DL
open L2 PyProof.Rows PySem PySem.Spec RZ
/-! ### zip of tuples, range with a step -/
def mZipA (a : MA) : MI := fun ρ κ => (a ρ κ).bind fun xs κ1 => match xs with
  | [.d (.list ds), .d (.list es)] => .ok (zipD ds es) κ1
  | [.d (.tuple ds), .d (.tuple es)] => .ok (zipD ds es) κ1
  | _ => .bad
def stepD (lo c : Int) (n : Nat) : List D := (List.range n).map fun (i : Nat) => PyData.int (lo + (i : Int) * c)
def mRng3 (a : MA) : MI := fun ρ κ => (a ρ κ).bind fun xs κ1 => match xs with
  | [.d (.int i), .d (.int j), .d (.int c)] => if c ≠ 0 ∧ c.natAbs < 1073741824 ∧ Builtin.Range.small i j c = true ∧ 0 ≤ Builtin.Range.rangeSize i j c then .ok (stepD i c (Builtin.Range.rangeSize i j c).toNat) κ1 else .bad
  | _ => .bad
section
variable {K : PySem.W.Frag} {F : List Addr} {B B' : Hp} {ι ι' : List Addr} {H H' : Hp} {κ : Kap}
theorem yld_zipT {a b : Addr} {vs us : List V} {xs ys : List D} (hS : SqT K B a vs) (r : RpAll K B vs xs) (hS2 : SqT K B b us) (r2 : RpAll K B us ys) : Yld K F B ι H (ItzT K a b) (zipD xs ys) := fun F' i B' ι' H' κ' _ g s => by
  have h1 : SqT K H' a vs := same_t s.ex (same_t g.b hS)
  have h2 : SqT K H' b us := same_t s.ex (same_t g.b hS2)
  refine ⟨fun d e => ?_, fun e => ⟨vs, us, h1, h2, ?_⟩⟩
  · obtain ⟨p, q, e1, e2, rfl⟩ := zipD_get xs ys i d e
    obtain ⟨v, e3, w⟩ := r.get e1
    obtain ⟨u, e4, w2⟩ := r2.get e2
    refine ⟨⟨vs, us, v, u, h1, h2, e3, e4⟩, fun x H'' yy => ?_⟩
    obtain ⟨T, z, z2, rfl, hT, rfl, hz, hz2⟩ := yy
    have ez := hz vs h1
    rw [e3] at ez
    cases ez
    have ez2 := hz2 us h2
    rw [e4] at ez2
    cases ez2
    obtain ⟨s2, g2⟩ := s.new (o := .tup [v, u]) hT
    exact ⟨_, g2, s2, .tup (.inl (.inl upd_same)) (.cons ((w.mono g.b).mono g2.b) (.cons ((w2.mono g.b).mono g2.b) .nil))⟩
  · rw [zipD_len] at e
    rw [r.len, r2.len]
    omega
theorem stepD_get {lo c : Int} {n i : Nat} {d : D} (e : (stepD lo c n)[i]? = some d) : i < n ∧ d = .int (lo + (i : Int) * c) := by
  unfold stepD at e
  rw [List.getElem?_map] at e
  cases q : (List.range n)[i]? with
  | none => rw [q] at e; cases e
  | some k =>
    rw [q] at e
    obtain ⟨h1, h2⟩ := List.getElem?_eq_some_iff.mp q
    rw [List.length_range] at h1
    rw [List.getElem_range] at h2
    subst h2
    cases e
    exact ⟨h1, rfl⟩
theorem yld_step {lo c : Int} {n : Nat} : Yld K F B ι H (Itc lo c n) (stepD lo c n) := fun F' i B' ι' H' κ' _ g s => by
  refine ⟨fun d e => ?_, fun e => by show n ≤ i; simpa [stepD] using e⟩
  obtain ⟨h1, rfl⟩ := stepD_get e
  refine ⟨h1, fun x H'' yy => ?_⟩
  obtain ⟨rfl, rfl⟩ := yy
  exact ⟨B', Grow.refl, s, .int _⟩
end
section
variable {X : Cx} {E : XK} {tg e e2 a b c : Expr} {ma : MA} {p pos tpos : Pos} {elts : List Expr} {kk : Nat}
theorem ji_zipA (hg : Gl X "zip") (hm : X.mg "zip" = none) (ha : JA X E [e, e2] ma) (hs : starEach [e, e2] X.env = (false, eval e X.env) :: starEach [e2] X.env := by rfl) (hpl : (backTo pos (starEach [e2] X.env)).any (·.1) = false := by rfl) : JI X E (.Tuple elts kk tpos) (.Call (.Name "zip" p) [e, e2] [] pos) (mZipA ma) :=
  ji_imp (pi_zipA hg hm ha hs hpl) fun σ H R ⟨F, B, ι, ρ, κ, s, h⟩ => by
    unfold mZipA at h
    refine evA s (fun x κ1 e1 v B1 ι1 H1 g1 s1 w1 => ?_) (fun n fs κ1 e1 => by rw [e1] at h; exact h) (fun e => by rw [e] at h; exact h)
    rw [e1] at h
    dsimp only [Out.bind] at h
    split at h
    · rename_i xs κ' q
      split at q
      · cases q
        cases w1 with
        | cons w w2 => cases w2 with
          | cons w' w3 =>
            cases w3
            cases w with
            | lst hL r => cases w' with
              | lst hL2 r2 => exact ⟨_, _, _, _, rfl, .inl ⟨lst1 (s1.ex _ _ hL), lst1 (s1.ex _ _ hL2), h _ B1 ι1 H1 g1 s1 (yld_zip (lst1 hL) r (lst1 hL2) r2)⟩⟩
      · cases q
        cases w1 with
        | cons w w2 => cases w2 with
          | cons w' w3 =>
            cases w3
            cases w with
            | tup hL r => cases w' with
              | tup hL2 r2 => exact ⟨_, _, _, _, rfl, .inr ⟨same_t s1.ex hL, same_t s1.ex hL2, h _ B1 ι1 H1 g1 s1 (yld_zipT hL r hL2 r2)⟩⟩
      · cases q
    · rename_i q; split at q <;> cases q
    · exact h.elim
theorem ji_rng3 (hg : Gl X "range") (hm : X.mg "range" = none) (ha : JA X E [a, b, c] ma) (hs : starEach [a, b, c] X.env = (false, eval a X.env) :: starEach [b, c] X.env := by rfl) (hpl : (backTo pos (starEach [b, c] X.env)).any (·.1) = false := by rfl) : JI X E tg (.Call (.Name "range" p) [a, b, c] [] pos) (mRng3 ma) :=
  ji_imp (pi_range3 hg hm ha hs hpl) fun σ H R ⟨F, B, ι, ρ, κ, s, h⟩ => by
    unfold mRng3 at h
    refine evA s (fun x κ1 e1 v B1 ι1 H1 g1 s1 w1 => ?_) (fun n fs κ1 e1 => by rw [e1] at h; exact h) (fun e => by rw [e] at h; exact h)
    rw [e1] at h
    dsimp only [Out.bind] at h
    split at h
    · rename_i xs κ' q
      split at q
      · split at q
        · rename_i i j c hc
          cases q
          cases w1 with
          | cons w w2 => cases w2 with
            | cons w' w3 => cases w3 with
              | cons w'' w4 =>
                cases w4; cases w; cases w'; cases w''
                refine ⟨i, j, c, _, rfl, ⟨hc.1, hc.2.1, hc.2.2.1, (Int.toNat_of_nonneg hc.2.2.2).symm⟩, h _ B1 ι1 H1 g1 s1 ?_⟩
                exact yld_step
        · cases q
      · cases q
    · rename_i q; split at q
      · split at q <;> cases q
      · cases q
    · exact h.elim
end
end DL

namespace DL
open L2 PyProof.Rows PySem PySem.Spec
/-! ### divmod, more methods of texts -/
def divmodD (_ : Kap) (xs : List DV) : Option DV := match xs with
  | [.d (.int i), .d (.int j)] => if 0 < j ∧ j < 1073741824 then some (.d (.tuple [.int (i / j), .int (i % j)])) else none
  | _ => none
def newStrs (ys : List Str) : DV := .n (ys.map PyData.str)
theorem strs_rp {K : PySem.W.Frag} {B : Hp} : ∀ ys : List Str, RpAll K B (ys.map V.str) (ys.map PyData.str)
  | [] => .nil
  | y :: r => .cons (.str y) (strs_rp r)
def splitF (_ : Kap) (a : Str) (xs : List DV) : Option DV := match xs with
  | [.d (.str b)] => if b.length ≠ 0 ∧ a.length ≤ 16000000 then some (newStrs (Txt.split a b)) else none
  | _ => none
def wordsF (_ : Kap) (a : Str) (xs : List DV) : Option DV := match xs with
  | [] => if a.length ≤ 16000000 then some (newStrs (Txt.words a)) else none
  | _ => none
def strip0F (_ : Kap) (a : Str) (xs : List DV) : Option DV := match xs with
  | [] => if a.length ≤ 16000000 then some (.d (.str (Txt.strip a))) else none
  | _ => none
def ms1 (f : Str → Str → PyData) (_ : Kap) (a : Str) (xs : List DV) : Option DV := match xs with
  | [.d (.str b)] => some (.d (f a b))
  | _ => none
def ms0 (f : Str → PyData) (_ : Kap) (a : Str) (xs : List DV) : Option DV := match xs with
  | [] => some (.d (f a))
  | _ => none
section
variable {K : PySem.W.Frag}
theorem divmodI : CalI K (fun xs H Q => ∃ i j, xs = [.int i, .int j] ∧ CDiv i j ∧ ∀ p, H p = none → Q (.ref p) (upd H p (.tup [.int (i / j), .int (i % j)]))) divmodD := fun F B ι H κ vs xs z s w e Q q => by
  unfold divmodD at e
  split at e
  · split at e
    · rename_i h
      cases e
      cases w with
      | cons w1 w2 => cases w2 with
        | cons w2 w3 => cases w3; cases w1; cases w2; exact ⟨_, _, rfl, h, newT s (.cons (.int _) (.cons (.int _) .nil)) q⟩
    · cases e
  · cases e
theorem splitI : MsI K (fun x xs H Q => ∃ a b, x = .str a ∧ xs = [.str b] ∧ (b.length == 0) = false ∧ a.length + 2 ≤ sizeLine ∧ rNewStrs (Txt.split a b) H Q) splitF := fun F B ι H κ a ws xs z s w e Q q => by
  unfold splitF at e
  split at e
  · split at e
    · rename_i b h
      cases e
      cases w with
      | cons w1 w2 =>
        cases w2; cases w1
        exact ⟨a, b, rfl, rfl, by simpa using h.1, Nat.le_trans (Nat.add_le_add_right h.2 2) (by decide), newQ s (strs_rp _) q⟩
    · cases e
  · cases e
theorem wordsI : MsI K (fun x xs H Q => ∃ a, x = .str a ∧ xs = [] ∧ a.length + 2 ≤ sizeLine ∧ rNewStrs (Txt.words a) H Q) wordsF := fun F B ι H κ a ws xs z s w e Q q => by
  unfold wordsF at e
  split at e
  · split at e
    · rename_i h
      cases e
      cases w
      exact ⟨a, rfl, rfl, Nat.le_trans (Nat.add_le_add_right h 2) (by decide), newQ s (strs_rp _) q⟩
    · cases e
  · cases e
theorem strip0I : MsI K (fun x xs H Q => ∃ a, x = .str a ∧ xs = [] ∧ a.length ≤ sizeLine ∧ Q (.str (Txt.strip a)) H) strip0F := fun F B ι H κ a ws xs z s w e Q q => by
  unfold strip0F at e
  split at e
  · split at e
    · rename_i h
      cases e
      cases w
      exact ⟨a, rfl, rfl, line16 h, keepQ s (.str _) q⟩
    · cases e
  · cases e
theorem startsI : MsI K (fun x xs H Q => ∃ a b, x = .str a ∧ xs = [.str b] ∧ Q (.bl (Txt.startswith a b)) H) (ms1 fun a b => .bool (Txt.startswith a b)) := fun F B ι H κ a ws xs z s w e Q q => by
  unfold ms1 at e
  split at e
  · cases e
    cases w with
    | cons w1 w2 => cases w2; cases w1; exact ⟨a, _, rfl, rfl, keepQ s (.bl _) q⟩
  · cases e
theorem endsI : MsI K (fun x xs H Q => ∃ a b, x = .str a ∧ xs = [.str b] ∧ Q (.bl (Txt.endswith a b)) H) (ms1 fun a b => .bool (Txt.endswith a b)) := fun F B ι H κ a ws xs z s w e Q q => by
  unfold ms1 at e
  split at e
  · cases e
    cases w with
    | cons w1 w2 => cases w2; cases w1; exact ⟨a, _, rfl, rfl, keepQ s (.bl _) q⟩
  · cases e
theorem findI : MsI K (fun x xs H Q => ∃ a b, x = .str a ∧ xs = [.str b] ∧ Q (.int (Txt.find a b)) H) (ms1 fun a b => .int (Txt.find a b)) := fun F B ι H κ a ws xs z s w e Q q => by
  unfold ms1 at e
  split at e
  · cases e
    cases w with
    | cons w1 w2 => cases w2; cases w1; exact ⟨a, _, rfl, rfl, keepQ s (.int _) q⟩
  · cases e
theorem countI : MsI K (fun x xs H Q => ∃ a b, x = .str a ∧ xs = [.str b] ∧ Q (.int (Txt.count a b)) H) (ms1 fun a b => .int (Txt.count a b)) := fun F B ι H κ a ws xs z s w e Q q => by
  unfold ms1 at e
  split at e
  · cases e
    cases w with
    | cons w1 w2 => cases w2; cases w1; exact ⟨a, _, rfl, rfl, keepQ s (.int _) q⟩
  · cases e
end
end DL

namespace DL
open L2 PyProof.Rows PySem PySem.Spec
/-! ### a truth as a number -/
def bz (b : Bool) : Int := if b = true then 1 else 0
theorem gives_neg_b (p : Bool) : Gives (Builtin.«int.__neg__» ⟨[.bool p], []⟩) (.int (-(if p = true then (1 : Int) else 0))) := .of_eq rfl
section
variable {X : Cx}
theorem op_bAdd : OpR X (binaryOp .Add) (fun x y H Q => ∃ k i, x = .bl k ∧ y = .int i ∧ Q (.int (bz k + i)) H) := by
  intro pins s σ H x y v u Q I rx ry h
  obtain ⟨k, i, rfl, rfl, q⟩ := h
  obtain ⟨t, rfl⟩ := ry
  cases rx
  exact PySem.IntBool.add_bool_int ⟨.int (bz k + i), H, I.tok _, ⟨_, rfl⟩, q⟩
theorem op_bSub : OpR X (binaryOp .Sub) (fun x y H Q => ∃ k i, x = .bl k ∧ y = .int i ∧ Q (.int (bz k - i)) H) := by
  intro pins s σ H x y v u Q I rx ry h
  obtain ⟨k, i, rfl, rfl, q⟩ := h
  obtain ⟨t, rfl⟩ := ry
  cases rx
  exact PySem.IntBool.sub_bool_int ⟨.int (bz k - i), H, I.tok _, ⟨_, rfl⟩, q⟩
theorem un_bNeg : UnR X (unaryOp .USub) (fun x H Q => ∃ k, x = .bl k ∧ Q (.int (-bz k)) H) := by
  intro pins s σ H x v Q I rx h
  obtain ⟨k, rfl, q⟩ := h
  cases rx
  exact unaryOp_gives (op := .USub) (typeIs_bool' s k) rfl F.slot_bool_neg F.entry_int_neg (F.args_int_neg_1 _) (gives_neg_b k) ⟨.int (-bz k), H, I.tok _, ⟨_, rfl⟩, q⟩
theorem call_strB : CallR X (.type "str") (fun xs H Q => ∃ k, xs = [.bl k] ∧ Q (.str (if k = true then "True" else "False")) H) := by
  intro pins s σ H xs us Q I r h
  obtain ⟨k, rfl, q⟩ := h
  obtain ⟨u, rfl, r1⟩ := vals1 r
  cases r1
  exact PySem.P.str_of_bool ⟨.str (if k = true then "True" else "False"), H, I.tok _, ⟨_, by cases k <;> rfl⟩, q⟩
def rAddB (K : PySem.W.Frag) : R2 := fun x y H Q => (∃ k i, x = .bl k ∧ y = .int i ∧ Q (.int (bz k + i)) H) ∨ rAddAll K x y H Q
theorem op_addB : OpR X (binaryOp .Add) (rAddB X.K) := op_bAdd.or op_addAll
def rSubB : R2 := fun x y H Q => (∃ k i, x = .bl k ∧ y = .int i ∧ Q (.int (bz k - i)) H) ∨ (rI0 fun i j => .int (i - j)) x y H Q
theorem op_subB : OpR X (binaryOp .Sub) rSubB := op_bSub.or op_sub
def rNegB : V → Hp → VK → Prop := fun x H Q => (∃ k, x = .bl k ∧ Q (.int (-bz k)) H) ∨ (rU fun i => .int (-i)) x H Q
theorem un_negB : UnR X (unaryOp .USub) rNegB := fun pins s σ H x v Q I rx h => h.elim (un_bNeg pins s σ H x v Q I rx) (un_neg pins s σ H x v Q I rx)
def rStrB : List V → Hp → VK → Prop := fun xs H Q => (∃ k, xs = [.bl k] ∧ Q (.str (if k = true then "True" else "False")) H) ∨ ((∃ i : Int, xs = [.int i] ∧ i.natAbs.log2 < 1920 ∧ Q (.str (toString i)) H) ∨ ∃ a, xs = [.str a] ∧ Q (.str a) H)
theorem op_strB : CallR X (.type "str") rStrB := fun pins s σ H xs us Q I r h => h.elim (call_strB pins s σ H xs us Q I r) (op_strAll pins s σ H xs us Q I r)
end
def addB (κ : Kap) (x y : DV) : Option DV := match x, y with
  | .d (.bool a), .d (.int b) => some (.d (.int (bz a + b)))
  | x, y => addD κ x y
def subB (κ : Kap) (x y : DV) : Option DV := match x, y with
  | .d (.bool a), .d (.int b) => some (.d (.int (bz a - b)))
  | x, y => DL.intD subF κ x y
def negB (κ : Kap) (x : DV) : Option DV := match x with
  | .d (.bool a) => some (.d (.int (-bz a)))
  | x => negD κ x
def strB : D → Option D
  | .bool k => some (.str (if k = true then "True" else "False"))
  | x => strF x
section
variable {K : PySem.W.Frag}
theorem addBI : BinI K (rAddB K) addB := fun F B ι H κ v w x y z s wx wy e Q q => by
  unfold addB at e
  split at e
  · cases e; cases wx; cases wy
    exact .inl ⟨_, _, rfl, rfl, keepQ s (.int _) q⟩
  · exact .inr (addI F B ι H κ v w x y z s wx wy e Q q)
theorem subBI : BinI K rSubB subB := fun F B ι H κ v w x y z s wx wy e Q q => by
  unfold subB at e
  split at e
  · cases e; cases wx; cases wy
    exact .inl ⟨_, _, rfl, rfl, keepQ s (.int _) q⟩
  · exact .inr (subI F B ι H κ v w x y z s wx wy e Q q)
theorem negBI : UnI K rNegB negB := fun F B ι H κ v x z s wx e Q q => by
  unfold negB at e
  split at e
  · cases e; cases wx
    exact .inl ⟨_, rfl, keepQ s (.int _) q⟩
  · exact .inr (negI F B ι H κ v x z s wx e Q q)
theorem strBI : CalI K rStrB (cal1 strB) := fun F B ι H κ vs xs z s w e Q q => by
  unfold cal1 at e
  split at e
  · rename_i d
    cases d with
    | bool k =>
      cases e
      cases w with
      | cons w1 w2 =>
        cases w2
        cases w1
        exact .inl ⟨_, rfl, keepQ s (.str _) q⟩
    | _ => exact .inr (strI F B ι H κ vs [_] z s w e Q q)
  · cases e
end
end DL

namespace DL
open L2 PyProof.Rows PySem PySem.Spec
/-! ### defs as values -/
abbrev fnD (x : Str) : D := .dict [(.bool true, .str x)]
def mCallV (i : Nat) (tbl : Str → Option MF) (a : MA) : ME := fun ρ κ => match ρ[i]? with
  | some (some (.d (.dict [(.bool true, .str x)]))) => match tbl x with
    | some m => mCall m a ρ κ
    | none => .bad
  | _ => .bad
section
variable {X : Cx} {k i : Nat} {f : Addr} {fd : FuncData} {ps : List Str} {sp : Sp} {dvs : List V} {ds : List Value} {E : XK} {x y : Str} {p pos : Pos} {e : Expr} {es : List Expr} {t : TA} {CX : CXT} {ma : MA}
theorem pe_callLG (F : FnG X.prog X.w X.K X.mg X.base CX k f fd ps sp) (gu : X.A.guards = some []) (hr : Room k X.A) (hN : X.N[i]? = some x) (hv : Vis X.env.scope x) (hk : PySem.W.keepIn X.K (.ref f) = true) (hb : Binds X.K fd ps ds) (hd : Vals dvs ds) (hx : Passes CX X E) (ha : PA X (e :: es) t)
    (hdb : (x == ("__debug__" : Str)) = false := by decide) (hcd : (x == ("__classdict__" : Str)) = false := by decide)
    (he : starEach (e :: es) X.env = (false, eval e X.env) :: starEach es X.env := by rfl) (hpl : (backTo pos (starEach es X.env)).any (·.1) = false := by rfl) : PE X (.Call (.Name x p) (e :: es) [] pos) (tCallL i f sp dvs E t) := by
  refine ⟨fun pins s σ H Q I h => ?_⟩
  obtain ⟨hs, ht⟩ := h
  refine wpAny_Call_Name_kw (thn ((pe_var (pos := p) hN hv hdb hcd).run pins s σ H (fun v H1 => v = .ref f ∧ H1 = H) I ⟨.ref f, hs, rfl, rfl⟩) fun u s1 ⟨v, H1, I1, r1, q1⟩ => ?_)
  obtain ⟨rfl, rfl⟩ := q1
  cases r1
  refine PySem.W.callWith_K (h₀ := X.base) I.ok.mod.kin hk (thn (ha.run pos pins s1 σ _ _ I1 ht) fun us s2 ⟨vs, H2, I2, r, q⟩ => ⟨I2.kIn, ?_⟩) he hpl
  exact goes F gu hr (fun l => hb s2 us I2.kIn l) hx I2 (r.append hd) q
theorem je_callV {tbl : Str → Option MF} (gu : X.A.guards = some []) (hr : Room k X.A) (hN : X.N[i]? = some y) (T : ∀ x m, tbl x = some m → ∃ st ps, Cal X.prog X.w X.K X.mg X.base k x st ps m) (ha : JA X E0 (e :: es) ma)
    (hv : Vis X.env.scope y := by first | exact Or.inl rfl | exact Or.inr (Or.inl rfl) | exact Or.inr (Or.inr rfl))
    (hdb : (y == ("__debug__" : Str)) = false := by decide) (hcd : (y == ("__classdict__" : Str)) = false := by decide)
    (he : starEach (e :: es) X.env = (false, eval e X.env) :: starEach es X.env := by rfl) (hpl : (backTo pos (starEach es X.env)).any (·.1) = false := by rfl) :
    JE X E0 (.Call (.Name y p) (e :: es) [] pos) (mCallV i tbl ma) := by
  refine ⟨fun pins s σ H Q I h => ?_⟩
  obtain ⟨F, B, ι, ρ, κ, st, h⟩ := h
  unfold mCallV at h
  split at h
  · rename_i x e0
    split at h
    · rename_i m em
      obtain ⟨v, hs, w⟩ := st.loc i _ e0
      obtain ⟨sto, psx, C⟩ := T x m em
      obtain ⟨f', fd', _, _, Fu, hb, Fo, hm⟩ := C.ex
      have w : Rp X.K B v (fnD x) := w
      cases w with
      | fnc hn hk =>
        have e2 := PySem.W.mg_of I.ok.mod.kin I.ok.mod.glob hn
        rw [hm] at e2
        cases e2
        exact (pe_callLG (i := i) (dvs := []) (ds := []) (E := E0) Fo gu hr hN hv hk hb .nil pass0 ha hdb hcd he hpl).run pins s σ H Q I ⟨hs, call_imp (E := E0) C.na ⟨F, B, ι, ρ, κ, st, h⟩⟩
      | dic h1 h2 => cases h2
    · exact h.elim
  · exact h.elim
/-- a def's name, as a value -/
theorem je_fn (hg : Gl X x) (hm : X.mg x = some (.ref f)) (hn : PySem.W.nsIn X.K mainGlobals x = some (some (.ref f))) (hk : PySem.W.keepIn X.K (.ref f) = true) (hd : (x == ("__debug__" : Str)) = false := by decide) : JE X E (.Name x pos) (mC (fnD x)) :=
  je_gl (v := .ref f) hg hm rfl (fun _ => .fnc hn hk) hd
end
end DL

namespace DL
open L2 PyProof.Rows PySem PySem.Spec
/-! ### dicts that are read -/
def keyD : D → D → Bool
  | .int a, .int b => a == b
  | .str a, .str b => a == b
  | _, _ => false
def dgetD : List (D × D) → D → Option D
  | [], _ => none
  | (k, v) :: r, y => if keyD k y = true then some v else dgetD r y
def keyOf : D → Option Key
  | .int i => some (.inl i)
  | .str x => some (.inr x)
  | _ => none
def mDget (mo mi : ME) : ME := fun ρ κ => (mo ρ κ).bind fun x κ1 => (mi ρ κ1).bind fun y κ2 => match x, y with
  | .d (.dict kvs), .d k => match dgetD kvs k with
    | some v => .ok (.d v) κ2
    | none => .bad
  | _, _ => .bad
theorem dget_ok {K : PySem.W.Frag} {H : Hp} : ∀ {kvs : List (Key × V)} {ds : List (D × D)} {y : D} {k : Key}, RpKV K H kvs ds → keyOf y = some k → (∀ d, dgetD ds y = some d → ∃ v, valV kvs k = some v ∧ Rp K H v d) ∧ (dgetD ds y = none → valV kvs k = none)
  | _, _, _, _, .nil, _ => ⟨fun _ e => (nomatch e), fun _ => rfl⟩
  | _, _, y, k, .consI (i := i) (v := v) (kvs := kvs) (d := d0) h r, e => by
    obtain ⟨h1, h2⟩ := dget_ok r e
    cases y with
    | int j =>
      cases e
      by_cases q : i = j
      · subst q
        refine ⟨fun d e => ?_, fun e => ?_⟩
        · simp [dgetD, keyD] at e
          subst e
          exact ⟨v, by simp [valV], h⟩
        · simp [dgetD, keyD] at e
      · refine ⟨fun d e => ?_, fun e => ?_⟩
        · simp [dgetD, keyD, q] at e
          obtain ⟨u, e1, e2⟩ := h1 d e
          exact ⟨u, by simp [valV, q] at e1 ⊢; exact e1, e2⟩
        · simp [dgetD, keyD, q] at e
          have := h2 e
          simp [valV, q] at this ⊢; exact this
    | str x =>
      cases e
      refine ⟨fun d e => ?_, fun e => ?_⟩
      · simp [dgetD, keyD] at e
        obtain ⟨u, e1, e2⟩ := h1 d e
        exact ⟨u, by simp [valV] at e1 ⊢; exact e1, e2⟩
      · simp [dgetD, keyD] at e
        have := h2 e
        simp [valV] at this ⊢; exact this
    | _ => cases e
  | _, _, y, k, .consS (x := x) (v := v) (kvs := kvs) (d := d0) h r, e => by
    obtain ⟨h1, h2⟩ := dget_ok r e
    cases y with
    | str j =>
      cases e
      by_cases q : x = j
      · subst q
        refine ⟨fun d e => ?_, fun e => ?_⟩
        · simp [dgetD, keyD] at e
          subst e
          exact ⟨v, by simp [valV], h⟩
        · simp [dgetD, keyD] at e
      · refine ⟨fun d e => ?_, fun e => ?_⟩
        · simp [dgetD, keyD, q] at e
          obtain ⟨u, e1, e2⟩ := h1 d e
          exact ⟨u, by simp [valV, q] at e1 ⊢; exact e1, e2⟩
        · simp [dgetD, keyD, q] at e
          have := h2 e
          simp [valV, q] at this ⊢; exact this
    | int j =>
      cases e
      refine ⟨fun d e => ?_, fun e => ?_⟩
      · simp [dgetD, keyD] at e
        obtain ⟨u, e1, e2⟩ := h1 d e
        exact ⟨u, by simp [valV] at e1 ⊢; exact e1, e2⟩
      · simp [dgetD, keyD] at e
        have := h2 e
        simp [valV] at this ⊢; exact this
    | _ => cases e
def bool2 (b : Bool) (x : Bool) : D := .bool (if b = true then x else !x)
def mDin (pos : Bool) (mi mo : ME) : ME := fun ρ κ => (mi ρ κ).bind fun y κ1 => (mo ρ κ1).bind fun x κ2 => match y, x with
  | .d k, .d (.dict kvs) => match keyOf k, kvs with
    | some _, [(.none, _)] => .bad
    | some _, [(.bool _, _)] => .bad
    | some _, kvs => .ok (.d (bool2 pos (dgetD kvs k).isSome)) κ2
    | none, _ => .bad
  | _, _ => .bad
theorem key_v {K : PySem.W.Frag} {H : Hp} {v : V} {d : D} {k : Key} (e : keyOf d = some k) (r : Rp K H v d) : v = kV k := by
  cases r <;> first | (cases e; rfl) | cases e
theorem key_some {ds : List (D × D)} {y d : D} (e : dgetD ds y = some d) : ∃ k, keyOf y = some k := by
  induction ds with
  | nil => cases e
  | cons p r ih =>
    obtain ⟨a, b⟩ := p
    rw [dgetD] at e
    split at e
    · rename_i h
      cases a <;> cases y <;> first | exact ⟨_, rfl⟩ | (simp [keyD] at h)
    · exact ih e
section
variable {X : Cx} {E : XK} {o i : Expr} {mo mi : ME} {pos : Pos}
theorem je_dget (hu : X.A.units + 64 < cLine) (ho : JE X E o mo) (hi : JE X E i mi) (hs : NoSl i) : JE X E (.Subscript o i pos) (mDget mo mi) :=
  pe_imp (pe_dget (by omega) ho hi hs) fun σ H Q ⟨F, B, ι, ρ, κ, s, h⟩ => by
    unfold mDget at h
    refine evE s (fun x κ1 e1 v B1 ι1 H1 g1 s1 w1 => ?_) (fun n fs κ1 e1 => by rw [e1] at h; exact h) (fun e => by rw [e] at h; exact h)
    rw [e1] at h
    have h : PostE X.K X.mg E F B ι H Q (Out.bind (mi ρ κ1) _) := h
    cases x with
    | n xs =>
      cases q : mi ρ κ1 with
      | ok y κ2 => rw [q] at h; exact h.elim
      | ex n fs κ2 =>
        refine evE (s.step g1 s1) (fun y κ2 e2 => by rw [q] at e2; cases e2) (fun n' fs' κ2 e2 => by rw [e2] at h; exact XW.grow h g1 fun _ m => m) (fun e => by rw [e] at q; cases q)
      | bad => rw [q] at h; exact h.elim
    | c j =>
      cases q : mi ρ κ1 with
      | ok y κ2 => rw [q] at h; exact h.elim
      | ex n fs κ2 =>
        refine evE (s.step g1 s1) (fun y κ2 e2 => by rw [q] at e2; cases e2) (fun n' fs' κ2 e2 => by rw [e2] at h; exact XW.grow h g1 fun _ m => m) (fun e => by rw [e] at q; cases q)
      | bad => rw [q] at h; exact h.elim
    | d xd =>
      refine evE (s.step g1 s1) (fun y κ2 e2 u B2 ι2 H2 g2 s2 w2 => ?_) (fun n fs κ2 e2 => by rw [e2] at h; exact XW.grow h g1 fun _ m => m) (fun e => by rw [e] at h; exact h)
      rw [e2] at h
      dsimp only [Out.bind] at h
      cases xd with
      | dict kvs =>
        cases y with
        | d k =>
          dsimp only at h
          split at h
          · rename_i d ed
            obtain ⟨ky, ek⟩ := key_some ed
            have wx : Rp X.K B1 v (.dict kvs) := w1
            have wy : Rp X.K B2 u k := w2
            cases wx with
            | scr _ => cases k <;> simp [dgetD, keyD] at ed
            | fnc _ _ => cases k <;> simp [dgetD, keyD] at ed
            | clo _ _ => cases k <;> simp [dgetD, keyD] at ed
            | dic hd rk =>
              have rk2 : RpKV X.K B2 _ kvs := RpKV.mono g2.b rk
              obtain ⟨z, e3, r3⟩ := (dget_ok rk2 ek).1 d ed
              exact ⟨_, z, rfl, .inl ⟨_, ky, .inl (s2.ex _ _ (g2.b _ _ hd)), key_v ek wy, e3.symm⟩, h z B2 ι2 H2 (g1.trans g2) s2 r3⟩
          · exact h.elim
        | _ => exact h.elim
      | _ => cases y <;> exact h.elim
theorem din_imp {σ : L2.St} {H : Hp} {Q : VK} (h : tM X.K X.mg E (mDin true mi mo) σ H Q) : tDIn (tM X.K X.mg E mi) (tM X.K X.mg E mo) σ H Q := by
    obtain ⟨F, B, ι, ρ, κ, s, h⟩ := h
    unfold mDin at h
    refine evE s (fun y κ1 e1 u B1 ι1 H1 g1 s1 w1 => ?_) (fun n fs κ1 e1 => by rw [e1] at h; exact h) (fun e => by rw [e] at h; exact h)
    rw [e1] at h
    have h : PostE X.K X.mg E F B ι H Q (Out.bind (mo ρ κ1) _) := h
    refine evE (s.step g1 (s1.less fun _ m => m)) (fun x κ2 e2 v B2 ι2 H2 g2 s2 w2 => ?_) (fun n fs κ2 e2 => by rw [e2] at h; exact XW.grow h g1 fun _ m => m) (fun e => by rw [e] at h; exact h)
    rw [e2] at h
    dsimp only [Out.bind] at h
    cases y with
    | d k =>
      cases x with
      | d xd =>
        cases xd with
        | dict kvs =>
          dsimp only at h
          split at h
          · exact h.elim
          · exact h.elim
          · rename_i ky ek hn1 hn2
            have wy : Rp X.K B1 u k := w1
            have wx : Rp X.K B2 v (.dict _) := w2
            cases wx with
            | scr _ => exact absurd rfl (hn1 _)
            | fnc _ _ => exact absurd rfl (hn2 _ _)
            | clo _ _ => exact absurd rfl (hn2 _ _)
            | dic hd rk =>
              obtain ⟨q1, q2⟩ := dget_ok rk ek
              refine ⟨_, _, rfl, .inl ⟨_, ky, .inl (s2.ex _ _ hd), key_v ek wy, rfl⟩, h _ B2 ι2 H2 (g1.trans g2) s2 ?_⟩
              cases ed : dgetD _ k with
              | none => rw [q2 ed]; exact .bl _
              | some d =>
                obtain ⟨z, e3, _⟩ := q1 d ed
                rw [e3]; exact .bl _
          · exact h.elim
        | _ => exact h.elim
      | _ => exact h.elim
    | _ => cases x <;> exact h.elim
theorem je_din (hu : X.A.units + 64 < cLine) (hi : JE X E i mi) (ho : JE X E o mo) (hm : behindInMarks .In o = false := by with_unfolding_all rfl) : JE X E (.Compare i [.In] [o] pos) (mDin true mi mo) :=
  pe_imp (pe_cmp (pc_din (by omega) hi ho) hm) fun σ H Q h => din_imp h
theorem jt_din (hu : X.A.units + 64 < cLine) (hi : JE X E i mi) (ho : JE X E o mo) (hm : behindInMarks .In o = false := by with_unfolding_all rfl) : JT X E (.Compare i [.In] [o] pos) (mTb (mDin true mi mo)) :=
  pt_imp (pt_cmp (pc_din (by omega) hi ho) hm) fun σ H Q h => din_imp (tb_imp h)
theorem dnin_imp {σ : L2.St} {H : Hp} {Q : VK} (h : tM X.K X.mg E (mDin false mi mo) σ H Q) : tDNotIn (tM X.K X.mg E mi) (tM X.K X.mg E mo) σ H Q := by
    obtain ⟨F, B, ι, ρ, κ, s, h⟩ := h
    unfold mDin at h
    refine evE s (fun y κ1 e1 u B1 ι1 H1 g1 s1 w1 => ?_) (fun n fs κ1 e1 => by rw [e1] at h; exact h) (fun e => by rw [e] at h; exact h)
    rw [e1] at h
    have h : PostE X.K X.mg E F B ι H Q (Out.bind (mo ρ κ1) _) := h
    refine evE (s.step g1 (s1.less fun _ m => m)) (fun x κ2 e2 v B2 ι2 H2 g2 s2 w2 => ?_) (fun n fs κ2 e2 => by rw [e2] at h; exact XW.grow h g1 fun _ m => m) (fun e => by rw [e] at h; exact h)
    rw [e2] at h
    dsimp only [Out.bind] at h
    cases y with
    | d k =>
      cases x with
      | d xd =>
        cases xd with
        | dict kvs =>
          dsimp only at h
          split at h
          · exact h.elim
          · exact h.elim
          · rename_i ky ek hn1 hn2
            have wy : Rp X.K B1 u k := w1
            have wx : Rp X.K B2 v (.dict _) := w2
            cases wx with
            | scr _ => exact absurd rfl (hn1 _)
            | fnc _ _ => exact absurd rfl (hn2 _ _)
            | clo _ _ => exact absurd rfl (hn2 _ _)
            | dic hd rk =>
              obtain ⟨q1, q2⟩ := dget_ok rk ek
              refine ⟨_, _, rfl, .inl ⟨_, ky, .inl (s2.ex _ _ hd), key_v ek wy, rfl⟩, h _ B2 ι2 H2 (g1.trans g2) s2 ?_⟩
              cases ed : dgetD _ k with
              | none => rw [q2 ed]; exact .bl _
              | some d =>
                obtain ⟨z, e3, _⟩ := q1 d ed
                rw [e3]; exact .bl _
          · exact h.elim
        | _ => exact h.elim
      | _ => exact h.elim
    | _ => cases x <;> exact h.elim
theorem je_dnin (hu : X.A.units + 64 < cLine) (hi : JE X E i mi) (ho : JE X E o mo) (hm : behindInMarks .NotIn o = false := by with_unfolding_all rfl) : JE X E (.Compare i [.NotIn] [o] pos) (mDin false mi mo) :=
  pe_imp (pe_cmp (pc_dnotin (by omega) hi ho) hm) fun σ H Q h => dnin_imp h
theorem jt_dnin (hu : X.A.units + 64 < cLine) (hi : JE X E i mi) (ho : JE X E o mo) (hm : behindInMarks .NotIn o = false := by with_unfolding_all rfl) : JT X E (.Compare i [.NotIn] [o] pos) (mTb (mDin false mi mo)) :=
  pt_imp (pt_cmp (pc_dnotin (by omega) hi ho) hm) fun σ H Q h => dnin_imp (tb_imp h)
end
/-! ### a copy -/
def plainK : List (D × D) → Bool
  | [(.none, _)] => false
  | [(.bool _, _)] => false
  | _ => true
def dictD (_ : Kap) (xs : List DV) : Option DV := match xs with
  | [.d (.dict kvs)] => if plainK kvs = true then some (.d (.dict kvs)) else none
  | _ => none
theorem dictI {K : PySem.W.Frag} : CalI K (fun xs H Q => ∃ (a : Addr) (kvs : List (Key × V)), xs = [.ref a] ∧ Rd H a (.dK kvs) ∧ ∀ p, H p = none → Q (.ref p) (upd H p (.dK kvs))) dictD := fun F B ι H κ vs xs z s w e Q q => by
  unfold dictD at e
  split at e
  · split at e
    · rename_i kvs h
      cases e
      cases w with
      | cons w1 w2 =>
        cases w2
        have w1 : Rp K B _ (.dict kvs) := w1
        cases w1 with
        | scr _ => cases h
        | fnc _ _ => cases h
        | clo _ _ => cases h
        | dic hd rk =>
          refine ⟨_, _, rfl, .inl (s.ex _ _ hd), fun p hp => ?_⟩
          obtain ⟨s2, g2⟩ := s.new (o := .dK _) hp
          exact q _ _ _ _ g2 s2 (.dic upd_same (RpKV.mono g2.b rk))
    · cases e
  · cases e
end DL

namespace DL
open L2 PyProof.Rows PySem PySem.Spec
/-! ### a dict with written keys -/
abbrev MP := Rho → Kap → Out (List (Key × DV))
def mPNil : MP := fun _ κ => .ok [] κ
def mPCons (k : Key) (a : ME) (r : MP) : MP := fun ρ κ => (a ρ κ).bind fun x κ1 => (r ρ κ1).bind fun xs κ2 => .ok ((k, fz x) :: xs) κ2
def tPs (K : PySem.W.Frag) (mg : Str → Option Value) (E : XK) (m : MP) : L2.St → Hp → (List (V × V) → Hp → Prop) → Prop := fun σ H Q => ∃ F B ι ρ κ, SOk K F B ι σ H ρ κ ∧ match m ρ κ with
  | .ok xs κ' => ∀ vs B' ι' H', Grow F B ι H B' ι' H' → HSt K F B' ι' H' κ' → Paired (fun (p : V × V) (q : Key × DV) => p.1 = kV q.1 ∧ WOk K B' ι' p.2 q.2) vs xs → Q vs H'
  | .ex n fs κ' => XW K mg E F B ι H n fs κ'
  | .bad => False
structure JPs (X : Cx) (E : XK) (pos : Pos) (ks : List (Option Expr)) (vs : List Expr) (m : MP) : Prop where
  ex : ∃ trs, PPs X pos ks vs trs ∧ ∀ σ H Q, tPs X.K X.mg E m σ H Q → tPairs trs σ H Q
section
variable {X : Cx} {E : XK} {pos : Pos} {k : Key} {ke v : Expr} {ks : List (Option Expr)} {vs : List Expr} {a : ME} {m : MP}
theorem jp_nil : JPs X E pos [] [] mPNil := ⟨[], pps_nil, fun σ H Q ⟨F, B, ι, ρ, κ, s, h⟩ => h [] B ι H Grow.refl s.hs .nil⟩
theorem jp_cons (hk : PE X ke (tC (kV k))) (hv : JE X E v a) (hr : JPs X E pos ks vs m) : JPs X E pos (some ke :: ks) (v :: vs) (mPCons k a m) := by
  obtain ⟨trs, hp, hi⟩ := hr.ex
  refine ⟨_, pps_cons hk hv hp, fun σ H Q ⟨F, B, ι, ρ, κ, s, h⟩ => ?_⟩
  unfold mPCons at h
  show tM X.K X.mg E a σ H _
  refine evE s (fun x κ1 e1 v B1 ι1 H1 g1 s1 w1 => ?_) (fun n fs κ1 e1 => by rw [e1] at h; exact h) (fun e => by rw [e] at h; exact h)
  rw [e1] at h
  obtain ⟨B1', s1', g1', w1'⟩ := s1.fz w1
  refine hi _ _ _ ⟨F, B1', ι1, ρ, κ1, s.step (g1.trans g1') s1', ?_⟩
  dsimp only [Out.bind] at h
  cases q : m ρ κ1 with
  | bad => rw [q] at h; exact h.elim
  | ex n fs κ2 => rw [q] at h; exact XW.grow h (g1.trans g1') fun _ m => m
  | ok xs κ2 =>
    rw [q] at h
    intro us B2 ι2 H2 g2 s2 w2
    exact h ((kV k, v) :: us) B2 ι2 H2 ((g1.trans g1').trans g2) s2 (.cons ⟨rfl, w1'.grow g2⟩ w2)
end
def keyDt : Key → D
  | .inl i => .int i
  | .inr x => .str x
def allKD : List (Key × DV) → Option (List (D × D))
  | [] => some []
  | (k, .d x) :: r => (allKD r).map ((keyDt k, x) :: ·)
  | _ => none
def mDisp (m : MP) : ME := fun ρ κ => (m ρ κ).bind fun xs κ1 => match allKD xs with
  | some ds => if (xs.map (·.1)).Nodup ∧ xs.length ≤ 15 then .ok (.d (.dict ds)) κ1 else .bad
  | none => .bad
theorem merge_new : ∀ (more acc : List (Key × V)), ((acc ++ more).map (·.1)).Nodup → mergeK acc more = acc ++ more
  | [], acc, _ => by rw [List.append_nil]; rfl
  | (k, v) :: r, acc, h => by
    have hk : ∀ x ∈ acc, x.1 ≠ k := fun x m e => by
      rw [List.map_append, List.nodup_append] at h
      exact h.2.2 x.1 (List.mem_map_of_mem m) k (by simp) e
    have e : putK acc k v = acc ++ [(k, v)] := by
      unfold putK
      rw [if_neg]
      intro z
      obtain ⟨x, m, hx⟩ := List.any_eq_true.mp z
      exact hk x m (of_decide_eq_true hx)
    show mergeK (putK acc k v) r = _
    rw [e, merge_new r (acc ++ [(k, v)]) (by rw [List.append_assoc]; exact h), List.append_assoc]; rfl
theorem kvs_of {K : PySem.W.Frag} {B : Hp} {ι : List Addr} : ∀ {vs : List (V × V)} {xs : List (Key × DV)} {ds : List (D × D)}, Paired (fun (p : V × V) (q : Key × DV) => p.1 = kV q.1 ∧ WOk K B ι p.2 q.2) vs xs → allKD xs = some ds →
    ∃ kvs : List (Key × V), vs = kvs.map (fun kv => (kV kv.1, kv.2)) ∧ RpKV K B kvs ds ∧ kvs.map (·.1) = xs.map (·.1)
  | _, _, _, .nil, e => by cases e; exact ⟨[], rfl, .nil, rfl⟩
  | _, _, _, .cons (a := p) (b := q) h r, e => by
    obtain ⟨k, x⟩ := q
    obtain ⟨u, v⟩ := p
    cases x with
    | d y =>
      rw [allKD] at e
      cases q2 : allKD _ with
      | none => rw [q2] at e; cases e
      | some ds' =>
        rw [q2] at e
        cases e
        obtain ⟨kvs, e1, e2, e3⟩ := kvs_of r q2
        have h1 : u = kV k := h.1
        have h2 : Rp K B v y := h.2
        refine ⟨(k, v) :: kvs, by rw [e1, h1]; rfl, ?_, by rw [List.map_cons, List.map_cons, e3]⟩
        cases k with
        | inl i => exact .consI h2 e2
        | inr z => exact .consS h2 e2
    | _ => simp [allKD] at e
section
variable {X : Cx} {E : XK} {pos : Pos} {ks : List (Option Expr)} {vs : List Expr} {m : MP}
theorem je_disp (hj : JPs X E pos ks vs m) (hall : ks.all (·.isSome) = true := by rfl) (hl : ks.length = vs.length := by rfl) (h0 : ks ≠ [] := by simp) (h15 : ks.length ≤ 15 := by decide) : JE X E (.Dict ks vs pos) (mDisp m) := by
  obtain ⟨trs, hp, hi⟩ := hj.ex
  refine pe_imp (pe_disp hp hall hl h0 h15) fun σ H Q ⟨F, B, ι, ρ, κ, s, h⟩ => ?_
  intro p hnp
  obtain ⟨s1, g1, hpF⟩ := s.hs.tmp (o := .dK []) hnp
  refine hi _ _ _ ⟨p :: F, B, ι, ρ, κ, s.step g1 s1, ?_⟩
  unfold mDisp at h
  cases q : m ρ κ with
  | bad => rw [q] at h; exact h.elim
  | ex n fs κ2 => rw [q] at h; exact XW.grow h g1 fun _ m => List.mem_cons_of_mem _ m
  | ok xs κ2 =>
    rw [q] at h
    intro us B2 ι2 H2 g2 s2 w2
    dsimp only [Out.bind] at h
    split at h
    · rename_i ds e
      split at h
      · rename_i hn
        obtain ⟨kvs, e1, rk, e3⟩ := kvs_of w2 e
        have hl2 : kvs.length = xs.length := by have := congrArg List.length e3; simpa using this
        refine ⟨(g2.fr p (List.mem_cons_self ..)).trans upd_same, kvs, e1, by rw [hl2]; exact hn.2, ?_⟩
        rw [merge_new kvs [] (by rw [List.nil_append, e3]; exact hn.1), List.nil_append]
        obtain ⟨s3, g3⟩ := s2.setP (o := .dK kvs) hpF
        obtain ⟨_, b1, b2⟩ := s3.pro p (List.mem_cons_self ..)
        have sub : ∀ a ∈ F, a ∈ p :: F := fun _ m => List.mem_cons_of_mem _ m
        obtain ⟨s4, g4⟩ := (s3.less sub).frz upd_same b1 b2 hpF
        exact h (.ref p) _ ι2 _ (((g1.trans (g2.less sub)).trans g3).trans g4) s4 (.dic upd_same (RpKV.mono g4.b rk))
      · exact h.elim
    · exact h.elim
end
end DL

namespace DL
open L2 PyProof.Rows PySem PySem.Spec
/-! ### tables of defs that a local may hold -/
def tblOf : List (Str × MF) → Str → Option MF
  | [], _ => none
  | (y, m) :: r, x => if y == x then some m else tblOf r x
section
variable {P : Program} {w : World} {K : PySem.W.Frag} {mg : Str → Option Value} {base : Heap} {k : Nat}
theorem tb_nil : ∀ x m, tblOf [] x = some m → ∃ st ps, Cal P w K mg base k x st ps m := fun _ _ e => nomatch e
theorem tb_cons {y : Str} {m0 : MF} {st : Stmt} {ps : List Str} {l : List (Str × MF)} (C : Cal P w K mg base k y st ps m0) (h : ∀ x m, tblOf l x = some m → ∃ st ps, Cal P w K mg base k x st ps m) :
    ∀ x m, tblOf ((y, m0) :: l) x = some m → ∃ st ps, Cal P w K mg base k x st ps m := fun x m e => by
  rw [tblOf] at e
  split at e
  · rename_i q
    cases e
    rw [← eq_of_beq q]
    exact ⟨st, ps, C⟩
  · exact h x m e
end
end DL

namespace DL
open L2 PyProof.Rows PySem PySem.Spec
/-! ### dict(X) of a module's own dict with text keys -/
def Ents : List DictEntry → List (Str × V) → Prop
  | [], [] => True
  | e :: r, q :: s => ((∃ t, e.key = .str q.1 t) ∧ RelV q.2 e.val) ∧ Ents r s
  | _, _ => False
def tk (kus : List (Str × V)) : List (Key × V) := kus.map fun q => (Sum.inr q.1, q.2)
theorem ents_len : ∀ {l : List DictEntry} {kus : List (Str × V)}, Ents l kus → l.length = kus.length
  | [], [], _ => rfl
  | _ :: _, _ :: _, h => by rw [List.length_cons, List.length_cons, ents_len h.2]
theorem ents_pairs {P : Program} {w : World} : ∀ {l : List DictEntry} {kus : List (Str × V)}, Ents l kus → PySem.Pairs (mixKind P w) l (List.zipWith (fun q e => (Sum.inr q.1, e.val)) kus l) ∧ KV (tk kus) (List.zipWith (fun (q : Str × V) (e : DictEntry) => ((Sum.inr q.1 : Key), e.val)) kus l)
  | [], [], _ => ⟨.nil, .nil⟩
  | e :: r, q :: s, h => by
    obtain ⟨⟨⟨t, e1⟩, e2⟩, h2⟩ := h
    obtain ⟨i1, i2⟩ := ents_pairs (P := P) (w := w) h2
    refine ⟨.cons ?_ rfl i1, .cons ⟨rfl, e2⟩ i2⟩
    show (mixKind P w).is (Sum.inr q.1) e.key = true
    rw [e1]; exact mixKind_str P w q.1 t
theorem zip_keys : ∀ {l : List DictEntry} {kus : List (Str × V)}, Ents l kus → (List.zipWith (fun (q : Str × V) (e : DictEntry) => ((Sum.inr q.1 : Key), e.val)) kus l).map (·.1) = kus.map fun q => (Sum.inr q.1 : Key)
  | [], [], _ => rfl
  | e :: r, q :: s, h => by rw [List.zipWith_cons_cons, List.map_cons, List.map_cons, zip_keys h.2]
section
variable {X : Cx} {d : Addr} {es : Array DictEntry} {n : Nat} {kus : List (Str × V)} {x : Str} {ds : List (D × D)} {p1 p2 pos : Pos} {E : XK}
theorem call_dictKD (hl : X.K.lookup d = some ⟨.type "dict", none, .dict es n, #[]⟩) (hk : PySem.W.KeysLit X.w.params es.toList) (lo : (d == sysModules) = false) (he : Ents es.toList kus) (hn : (kus.map (·.1)).Nodup) (hz : kus.length ≤ 1000) :
    CallR X (.type "dict") (fun xs H Q => xs = [.ref d] ∧ ∀ p, H p = none → Q (.ref p) (upd H p (.dK (tk kus)))) := by
  intro pins s σ H xs us Q I r q
  obtain ⟨ex, q⟩ := q
  subst ex
  obtain ⟨u, eu, rx⟩ := vals1 r
  subst eu
  cases rx
  obtain ⟨pr, rel⟩ := ents_pairs (P := X.prog) (w := X.w) he
  have dd : s.heap.DictOf (mixKind X.prog X.w) d (List.zipWith (fun (q : Str × V) (e : DictEntry) => ((Sum.inr q.1 : Key), e.val)) kus es.toList) := by
    refine ⟨_, es, n, I.kIn _ _ hl, ⟨rfl, rfl, rfl⟩, rfl, fun e m => ?_, pr, ?_⟩
    · obtain ⟨x, t, e1, e2⟩ := hk.all e (Array.mem_toList_iff.mpr m)
      exact ⟨Sum.inr x, by rw [e1]; exact mixKind_str X.prog X.w x t, e2⟩
    · rw [zip_keys he]
      rw [show (kus.map fun q => (Sum.inr q.1 : Key)) = (kus.map (·.1)).map Sum.inr from (List.map_map ..).symm]
      exact (List.pairwise_map.mpr (hn.imp fun h e => h (Sum.inr.inj e)))
  have z : (tk kus).length ≤ sizeLine := by rw [tk, List.length_map]; exact Nat.le_trans hz (by decide)
  refine kt_call_dict lo dd (by rw [← rel.length]; exact z) fun h' d' hs => ?_
  have hm : (s.heap.objs.size == sysModules) = false := beq_eq_false_iff_ne.mpr (Nat.ne_of_gt I.big)
  exact ⟨.ref s.heap.objs.size, upd H s.heap.objs.size (.dK (tk kus)), I.laid (t' := s.toks) (fun b u e => (hs.2 b (Nat.ne_of_lt (Heap.lt_size e))).trans (Heap.get?_push_of_some _ e)) (Nat.le_refl _)
    (show ObjOk X.prog X.w _ _ _ (.dK (tk kus)) from ⟨z, hm, _, rel, d'⟩), rfl, q _ (I.hok.fresh (Nat.le_refl _))⟩
theorem je_dictG (hl : X.K.lookup d = some ⟨.type "dict", none, .dict es n, #[]⟩) (hk : PySem.W.KeysLit X.w.params es.toList) (lo : (d == sysModules) = false) (he : Ents es.toList kus) (hr : ∀ B : Hp, RpKV X.K B (tk kus) ds) (hgx : Gl X x) (hmx : X.mg x = some (.ref d)) (hgd : Gl X "dict") (hmd : X.mg "dict" = none)
    (hn : (kus.map (·.1)).Nodup := by decide) (hz : kus.length ≤ 1000 := by decide) (hdx : (x == ("__debug__" : Str)) = false := by decide) :
    JE X E (.Call (.Name "dict" p1) [.Name x p2] [] pos) (mC (.dict ds)) := by
  refine pe_imp (pe_callTy (call_dictKD hl hk lo he hn hz) hgd hmd (by decide +kernel) (pa_cons (pe_glob hgx hmx (show RelV (.ref d) (.ref d) from rfl) hdx) pa_nil)) fun σ H Q ⟨F, B, ι, ρ, κ, s, h⟩ => ?_
  refine ⟨rfl, fun p hp => ?_⟩
  obtain ⟨s2, g2⟩ := s.hs.new (o := .dK (tk kus)) hp
  exact h _ _ _ _ g2 s2 (.dic upd_same (hr _))
end
end DL
namespace DL
open L2 PyProof.Rows PySem PySem.Spec
structure MDict (K : PySem.W.Frag) (w : World) (mg : Str → Option Value) (x : Str) (ds : List (D × D)) : Prop where
  ex : ∃ (d : Addr) (es : Array DictEntry) (n : Nat) (kus : List (Str × V)), mg x = some (.ref d) ∧ K.lookup d = some ⟨.type "dict", none, .dict es n, #[]⟩ ∧ PySem.W.KeysLit w.params es.toList ∧ (d == sysModules) = false ∧ Ents es.toList kus ∧ (∀ B : Hp, RpKV K B (tk kus) ds) ∧ (kus.map (·.1)).Nodup ∧ kus.length ≤ 1000
theorem je_mdict {X : Cx} {x : Str} {ds : List (D × D)} {p1 p2 pos : Pos} {E : XK} (M : MDict X.K X.w X.mg x ds) (hgx : Gl X x) (hgd : Gl X "dict") (hmd : X.mg "dict" = none) (hdx : (x == ("__debug__" : Str)) = false := by decide) :
    JE X E (.Call (.Name "dict" p1) [.Name x p2] [] pos) (mC (.dict ds)) := by
  obtain ⟨d, es, n, kus, h1, h2, h3, h4, h5, h6, h7, h8⟩ := M.ex
  exact je_dictG h2 h3 h4 h5 h6 hgx h1 hgd hmd h7 h8 hdx
end DL

namespace DL
open L2 PyProof.Rows PySem PySem.Spec
/-! ### arguments that become cells -/
def mConsC (a : ME) (r : MA) : MA := fun ρ κ => (a ρ κ).bind fun x κ1 => match x with
  | .n xs => (r ρ (κ1 ++ [.lst (xs.map .d)])).bind fun ys κ2 => .ok (.c κ1.length :: ys) κ2
  | x => (r ρ κ1).bind fun ys κ2 => .ok (fz x :: ys) κ2
section
variable {X : Cx} {E : XK} {a : Expr} {es : List Expr} {ma : ME} {mr : MA} {pos : Pos}
theorem ja_consC (ha : JE X E a ma) (hr : JA X E es mr) (hs : starEach (a :: es) X.env = (false, eval a X.env) :: starEach es X.env := by rfl) : JA X E (a :: es) (mConsC ma mr) :=
  pa_imp (pa_cons ha hr hs) fun σ H Q ⟨F, B, ι, ρ, κ, s, h⟩ => by
    unfold mConsC at h
    refine evE s (fun x κ1 e1 v B1 ι1 H1 g1 s1 w1 => ?_) (fun n fs κ1 e1 => by rw [e1] at h; exact h) (fun e => by rw [e] at h; exact h)
    rw [e1] at h
    have key : ∀ {x' : DV} {κ' : Kap} {fl : Bool}, put fl x κ1 = some (x', κ') → PostA X.K X.mg E F B ι H Q (Out.bind (mr ρ κ') fun xs κ2 => .ok (x' :: xs) κ2) → tA X.K X.mg E mr σ H1 (fun vs H2 => Q (v :: vs) H2) := fun {x' κ' fl} ep h => by
      obtain ⟨B1', ι1', s1', g1', w1', _⟩ := s1.put w1 ep
      refine evA (s.step (g1.trans g1') s1') (fun xs κ2 e2 vs B2 ι2 H2 g2 s2 w2 => ?_) (fun n fs κ2 e2 => by rw [e2] at h; exact XW.grow h (g1.trans g1') fun _ m => m) (fun e => by rw [e] at h; exact h)
      rw [e2] at h
      exact h (v :: vs) B2 ι2 H2 ((g1.trans g1').trans g2) s2 (.cons (w1'.grow g2) w2)
    cases x with
    | n xs => exact key (fl := true) rfl h
    | d y => exact key (fl := false) rfl h
    | c j => exact key (fl := false) rfl h
end
/-! ### a, b, c = x, y, z -/
def mPar3 (i j l : Nat) (m : MA) : MS := fun ρ κ => (m ρ κ).bindS fun xs κ1 => match xs with
  | [x, y, z] => .nx (((ρ.set i (some x)).set j (some y)).set l (some z)) κ1
  | _ => .bad
theorem par3_imp {K : PySem.W.Frag} {mg : Str → Option Value} {E : XK} {i j l : Nat} {m : MA} {De : Ends} {σ : L2.St} {H : Hp} (h : tS K mg E (mPar3 i j l m) De σ H) : tPar3 i j l (tA K mg E m) De σ H := by
  obtain ⟨F, B, ι, ρ, κ, s, h⟩ := h
  unfold mPar3 at h
  refine evA s (fun xs κ2 e2 vs B2 ι2 H2 g2 s2 w2 => ?_) (fun n fs κ2 e2 => by rw [e2] at h; exact h) (fun e => by rw [e] at h; exact h)
  rw [e2] at h
  dsimp only [Out.bindS] at h
  split at h
  · cases w2 with
    | cons p q =>
      cases q with
      | cons p' q' =>
        cases q' with
        | cons p'' q'' =>
          cases q''
          exact ⟨_, _, _, rfl, h _ B2 ι2 H2 g2 ((((s.step g2 s2).set i p).set j p').set l p'')⟩
  · exact h.elim
section
variable {X : Cx} {E : XK} {i j l : Nat} {x y z : Str} {a b c : Expr} {m : MA} {px py pz pt pos : Pos} {kt k2 : Nat} {pt2 : Pos}
theorem js_par3 (hc : X.calm = true) (hN : X.N.Nodup) (hi : X.N[i]? = some x) (hj : X.N[j]? = some y) (hl : X.N[l]? = some z) (hij : i ≠ j) (hil : i ≠ l) (hjl : j ≠ l)
    (hx : X.env.scope.names.lookup x = some .local) (hy : X.env.scope.names.lookup y = some .local) (hz : X.env.scope.names.lookup z = some .local) (ha : JA X E [a, b, c] m)
    (hw : swappedStores [.Tuple [.Name x px, .Name y py, .Name z pz] kt pt] (.Tuple [a, b, c] k2 pt2) X.env = pure (some [x, y, z]))
    (hs : swapsWithSole [.Tuple [.Name x px, .Name y py, .Name z pz] kt pt] (.Tuple [a, b, c] k2 pt2) pos.line X.env = pure false := by rfl) :
    JS X E (.Assign [.Tuple [.Name x px, .Name y py, .Name z pz] kt pt] (.Tuple [a, b, c] k2 pt2) pos) (mPar3 i j l m) :=
  ps_imp (ps_par3 hc hN hi hj hl hij hil hjl hx hy hz ha hw hs) fun _ _ _ h => par3_imp h
end
/-! ### a cell that is written no more becomes a datum -/
def mStl (i : Nat) (m : MS) : MS := fun ρ κ => match ρ[i]? with
  | some (some (.c j)) => match κ[j]? with
    | some (.lst ys) => match allD ys with
      | some xs => m (ρ.set i (some (.d (.list xs)))) (κ.set j .dead)
      | none => .bad
    | _ => .bad
  | some (some (.d _)) => m ρ κ
  | _ => .bad
theorem HSt.settle {K : PySem.W.Frag} {F : List Addr} {B : Hp} {ι : List Addr} {H : Hp} {κ : Kap} (s : HSt K F B ι H κ) {j : Nat} {a : Addr} {ys : List DV} {xs : List D} (h1 : ι[j]? = some a) (h2 : κ[j]? = some (.lst ys)) (e : allD ys = some xs) :
    ∃ B', HSt K F B' ι H (κ.set j .dead) ∧ Grow F B ι H B' ι H ∧ Rp K B' (.ref a) (.list xs) := by
  obtain ⟨vs, h3, h4⟩ := s.cel j a _ h1 h2
  have hb := s.out j a h1 (by rw [h2]; simp)
  have b : Same B (upd B a (.lst vs)) := Same.updNew hb
  refine ⟨upd B a (.lst vs), ⟨Same.updL s.ex h3, by rw [List.length_set]; exact s.len, s.nd, fun i c e1 l => ?_, fun c m => ?_, fun i c cl e1 e2 => ?_, s.tr, fun q m => let t := s.tb q m; t.to b rfl (by rw [upd_ne fun z => t.2.2.1 (by rw [z]; exact List.mem_of_getElem? h1)]; exact t.2.1) t.2.2.1 t.2.2.2⟩, ⟨b, fun _ _ h => h, fun _ _ => rfl⟩, .lst upd_same ((allD_ok h4 e).mono b)⟩
  · by_cases q : j = i
    · subst q
      rw [List.getElem?_set_self (List.getElem?_eq_some_iff.mp h2).1] at l
      exact absurd rfl l
    · rw [List.getElem?_set_ne q] at l
      rw [upd_ne (fun (e : c = a) => q (nd_ix s.nd h1 (e ▸ e1)))]
      exact s.out i c e1 l
  · obtain ⟨p1, p2, p3⟩ := s.pro c m
    refine ⟨p1, ?_, p3⟩
    rw [upd_ne (fun (e : c = a) => p3 (e ▸ List.mem_of_getElem? h1))]; exact p2
  · by_cases q : j = i
    · subst q
      rw [List.getElem?_set_self (List.getElem?_eq_some_iff.mp h2).1] at e2
      cases e2; exact True.intro
    · rw [List.getElem?_set_ne q] at e2
      exact (s.cel i c cl e1 e2).mono b (fun _ _ h => h) rfl
section
variable {X : Cx} {E : XK} {st : Stmt} {sts : List Stmt} {m : MS} {i : Nat}
theorem stl_imp {K : PySem.W.Frag} {mg : Str → Option Value} {De : Ends} {σ : L2.St} {H : Hp} (h : tS K mg E (mStl i m) De σ H) : tS K mg E m De σ H := by
  obtain ⟨F, B, ι, ρ, κ, s, h⟩ := h
  unfold mStl at h
  split at h
  · rename_i j e0
    split at h
    · rename_i ys e1
      split at h
      · rename_i xs e2
        obtain ⟨v, hv, a, h1, rfl⟩ := s.loc i _ e0
        obtain ⟨B', s1, g1, r⟩ := s.hs.settle h1 e1 e2
        refine ⟨F, B', ι, _, _, ⟨s1, by rw [List.length_set]; exact s.sl, fun k x ek => ?_⟩, PostS.grow h g1⟩
        by_cases q : i = k
        · subst q
          rw [List.getElem?_set_self (List.getElem?_eq_some_iff.mp e0).1] at ek
          cases ek
          exact ⟨_, hv, r⟩
        · rw [List.getElem?_set_ne q] at ek
          obtain ⟨u, hu, w⟩ := s.loc k x ek
          exact ⟨u, hu, w.grow g1⟩
      · exact h.elim
    · exact h.elim
  · exact ⟨F, B, ι, ρ, κ, s, h⟩
  · exact h.elim
theorem js_stl (h : JS X E st m) : JS X E st (mStl i m) := ps_imp h fun _ _ _ h => stl_imp h
theorem jss_stl (h : JSs X E sts m) : JSs X E sts (mStl i m) := pss_imp h fun _ _ _ h => stl_imp h
end
/-! ### the law's assembly -/
theorem Cal.bad {P : Program} {w : World} {K : PySem.W.Frag} {mg : Str → Option Value} {base : Heap} {k : Nat} {x : Str} {st : Stmt} {ps : List Str} {f : Addr} {fd : FuncData} {nm ql : Str} (Fu : Fun K nm ql st f fd) (b : Binds K fd ps []) (hm : mg x = some (.ref f)) : Cal P w K mg base k x st ps (fun _ _ => .bad) :=
  ⟨⟨f, fd, nm, ql, Fu, b, ⟨fun _ _ _ _ h => by obtain ⟨_, _, _, _, _, _, _, _, h⟩ := h; exact h.elim, fun _ _ _ _ _ _ _ _ _ _ _ _ _ _ h => by obtain ⟨_, _, _, _, _, _, _, _, h⟩ := h; exact h.elim⟩, hm⟩, fun _ _ _ => rfl⟩
theorem Fun.inj {K : PySem.W.Frag} {x q x' q' : Str} {st st' : Stmt} {f : Addr} {fd fd' : FuncData} (a : Fun K x q st f fd) (b : Fun K x' q' st' f fd') : fd = fd' := by
  obtain ⟨oc, od, kV, doc, pm, an, cdv, ct, osl, e, l, _⟩ := a.ex
  obtain ⟨oc', od', kV', doc', pm', an', cdv', ct', osl', e', l', _⟩ := b.ex
  rw [l] at l'
  injection l' with l'
  injection l' with _ _ l' _
  injection l'
theorem Cal.fn {P : Program} {w : World} {K : PySem.W.Frag} {mg : Str → Option Value} {base : Heap} {k : Nat} {x : Str} {st : Stmt} {ps : List Str} {m : MF} {f : Addr} {fd : FuncData} (C : Cal P w K mg base k x st ps m) {nm ql : Str} (Fu : Fun K nm ql st f fd) (hm : mg x = some (.ref f)) : FnG P w K mg base CX0 k f fd ps (spM K mg ps.length m) := by
  obtain ⟨f', fd', _, _, Fu', _, G, hm'⟩ := C.ex
  rw [hm] at hm'
  cases hm'
  rw [Fun.inj Fu Fu']
  exact G
/-- the heap without the tables -/
def noTab (H : Hp) : Hp := fun a => match H a with
  | some (.tbl _) => none
  | o => o
theorem noTab_some {H : Hp} {a : Addr} {o : HO} (h : H a = some o) (n : ∀ ps, o ≠ .tbl ps) : noTab H a = some o := by
  unfold noTab
  rw [h]
  cases o with
  | tbl ps => exact absurd rfl (n ps)
  | _ => rfl
theorem noTab_of {H : Hp} {a : Addr} {o : HO} (h : noTab H a = some o) : H a = some o := by
  unfold noTab at h
  cases q : H a with
  | none => rw [q] at h; cases h
  | some u =>
    rw [q] at h
    cases u with
    | tbl ps => cases h
    | _ => exact h
theorem law_prom {K : PySem.W.Frag} {mg : Str → Option Value} {H : Hp} {a : Addr} {ns : List Int} {m : MF} (hT : ∀ p ∈ tabsOf K, H p.1 = some (.tbl #[])) (hS : SqL K H a (ns.map V.int)) (h : ∃ κ, m [.d (scr (ns.map .int))] [] = .ok (.d (.bool true)) κ) : spM K mg 1 m [.ref a] H (fun v _ => v = .bl true) fun _ _ _ => False := by
  obtain ⟨κ, e⟩ := h
  have hS2 : SqL K (noTab H) a (ns.map V.int) := by
    rcases hS with (h | ⟨o, h⟩) | h
    · exact .inl (.inl (noTab_some h (by intro _ z; cases z)))
    · exact .inl (.inr ⟨o, noTab_some h (by intro _ z; cases z)⟩)
    · exact .inr h
  refine ⟨rfl, [], noTab H, [], [.d (scr (ns.map .int))], [], ⟨fun _ _ => noTab_of, rfl, List.nodup_nil, fun _ _ e => by simp at e, fun _ m => by simp at m, fun _ _ _ e => by simp at e, fun _ m => by simp at m, fun p m => ⟨⟨#[], hT p m, True.intro, fun pos cv z => ?_⟩, ?_, List.not_mem_nil, List.not_mem_nil⟩⟩, .cons (.scr hS2) .nil, ?_⟩
  · have z : codeAmong pos [] = some cv := z
    simp [codeAmong] at z
  · unfold noTab; rw [hT p m]
  rw [e]
  intro v B' ι' H' _ _ w
  cases w
  rfl
end DL

namespace DL
open L2 PyProof.Rows PySem PySem.Spec PySem.Froz

/-- at a: a set of the texts l, which can be walked -/
def TSet (P : Program) (w : World) (h : Heap) (a : Addr) (l : List Str) : Prop :=
  ∃ D : SD, h.get? a = some (sObj "set" D) ∧ TxOk P w D l ∧ l.Nodup ∧ Ris D.2.2.place.toList ∧ (w.params.followText "set-order" = true ∨ D.2.2.led = true)

section
variable {P : Program} {w : World} {A : Around} {E : Value → Shared → Prop} {s : Shared} {a : Addr} {l : List Str}
theorem TSet.keep {h h' : Heap} (t : TSet P w h a l) (k : ∀ o, h.get? a = some o → h'.get? a = some o) : TSet P w h' a l :=
  let ⟨D, e, r⟩ := t
  ⟨D, k _ e, r⟩
theorem addTx_walk (D : SD) (hv : Int) (v : Value) (q : Ris D.2.2.place.toList) : Ris (addTx hv v D).2.2.place.toList ∧ (addTx hv v D).2.2.led = D.2.2.led := by
  obtain ⟨es, ep, t⟩ := D
  have g1 := layNew_ris t es hv v q
  have g2 := layNew_led t es hv v
  show Ris (tailTx ep _ _ _).2.2.place.toList ∧ (tailTx ep _ _ _).2.2.led = t.led
  dsimp only
  generalize layNew t es hv v = Z at g1 g2 ⊢
  have z : ∀ u : SetTable, Ris u.place.toList → u.led = t.led → Ris (tailTx ep Z.1 u Z.2.2.1).2.2.place.toList ∧ (tailTx ep Z.1 u Z.2.2.1).2.2.led = t.led := fun u y1 y2 => by
    unfold tailTx
    split
    · exact ⟨relayAll_ris u Z.1 _, (relayAll_led u Z.1 _).trans y2⟩
    · exact ⟨y1, y2⟩
  refine z _ ?_ ?_
  · split <;> exact g1
  · split <;> exact g2
/-- one text more -/
def addL (l : List Str) (k : Str) : List Str := if k ∈ l then l else k :: l
theorem TSet.add {k : Str} {u : Tok} {Q : Bool → Shared → Prop} (t : TSet P w s.heap a l) (room : l.length + 1 < scanBound)
    (c : ∀ (b : Bool) (h' : Heap), (∀ x, x ≠ a → h'.get? x = s.heap.get? x) → TSet P w h' a (addL l k) → Q b { s with heap := h' }) : wpAny (model P w) A (setAddHashed a (.str k u) (hashStr w k)) Q E s := by
  obtain ⟨D, e, F, nd, r, hl⟩ := t
  by_cases m : k ∈ l
  · have c0 := c false s.heap (fun _ _ => rfl) (by rw [addL, if_pos m]; exact ⟨D, e, F, nd, r, hl⟩)
    obtain ⟨es, ep, tb⟩ := D
    obtain ⟨f1, f2, f3, f4⟩ := F
    have f5 : es.size < scanBound := by rw [show es.size = l.length from f3]; omega
    unfold setAddHashed setAddHashedIn
    refine wpAny_holding <| wpAny_bind <| wpAny_setState_of e rfl f4 ?_
    dsimp only
    rw [byScan_of rfl f5 f1, if_pos rfl]
    unfold setAddByScan
    refine wpAny_bind <| wpAny_bind <| wpAny_rule <| wpAny_bind <| wpAny_setScan_of (is_str (P := P) k u) e rfl f4 f1 ?_
    cases q : List.findIdx? (fun z => (strKind P w).is k z.2) es.toList with
    | none =>
      obtain ⟨z, hz, y⟩ := (f2 k).mp m
      have y2 := List.findIdx?_eq_none_iff.mp q z hz
      rw [y] at y2
      cases y2
    | some j =>
      dsimp only
      exact wpAny_pure (wpAny_pure c0)
  · refine add_x (l := l) e F m room (c true _ (fun x hx => Heap.get?_update_ne _ _ _ _ hx) ?_)
    obtain ⟨w1, w2⟩ := addTx_walk D (hashStr w k) (.str k u) r
    rw [addL, if_neg m]
    exact ⟨_, get_upd _ e rfl, add_ok u F, List.nodup_cons.mpr ⟨m, nd⟩, w1, hl.imp id fun z => w2.trans z⟩
theorem TSet.new {h : Heap} (e : h.get? a = some { cls := .type "set", dict := none, data := .set #[] 0 (.fresh 0 0 (!w.params.followText "set-order")) }) : TSet P w h a [] := by
  refine ⟨(#[], 0, .fresh 0 0 (!w.params.followText "set-order")), e, .nil rfl, List.nodup_nil, List.Pairwise.nil, ?_⟩
  cases q : w.params.followText "set-order"
  · exact .inr rfl
  · exact .inl rfl
end
end DL

namespace DL
open L2 PyProof.Rows PySem PySem.Spec PySem.Froz

/-- the texts of a list, each once -/
def onceL (l : List Str) (xs : List Str) : List Str := xs.foldl addL l
theorem onceL_len : ∀ (xs l : List Str), (onceL l xs).length ≤ l.length + xs.length
  | [], _ => Nat.le_refl _
  | x :: xs, l => by
    have h := onceL_len xs (addL l x)
    have g : (addL l x).length ≤ l.length + 1 := by unfold addL; split <;> simp
    show (onceL (addL l x) xs).length ≤ l.length + (xs.length + 1)
    omega
theorem onceL_mem : ∀ (xs l : List Str) (k : Str), k ∈ onceL l xs ↔ k ∈ l ∨ k ∈ xs
  | [], l, k => by simp [onceL]
  | x :: xs, l, k => by
    have h := onceL_mem xs (addL l x) k
    have g : k ∈ addL l x ↔ k ∈ l ∨ k = x := by
      unfold addL
      split
      · exact ⟨.inl, fun o => o.elim id fun e => by rw [e]; assumption⟩
      · rw [List.mem_cons]; exact Or.comm
    show k ∈ onceL (addL l x) xs ↔ _
    rw [h, g, List.mem_cons, or_assoc]
theorem onceL_nodup : ∀ (xs l : List Str), l.Nodup → (onceL l xs).Nodup
  | [], _, h => h
  | x :: xs, l, h => onceL_nodup xs (addL l x) (by
    unfold addL
    split
    · exact h
    · rename_i m; exact List.nodup_cons.mpr ⟨m, h⟩)

section
variable {P : Program} {w : World} {A : Around} {E : Value → Shared → Prop} {s : Shared} {R : Result → Shared → Prop}
theorem upd_loop {it S : Addr} {fp wr : List Addr} {G : Array GenState → Array GenState → Prop} {n : Nat} {Pv : Nat → Value → Prop} {St : Nat → Shared → Prop} (W : WalksS P w A.in1 it fp wr G n Pv St) (hS : S ∉ fp) (xs : List Str) (hn : n = xs.length)
    (hv : ∀ i v, Pv i v → ∃ k t, xs[i]? = some k ∧ v = .str k t) : ∀ (m i : Nat) (l : List Str) (s : Shared), i + m = n → St i s → TSet P w s.heap S l → l.length + m + 1 < scanBound →
      (∀ s', Moved (S :: wr) G s s' → TSet P w s'.heap S (onceL l (xs.drop i)) → R (.ok (.ret .none)) s') →
      codeAny (model P w) A (.builtin "set.update.loop" ⟨[.ref S, .ref it], []⟩) R s := by
  have nw : S ∉ wr := fun m => hS (W.sub _ m)
  have more : ∀ z ∈ wr, z ∈ S :: wr := fun z m => List.mem_cons_of_mem _ m
  intro m
  induction m with
  | zero =>
    intro i l s e st t b c
    obtain rfl : i = n := e
    refine codeAny_builtin PyProof.Rows.F.entry_set_update_loop ?_
    rw [Around.under_plainId PyProof.Rows.F.plain_set_update_loop]
    refine wpAny_bind (m := pyNext (.ref it)) <| W.done s _ _ st fun s' v => ?_
    have d : xs.drop i = [] := List.drop_of_length_le (Nat.le_of_eq hn.symm)
    have c1 := c s' (v.mono more)
    rw [d] at c1
    exact wpAny_pure (c1 (t.keep fun o q => v.heap S o nw q))
  | succ m ih =>
    intro i l s e st t b c
    have lt : i < n := by omega
    refine codeAny_builtin PyProof.Rows.F.entry_set_update_loop ?_
    rw [Around.under_plainId PyProof.Rows.F.plain_set_update_loop]
    refine wpAny_bind (m := pyNext (.ref it)) <| W.item i s _ _ lt st fun v s1 hp st1 mv => ?_
    obtain ⟨k, u, hk, rfl⟩ := hv i v hp
    have dd : xs.drop i = k :: xs.drop (i + 1) := by
      obtain ⟨h1, h2⟩ := List.getElem?_eq_some_iff.mp hk
      rw [← h2, List.drop_eq_getElem_cons h1]
    have t1 : TSet P w s1.heap S l := t.keep fun o q => mv.heap S o nw q
    refine wpAny_bind (m := holding _ (setAdd S (.str k u))) <| wpAny_holding ?_
    unfold setAdd
    refine wpAny_holding <| wpAny_bind <| (strKind P w).pyHash (is_str (P := P) (w := w) k u) ?_
    refine TSet.add (s := { s1 with toks := s1.toks + 1 }) t1 (by omega) fun bb h' same t2 => ?_
    refine wpAny_pure ⟨plainId_quiet PyProof.Rows.F.plain_set_update_loop _, ih (i + 1) (addL l k) _ (by omega) (W.frame _ s1 _ _ st1 (Nat.le_succ _) fun z hz o q => ?_) t2 (by have := onceL_len [k] l; simp [onceL] at this; omega) fun s2 mv2 t3 => ?_⟩
    · exact (same z fun (y : z = S) => hS (y ▸ hz)).trans q
    · refine c s2 (Moved.trans W.gtrans ((mv.mono more).then_heap (Nat.le_succ _) fun z o hz q => ?_) mv2) ?_
      · exact (same z fun (y : z = S) => hz (by rw [y]; exact List.mem_cons_self)).trans q
      · rw [dd]; exact t3
end
end DL

namespace DL
open L2 PyProof.Rows PySem PySem.Spec PySem.Froz

/-- a new set -/
abbrev nS (w : World) : Obj := { cls := .type "set", dict := none, data := .set #[] 0 (.fresh 0 0 (!w.params.followText "set-order")) }
section
variable {P : Program} {w : World} {A : Around} {E : Value → Shared → Prop} {s : Shared}
set_option maxHeartbeats 3200000 in
theorem set_list {p : Addr} {its : Array Value} {xs : List Str} {Q : Value → Shared → Prop} (no : A.handled = none) (isl : s.heap.IsList p its) (val : StrsAre its.toList xs) (few : xs.length + 1 < scanBound)
    (c : ∀ (h' : Heap) (k : Nat), TSet P w h' s.heap.objs.size (onceL [] xs) → (∀ b o, s.heap.get? b = some o → h'.get? b = some o) → Q (.ref s.heap.objs.size) { s with heap := h', toks := k }) :
    wpAny (model P w) A (call (.type "set") [.ref p]) Q E s := by
  have x1 := PySem.F.called_set.notType
  have x2 := PySem.F.called_set.canCreate
  have x3 := PySem.F.typeCall_set_1 (.ref p)
  have x4 := PySem.F.called_set.made
  have x5 := PySem.F.called_set.sub
  obtain ⟨c0, tl, x6⟩ := PySem.F.called_set.mro
  refine wpAny_call <| codeAny_of_tree ?_
  show wpAny (model P w) _ (callAny (.type "set") ⟨[.ref p], []⟩) _ _ s
  refine wpAny_pure ⟨Code.quiet_builtin _ (by decide +kernel), ?_⟩
  refine codeAny_builtin PySem.F.entry_type_call ?_
  rw [Around.under_plain (weight_type_call_type "set" [.ref p] []) (by rfl)]
  repeat (any_goals (first | assumption | wp_step))
  refine codeAny_mono (code_set_led1 (P := P) (w := w) (.ref p) (E := E) (Q₁ := fun v t => v = .ref s.heap.objs.size ∧ t = { s with heap := s.heap.push (nS w) }) ⟨rfl, rfl⟩) fun r t y => ?_
  cases r with
  | error e => exact y
  | ok fl =>
    cases fl with
    | ret v =>
      obtain ⟨rfl, rfl⟩ := y
      have g0 : (s.heap.push (nS w)).get? s.heap.objs.size = some (nS w) := Heap.get?_push_size _ rfl
      have ty : Shared.TypeIs { s with heap := s.heap.push (nS w) } (.ref s.heap.objs.size) "set" := ⟨_, g0, rfl⟩
      have x7 := PySem.F.called_set.init.lookup
      have x8 := PySem.F.called_set.init.bind (.ref s.heap.objs.size)
      repeat (any_goals (first | assumption | wp_step))
      let Rr : Value → Shared → Prop := fun r t => r = .none ∧ ∃ h' k, t = { s with heap := h', toks := k } ∧ TSet P w h' s.heap.objs.size (onceL [] xs) ∧ ∀ b o, s.heap.get? b = some o → h'.get? b = some o
      refine codeAny_mono (codeAny_call_builtin (R := wants Rr E) PySem.F.called_set.init.plain PySem.F.entry_set_init (check_set_init_1 ty ?_)) fun r2 t2 y2 => ?_
      · obtain ⟨⟨oc, od, oa, os⟩, ge, rfl, nl, rfl⟩ := isl
        have ge2 : (s.heap.push (nS w)).get? p = some ⟨.type "list", od, .seq its nl, os⟩ := Heap.get?_push_of_some _ ge
        have lst : (s.heap.push (nS w)).IsList p its := ⟨_, ge2, rfl, nl, rfl⟩
        have y1 := PySem.F.sub_list_set
        have y2 := PySem.F.sub_list_frozenset
        have y3 : (Value.type "list" == Value.type "dict") = false := by decide
        unfold Builtin.«set.__init__» noKeywords Builtin.Frozenset.updateFrom
        generalize ei : pyIter = pI
        wp_walk
        subst ei
        refine wpAny_pyIter_list lst <| wpAny_bind <| wpAny_runValue ?_
        have lt : p < s.heap.objs.size := Heap.lt_size ge
        have z1 : (s.heap.push (nS w)).objs.size = s.heap.objs.size + 1 := Heap.size_push ..
        have n1 : p ≠ (s.heap.push (nS w)).objs.size := z1 ▸ Nat.ne_of_lt (Nat.lt_succ_of_lt lt)
        have n2 : s.heap.objs.size ∉ [(s.heap.push (nS w)).objs.size, p] := by
          rw [z1]
          intro m
          rcases List.mem_cons.mp m with m | m
          · exact Nat.ne_of_lt (Nat.lt_succ_self _) m
          · exact Nat.ne_of_gt lt (List.mem_singleton.mp m)
        have len : its.size = xs.length := by rw [← StrsAre.len_eq val, Array.length_toList]
        have no3 : A.in1.in1.in1.handled = none := no
        have vv : ∀ (i : Nat) (v : Value), its[i]? = some v → ∃ k t, xs[i]? = some k ∧ v = .str k t := fun i v hv => by
          obtain ⟨t, e⟩ := SS.strs_at val i v ((Array.getElem?_toList ..).trans hv)
          have il : i < xs.length := by rw [← len]; exact (Array.getElem?_eq_some_iff.mp hv).1
          refine ⟨xs[i], t, List.getElem?_eq_getElem il, ?_⟩
          rw [e, List.getD_eq_getElem?_getD, List.getElem?_eq_getElem il]
          rfl
        have g1 : ∀ o, ((s.heap.push (nS w)).push o).get? s.heap.objs.size = some (nS w) := fun o => Heap.get?_push_of_some _ g0
        refine upd_loop (S := s.heap.objs.size) ((Walks.list no3 _ p n1 its).toS) n2 xs len vv its.size 0 [] _ (by omega) ⟨⟨_, Heap.get?_push_size _ rfl, rfl, rfl⟩, lst.push _⟩ (TSet.new (g1 _)) (by rw [len]; simpa using few) fun s1 mv ts => ?_
        obtain ⟨h1, g1, d1, k1, o1⟩ := s1
        obtain rfl : g1 = s.gens := mv.gens
        obtain rfl : d1 = s.drawn := mv.drawn
        obtain rfl : o1 = s.os := mv.os
        refine wpAny_pure (wpAny_pure ⟨rfl, h1, k1, rfl, ts, fun b o q => ?_⟩)
        have lb : b < s.heap.objs.size := Heap.lt_size q
        refine mv.heap b o (fun m => ?_) (Heap.get?_push_of_some _ (Heap.get?_push_of_some _ q))
        rcases List.mem_cons.mp m with m | m
        · exact Nat.ne_of_lt lb m
        · exact Nat.ne_of_lt (Nat.lt_succ_of_lt lb) ((List.mem_singleton.mp m).trans z1)
      · cases r2 with
        | error e => exact y2
        | ok fl2 =>
          cases fl2 with
          | ret r =>
            obtain ⟨rfl, h', k, rfl, ts, kp⟩ := y2
            repeat (any_goals (first | assumption | wp_step))
            exact c _ _ ts kp
          | _ => exact y2.elim
    | _ => exact y.elim
end
end DL

namespace DL
open L2 PyProof.Rows PySem PySem.Spec PySem.Froz

/-! ### rising -/
def txtLe (a b : Str) : Bool := decide (a.cps.toList ≤ b.cps.toList)
def sortS (xs : List Str) : List Str := xs.mergeSort txtLe
theorem txtLe_trans (a b c : Str) (h : txtLe a b = true) (g : txtLe b c = true) : txtLe a c = true := decide_eq_true (List.le_trans (of_decide_eq_true h) (of_decide_eq_true g))
theorem txtLe_total (a b : Str) : (txtLe a b || txtLe b a) = true := by
  rw [Bool.or_eq_true]
  exact (List.le_total a.cps.toList b.cps.toList).imp decide_eq_true decide_eq_true
theorem txtLe_anti (a b : Str) (h : txtLe a b = true) (g : txtLe b a = true) : a = b := by
  have e := List.le_antisymm (of_decide_eq_true h) (of_decide_eq_true g)
  cases a; cases b
  exact congrArg Str.mk (Array.toList_inj.mp e)
theorem sortS_perm {xs ys : List Str} (p : xs.Perm ys) : sortS xs = sortS ys :=
  List.Perm.eq_of_pairwise (le := fun a b => txtLe a b = true) (fun a b _ _ h g => txtLe_anti a b h g) (List.pairwise_mergeSort txtLe_trans txtLe_total xs) (List.pairwise_mergeSort txtLe_trans txtLe_total ys)
    ((List.mergeSort_perm xs txtLe).trans (p.trans (List.mergeSort_perm ys txtLe).symm))
/-- sorted(set(xs)) -/
def sortedL (xs : List Str) : List Str := sortS (onceL [] xs)

theorem perm_sub : ∀ (l m : List Str), l.Nodup → (∀ k ∈ l, k ∈ m) → m.length ≤ l.length → l.Perm m
  | [], m, _, _, h => by rw [List.eq_nil_of_length_eq_zero (Nat.le_zero.mp h)]
  | x :: l, m, nd, sub, h => by
    obtain ⟨n1, n2⟩ := List.nodup_cons.mp nd
    have p := List.perm_cons_erase (sub x List.mem_cons_self)
    have e := p.length_eq
    rw [List.length_cons] at e h
    refine ((perm_sub l (m.erase x) n2 (fun k hk => ?_) (by omega)).cons x).trans p.symm
    exact (List.mem_erase_of_ne (fun (z : k = x) => n1 (z ▸ hk))).mpr (sub k (List.mem_cons_of_mem _ hk))
def txtOf : Value → Str
  | .str k _ => k
  | _ => default
section
variable {P : Program} {w : World} {A : Around} {E : Value → Shared → Prop} {s : Shared} {a : Addr} {l : List Str}
theorem is_txt {k : Str} {v : Value} (h : (strKind P w).is k v = true) : ∃ t, v = .str k t := by
  have h : Value.isStrOf k v = true := h
  cases v <;> simp [Value.isStrOf] at h
  subst h
  exact ⟨_, rfl⟩
theorem txts_of {es : List (Int × Value)} (el : ElemsOf (strKind P w) es) : ∀ v ∈ es.map (·.2), v = .str (txtOf v) (match v with | .str _ t => t | _ => 0) := fun v hv => by
  obtain ⟨e, he, rfl⟩ := List.mem_map.mp hv
  obtain ⟨k, hk, _⟩ := (el e he).1
  obtain ⟨t, e1⟩ := is_txt hk
  rw [e1]
  rfl
theorem perm_txts {D : SD} (F : TxOk P w D l) (nd : l.Nodup) : ((D.1.toList.map (·.2)).map txtOf).Perm l := by
  have sub : ∀ k ∈ l, k ∈ (D.1.toList.map (·.2)).map txtOf := fun k hk => by
    obtain ⟨e, he, q⟩ := (F.mem k).mp hk
    obtain ⟨t, e1⟩ := is_txt q
    exact List.mem_map.mpr ⟨e.2, List.mem_map.mpr ⟨e, he, rfl⟩, by rw [e1]; rfl⟩
  have len : ((D.1.toList.map (·.2)).map txtOf).length = l.length := by
    rw [List.length_map, List.length_map, Array.length_toList]; exact F.sz
  exact (perm_sub _ _ nd sub (Nat.le_of_eq len)).symm
end
end DL

namespace DL
open L2 PyProof.Rows PySem PySem.Spec PySem.Froz PySem.W

section
variable {P : Program} {w : World} {A : Around} {E : Value → Shared → Prop} {s : Shared} {a : Addr} {l : List Str}
abbrev IsTxt (v : Value) (k : Str) : Prop := ∃ t, v = .str k t
theorem each_txt : ∀ vs : List Value, (∀ v ∈ vs, v = .str (txtOf v) (match v with | .str _ t => t | _ => 0)) → EachIs IsTxt vs (vs.map txtOf)
  | [], _ => .nil
  | v :: vs, h => .cons ⟨_, h v List.mem_cons_self⟩ (each_txt vs fun u m => h u (List.mem_cons_of_mem _ m))
theorem each_imp {R S : Value → Str → Prop} (f : ∀ v k, R v k → S v k) : ∀ {vs : List Value} {ks : List Str}, EachIs R vs ks → EachIs S vs ks
  | _, _, .nil => .nil
  | _, _, .cons h t => .cons (f _ _ h) (each_imp f t)
theorem sorted_tset {Q : Value → Shared → Prop} (T : TSet P w s.heap a l) (no : A.handled = none) (few : l.length < scanBound) (room : A.units + 64 < cLine)
    (c : ∀ (t : Shared) (p : Addr) (out : List Value) (n : Nat), (∀ b o, s.heap.get? b = some o → t.heap.get? b = some o) → t.gens = s.gens → t.os = s.os → s.heap.objs.size ≤ p → t.heap.get? p = some (seqObj "list" out.toArray n) → EachIs IsTxt out (sortS l) → Q (.ref p) t) :
    wpAny (model P w) A (call (.builtin "sorted") [.ref a]) Q E s := by
  obtain ⟨D, ge, F, nd, ris, led⟩ := T
  have sz : D.1.size < scanBound := by rw [F.sz]; exact few
  refine Calls.call_function_entry kind_sorted plain_sorted entry_sorted (args_sorted1 _) ?_
  unfold Builtin.«sorted»
  refine wpAny_bind (m := checkCount "sorted" 1 1 _) <| wpAny_pure ?_
  refine wpAny_bind <| collect_set (A := A.in1) no ⟨_, ge, rfl, rfl⟩ F.fit sz ris led fun t vs kp grow gg oo pm => ?_
  have bs : (vs.map txtOf).Perm l := (pm.map txtOf).trans (perm_txts F nd)
  have ev : EachIs IsTxt vs (vs.map txtOf) := each_txt vs fun v m => txts_of F.el v (pm.mem_iff.mp m)
  have lv : vs.length = l.length := by rw [← bs.length_eq, List.length_map]
  have ll : vs.length ≤ sizeLine := by rw [lv]; exact fits_of_scanBound few
  refine wpAny_bind <| wpAny_newList ?_ ll
  have nl : (t.heap.push (seqObj "list" vs.toArray 0)).get? t.heap.objs.size = some (seqObj "list" vs.toArray 0) := Heap.get?_push_size _ rfl
  refine wpAny_bind <| wpAny_holding <| list_sort_data (enc := PyData.str) (R := IsTxt) nl ev (each_imp (fun v k ⟨u, e⟩ => ⟨[], by rw [e]; exact ⟨.str k u, List.not_mem_nil⟩⟩) ev) (.of fun _ _ => by simp [alike]) (.others fun _ => ⟨by simp, by simp⟩) (by rw [List.length_map]; exact ll) (fun b _ => ?_) fun out lo eo => ?_
  · have h1 : (A.in1).units ≤ A.units + 1 := by simp [Around.units, Around.in1]
    have h2 : (PyData.str b).depth = 0 := by simp [PyData.depth]
    rw [h2]; omega
  · obtain ⟨n, gn⟩ := sortedHeap_at (vs := vs) (out := out.toArray) nl
    rw [dataLe_str fun x => x] at eo
    have eo : EachIs IsTxt out (sortS (vs.map txtOf)) := eo
    rw [sortS_perm bs] at eo
    refine wpAny_pure ⟨_, rfl, c _ t.heap.objs.size out n (fun b o q => ?_) gg oo grow gn eo⟩
    have q2 := kp b o q
    have lt := Heap.lt_size q2
    have le : b < (t.heap.push (seqObj "list" vs.toArray 0)).objs.size := by rw [size_push']; exact Nat.lt_succ_of_lt lt
    have e1 := sortedHeap_old (vs := vs) (out := out.toArray) (Nat.ne_of_lt lt) le
    exact e1.trans (Heap.get?_push_of_some _ q2)
end
end DL

namespace DL
open L2 PyProof.Rows PySem PySem.Spec PySem.Froz PySem.W

/-- the set of texts at p -/
def hoSet (P : Program) (w : World) (p : Addr) (l : List Str) : HO := .ext fun h => TSet P w h p l
theorem each_vals : ∀ {vs : List Value} {ks : List Str}, EachIs IsTxt vs ks → Vals (ks.map V.str) vs
  | _, _, .nil => .nil
  | _, _, .cons ⟨t, e⟩ r => .cons ⟨t, e⟩ (each_vals r)
section
variable {X : Cx}
def rSetOf (P : Program) (w : World) : List V → Hp → VK → Prop := fun vs H Q => ∃ (a : Addr) (xs : List Str), vs = [.ref a] ∧ H a = some (.lst (xs.map V.str)) ∧ xs.length + 1 < scanBound ∧ ∀ p, H p = none → Q (.ref p) (upd H p (hoSet P w p (onceL [] xs)))
theorem cr_setOf (hc : X.calm = true) : CallR X (.type "set") (rSetOf X.prog X.w) := by
  intro pins s σ H vs us Q I r h
  obtain ⟨a, xs, rfl, ha, few, q⟩ := h
  rw [Vals.ref1 r]
  obtain ⟨its, rv, pl, _⟩ := I.list (.inl (.inl ha))
  have sv : StrsAre its.toArray.toList xs := by simpa using strsAre_of rv
  refine set_list (I.ok.hd hc) pl.isList sv few fun h' k ts kp => ?_
  have new : ObjOk X.prog X.w (upd H s.heap.objs.size (hoSet X.prog X.w s.heap.objs.size (onceL [] xs))) h' s.heap.objs.size (hoSet X.prog X.w s.heap.objs.size (onceL [] xs)) :=
    ⟨ts, let ⟨_, e, _⟩ := ts; ⟨_, e⟩, fun _ _ t k => TSet.keep t k⟩
  exact ⟨.ref _, _, I.laid (t' := k) kp (Nat.le_refl _) new, rfl, q _ (I.hok.fresh (Nat.le_refl _))⟩
def rSortOf (P : Program) (w : World) : List V → Hp → VK → Prop := fun vs H Q => ∃ (a : Addr) (l : List Str), vs = [.ref a] ∧ H a = some (hoSet P w a l) ∧ l.length < scanBound ∧ ∀ p, H p = none → Q (.ref p) (upd H p (.lst ((sortS l).map V.str)))
theorem cr_sortOf (hc : X.calm = true) (hu : X.A.units + 64 < cLine) : CallR X (.builtin "sorted") (rSortOf X.prog X.w) := by
  intro pins s σ H vs us Q I r h
  obtain ⟨a, l, rfl, ha, few, q⟩ := h
  have T : TSet X.prog X.w s.heap a l := (I.hok a _ ha).1
  rw [Vals.ref1 r]
  refine sorted_tset T (I.ok.hd hc) few hu fun t p out n kp gg oo lp gp eo => ?_
  have lo : ((sortS l).map V.str).length ≤ sizeLine := by
    rw [List.length_map, sortS, List.length_mergeSort]; exact fits_of_scanBound few
  have fresh : H p = none := I.hok.fresh lp
  have J : Inv X pins σ (upd H p (.lst ((sortS l).map V.str))) t := I.call' (ch := []) oo (Un.laid kp lp fresh) (I.hok.laid kp lp ⟨lo, out, n, each_vals eo, gp⟩) (by rw [gg]; exact I.bare) fun _ z => nomatch z
  exact ⟨.ref p, _, J, rfl, q p fresh⟩
end
/-- sorted(set(..)) in one -/
def rSortSet (P : Program) (w : World) : List V → Hp → VK → Prop := fun vs H Q => rSetOf P w vs H fun v H1 => rSortOf P w [v] H1 Q
def sortSetD (κ : Kap) (xs : List DV) : Option DV := match xs with
  | [x] => (lv κ x).bind fun ys => (strsD ys).bind fun ks => if ks.length < 4000 then some (.n ((sortedL ks).map .str)) else none
  | _ => none
theorem strs_all {B : Hp} {K : PySem.W.Frag} : ∀ ks : List Str, RpAll K B (ks.map V.str) (ks.map PyData.str)
  | [] => .nil
  | k :: ks => .cons (.str k) (strs_all ks)
theorem sortSetI {K : PySem.W.Frag} {P : Program} {w : World} : CalI K (rSortSet P w) sortSetD := fun F B ι H κ vs xs z s w e Q q => by
  unfold sortSetD at e
  split at e
  · rename_i x
    cases e1 : lv κ x with
    | none => rw [e1] at e; cases e
    | some ys =>
      rw [e1] at e
      simp only [Option.bind_some] at e
      cases e2 : strsD ys with
      | none => rw [e2] at e; cases e
      | some ks =>
        rw [e2] at e
        simp only [Option.bind_some] at e
        split at e
        · rename_i few
          cases e
          cases w with
          | cons w1 w2 =>
            cases w2
            obtain ⟨a, us, rfl, h1, r⟩ := lv_ok (F := F) s w1.toV e1
            rw [strs_ok r e2] at h1
            refine ⟨a, ks, rfl, h1, by unfold scanBound; omega, fun p hp => ⟨p, onceL [] ks, rfl, upd_same, ?_, fun t ht => ?_⟩⟩
            · have := onceL_len ks []
              simp only [List.length_nil, Nat.zero_add] at this
              unfold scanBound; omega
            · obtain ⟨s1, g1, _⟩ := s.loose (o := hoSet P _ p (onceL [] ks)) hp
              exact newQ s1 (strs_all _) (fun v' B' ι' H' g s' w' => q v' B' ι' H' (g1.trans g) s' w') t ht
        · cases e
  · cases e
section
variable {X : Cx} {E : XK} {e : Expr} {ma : MA} {p1 p2 pos1 pos2 : Pos}
theorem je_sortset (hc : X.calm = true) (hu : X.A.units + 64 < cLine) (g1 : Gl X "sorted") (m1 : X.mg "sorted" = none) (g2 : Gl X "set") (m2 : X.mg "set" = none) (ha : JA X E [e] ma)
    (he : starEach [e] X.env = (false, eval e X.env) :: starEach [] X.env := by rfl) : JE X E (.Call (.Name "sorted" p1) [.Call (.Name "set" p2) [e] [] pos2] [] pos1) (mCal sortSetD ma) := by
  have h1 : PE X (.Call (.Name "set" p2) [e] [] pos2) (tCB (rSetOf X.prog X.w) (tA X.K X.mg E ma)) := pe_callTy (cr_setOf hc) g2 m2 (by decide +kernel) ha (by decide) (by decide) he rfl
  have h2 := pe_callB (pos := pos1) (p := p1) (cr_sortOf hc hu) g1 m1 (by decide +kernel) (pa_cons h1 pa_nil) (by decide) (by decide) (by rfl) (by rfl)
  exact pe_imp h2 fun σ H Q h => cal_imp (sortSetI (P := X.prog) (w := X.w)) h
end
end DL

namespace DL
open L2 PyProof.Rows PySem PySem.Spec

/-! ### comprehensions of two clauses -/
def lcGo2 (g : MG) (t : MT) (src1 : MI) (vs1 : List Nat) (g1 : MG) (t1 : MT) (el : ME) (ρw : Rho) : List D → List D → Kap → Out DV
  | [], acc, κ => .ok (.n acc) κ
  | d :: r, acc, κ => match g (.d d) ρw κ with
    | none => .bad
    | some (ρ1, κ1) => (noex (t ρ1 κ1)).bind fun b κ2 => if b = true then (noex (src1 ρ1 κ2)).bind fun ds1 κ3 => (lcGo g1 t1 el (wipeR ρ1 vs1) ds1 acc κ3).bind fun v κ4 => match v with
          | .n acc2 => lcGo2 g t src1 vs1 g1 t1 el ρw r acc2 κ4
          | _ => .bad
      else lcGo2 g t src1 vs1 g1 t1 el ρw r acc κ2
def mLc2 (src : MI) (g : MG) (t : MT) (src1 : MI) (vs1 : List Nat) (g1 : MG) (t1 : MT) (el : ME) (vs : List Nat) : ME := fun ρ κ => (src ρ κ).bind fun ds κ1 => lcGo2 g t src1 vs1 g1 t1 el (wipeR ρ vs) ds [] κ1
section
variable {X : Cx} {E : XK}
theorem lc2_imp {K : PySem.W.Frag} {mg : Str → Option Value} {E : XK} {src src1 : MI} {g g1 : MG} {t t1 : MT} {el : ME} {ts ts1 vs vs1 : List Nat} (ht : ∀ i ∈ ts, i ∈ vs) (ht1 : ∀ i ∈ ts1, i ∈ vs1) {σ : L2.St} {H : Hp} {Q : VK}
    (h : tM K mg E (mLc2 src g t src1 vs1 g1 t1 el vs) σ H Q) :
    tLc2 (tI K mg E src) (tG K g ts) (tT K mg E0 t) (tI K mg E0 src1) (tG K g1 ts1) (tT K mg E0 t1) (tM K mg E0 el) vs vs1 σ H Q := by
  obtain ⟨F, B, ι, ρ, κ, s, h⟩ := h
  unfold mLc2 at h
  refine ⟨F, B, ι, ρ, κ, s, ?_⟩
  cases q : src ρ κ with
  | bad => rw [q] at h; exact h
  | ex n fs κ' => rw [q] at h; exact h
  | ok ds κ1 =>
    rw [q] at h
    have h : PostE K mg E F B ι H Q (lcGo2 g t src1 vs1 g1 t1 el (wipeR ρ vs) ds [] κ1) := h
    intro J B1 ι1 H1 gr1 s1 y Dl hD
    obtain ⟨sD, gD, hDF⟩ := s1.tmp (o := .lst []) hD
    let Inv2 : Nat → Nat → Hp → Prop := fun i m H' => ∃ B' ι' κ' acc vacc, Grow F B1 ι1 H1 B' ι' H' ∧ HSt K (Dl :: F) B' ι' H' κ' ∧ H' Dl = some (.lst vacc) ∧ RpAll K B' vacc acc ∧ m + i = ds.length ∧
      PostE K mg E F B' ι' H' Q (lcGo2 g t src1 vs1 g1 t1 el (wipeR ρ vs) (ds.drop i) acc κ')
    refine ⟨Inv2, ⟨ds.length, B1, ι1, κ1, [], [], gD, sD, upd_same, .nil, rfl, PostE.grow h (gr1.trans gD)⟩, ?_⟩
    rintro i m H' ⟨B', ι', κ', acc, vacc, g2, s2, hL, ra, em, h2⟩
    obtain ⟨y1, y2⟩ := y (Dl :: F) i B' ι' H' κ' (fun _ m => List.mem_cons_of_mem _ m) (g2.less fun _ m => nomatch m) s2
    obtain ⟨p1, p2, p3⟩ := s2.pro Dl (List.mem_cons_self ..)
    cases e : ds[i]? with
    | none =>
      have hl : ds.length ≤ i := List.getElem?_eq_none_iff.mp e
      refine .inl ⟨y2 hl, ?_⟩
      rw [List.drop_eq_nil_of_le hl] at h2
      exact h2 (.ref Dl) B' ι' H' Grow.refl (s2.less fun _ m => List.mem_cons_of_mem _ m) ⟨Dl, vacc, rfl, hL, p2, p3, hDF, ra⟩
    | some d =>
      have hl : i < ds.length := (List.getElem?_eq_some_iff.mp e).1
      obtain ⟨y3, y4⟩ := y1 d e
      have ed : ds.drop i = d :: ds.drop (i + 1) := by
        rw [List.drop_eq_getElem_cons hl]
        rw [List.getElem?_eq_getElem hl] at e
        cases e; rfl
      rw [ed] at h2
      simp only [lcGo2] at h2
      refine .inr ⟨y3, Inv2 (i + 1) (m - 1), fun H' hN => ⟨m - 1, by omega, hN⟩, fun x H'' hy => ?_⟩
      obtain ⟨B2, g3, s3, r⟩ := y4 x H'' hy
      have g3' : Grow F B' ι' H' B2 ι' H'' := g3.less fun _ m => List.mem_cons_of_mem _ m
      have sw : SOk K (Dl :: F) B2 ι' (wipe σ vs) H'' (wipeR ρ vs) κ' := (s.step (gr1.trans (g2.trans g3')) s3).wipe vs
      refine ⟨Dl :: F, B2, ι', wipeR ρ vs, κ', .d d, sw, r, ?_⟩
      cases q2 : g (.d d) (wipeR ρ vs) κ' with
      | none => rw [q2] at h2; exact h2
      | some p =>
        obtain ⟨ρ2, κ2⟩ := p
        rw [q2] at h2
        intro σ2 B4 ι4 H2 ew g4 s4
        have g4' : Grow F B2 ι' H'' B4 ι4 H2 := g4.less fun _ m => List.mem_cons_of_mem _ m
        have hlen : σ2.length = σ.length := by rw [ew.1, wipe_length]
        refine ⟨wipe_eq hlen ew.2 ht, ?_⟩
        dsimp only at h2
        refine evT s4 (fun b κ3 e3 B5 ι5 H5 g5 s5 => ?_) (fun n fs κ3 e3 => by rw [e3] at h2; exact h2.elim) (fun e3 => by rw [e3] at h2; exact h2)
        rw [e3] at h2
        have g5' : Grow F B4 ι4 H2 B5 ι5 H5 := g5.less fun _ m => List.mem_cons_of_mem _ m
        have hL5 : H5 Dl = some (.lst vacc) := (g5.fr Dl (List.mem_cons_self ..)).trans ((g4.fr Dl (List.mem_cons_self ..)).trans ((g3.fr Dl (List.mem_cons_self ..)).trans hL))
        have gb := g3'.trans (g4'.trans g5')
        cases b with
        | false =>
          rw [if_neg Bool.false_ne_true]
          exact ⟨B5, ι5, κ3, acc, vacc, g2.trans gb, s5, hL5, ra.mono gb.b, by omega, PostE.grow h2 gb⟩
        | true =>
          rw [if_pos rfl]
          have h2 : PostE K mg E F B' ι' H' Q ((noex (src1 ρ2 κ3)).bind fun ds1 κ3 => (lcGo g1 t1 el (wipeR ρ2 vs1) ds1 acc κ3).bind fun v κ4 => match v with
            | .n acc2 => lcGo2 g t src1 vs1 g1 t1 el (wipeR ρ vs) (ds.drop (i + 1)) acc2 κ4
            | _ => .bad) := h2
          have so5 := s4.step g5 s5
          refine ⟨Dl :: F, B5, ι5, ρ2, κ3, so5, ?_⟩
          cases q5 : src1 ρ2 κ3 with
          | bad => rw [q5] at h2; exact h2
          | ex n fs κ' => rw [q5] at h2; exact h2.elim
          | ok ds1 κ4 =>
            rw [q5] at h2
            dsimp only [noex, Out.bind] at h2
            intro J1 B6 ι6 H6 g6 s6 yy
            have g6' : Grow F B5 ι5 H5 B6 ι6 H6 := g6.less fun _ m => List.mem_cons_of_mem _ m
            let Co : DV → Kap → Out DV := fun v κ4 => match v with
              | .n acc2 => lcGo2 g t src1 vs1 g1 t1 el (wipeR ρ vs) (ds.drop (i + 1)) acc2 κ4
              | _ => .bad
            let Inv1 : Nat → Nat → Hp → Prop := fun j k H' => ∃ Bb ιb κb acc vacc, Grow (Dl :: F) B5 ι5 H5 B6 ι6 H6 ∧ Grow F B6 ι6 H6 Bb ιb H' ∧ HSt K (Dl :: F) Bb ιb H' κb ∧ H' Dl = some (.lst vacc) ∧ RpAll K Bb vacc acc ∧ k + j = ds1.length ∧
              PostE K mg E F Bb ιb H' Q ((lcGo g1 t1 el (wipeR ρ2 vs1) (ds1.drop j) acc κb).bind Co)
            refine ⟨Inv1, ⟨ds1.length, B6, ι6, κ4, acc, vacc, g6, Grow.refl, s6, (g6.fr Dl (List.mem_cons_self ..)).trans hL5, ra.mono (gb.trans g6').b, rfl, PostE.grow h2 (gb.trans g6')⟩, ?_⟩
            rintro j k H7 ⟨B7, ι7, κ7, acc7, vacc7, _, g7, s7, hL7, ra7, em7, h7⟩
            obtain ⟨z1, z2⟩ := yy (Dl :: F) j B7 ι7 H7 κ7 (fun _ m => m) (g7.less fun _ m => nomatch m) s7
            cases e7 : ds1[j]? with
            | none =>
              have hl7 : ds1.length ≤ j := List.getElem?_eq_none_iff.mp e7
              refine .inl ⟨z2 hl7, ?_⟩
              rw [List.drop_eq_nil_of_le hl7] at h7
              exact ⟨B7, ι7, κ7, acc7, vacc7, g2.trans (gb.trans (g6'.trans g7)), s7, hL7, ra7, by omega, h7⟩
            | some d1 =>
              have hl7 : j < ds1.length := (List.getElem?_eq_some_iff.mp e7).1
              obtain ⟨z3, z4⟩ := z1 d1 e7
              have ed1 : ds1.drop j = d1 :: ds1.drop (j + 1) := by
                rw [List.drop_eq_getElem_cons hl7]
                rw [List.getElem?_eq_getElem hl7] at e7
                cases e7; rfl
              rw [ed1] at h7
              simp only [lcGo] at h7
              refine .inr ⟨z3, Inv1 (j + 1) (k - 1), fun H' hN => ⟨k - 1, by omega, hN⟩, fun x1 H8 hy1 => ?_⟩
              obtain ⟨B8, g8, s8, r8⟩ := z4 x1 H8 hy1
              have g8' : Grow F B7 ι7 H7 B8 ι7 H8 := g8.less fun _ m => List.mem_cons_of_mem _ m
              have sw1 : SOk K (Dl :: F) B8 ι7 (wipe σ2 vs1) H8 (wipeR ρ2 vs1) κ7 := (SOk.step (F := F) ⟨so5.hs.less fun _ m => List.mem_cons_of_mem _ m, so5.sl, so5.loc⟩ (g6'.trans (g7.trans g8')) s8).wipe vs1
              refine ⟨Dl :: F, B8, ι7, wipeR ρ2 vs1, κ7, .d d1, sw1, r8, ?_⟩
              cases q8 : g1 (.d d1) (wipeR ρ2 vs1) κ7 with
              | none => rw [q8] at h7; exact h7
              | some p =>
                obtain ⟨ρ9, κ9⟩ := p
                rw [q8] at h7
                intro σ9 B9 ι9 H9 ew9 g9 s9
                have g9' : Grow F B8 ι7 H8 B9 ι9 H9 := g9.less fun _ m => List.mem_cons_of_mem _ m
                have hlen9 : σ9.length = σ2.length := by rw [ew9.1, wipe_length]
                refine ⟨wipe_eq hlen9 ew9.2 ht1, ?_⟩
                dsimp only at h7
                refine evT s9 (fun b κa ea Ba ιa Ha ga sa => ?_) (fun n fs κa ea => by rw [ea] at h7; exact h7.elim) (fun ea => by rw [ea] at h7; exact h7)
                rw [ea] at h7
                have ga' : Grow F B9 ι9 H9 Ba ιa Ha := ga.less fun _ m => List.mem_cons_of_mem _ m
                have hLa : Ha Dl = some (.lst vacc7) := (ga.fr Dl (List.mem_cons_self ..)).trans ((g9.fr Dl (List.mem_cons_self ..)).trans ((g8.fr Dl (List.mem_cons_self ..)).trans hL7))
                have gc := g8'.trans (g9'.trans ga')
                cases b with
                | false =>
                  rw [if_neg Bool.false_ne_true]
                  exact ⟨Ba, ιa, κa, acc7, vacc7, g6, g7.trans gc, sa, hLa, ra7.mono gc.b, by omega, PostE.grow h7 gc⟩
                | true =>
                  rw [if_pos rfl]
                  have h7 : PostE K mg E F B7 ι7 H7 Q (((noex (el ρ9 κa)).bind fun y κ3 => match fz y with
                    | .d e => if acc7.length < 1000000 then lcGo g1 t1 el (wipeR ρ2 vs1) (ds1.drop (j + 1)) (acc7 ++ [e]) κ3 else .bad
                    | _ => .bad).bind Co) := h7
                  refine evE (s9.step ga sa) (fun y κb eb v Bb ιb Hb gb' sb wb => ?_) (fun n fs κb eb => by rw [eb] at h7; exact h7.elim) (fun eb => by rw [eb] at h7; exact h7)
                  rw [eb] at h7
                  obtain ⟨Bc, sc, gc', wc⟩ := sb.fz wb
                  have gd := gb'.trans gc'
                  have gd' : Grow F Ba ιa Ha Bc ιb Hb := gd.less fun _ m => List.mem_cons_of_mem _ m
                  have h7 : PostE K mg E F B7 ι7 H7 Q ((match fz y with
                    | .d e => if acc7.length < 1000000 then lcGo g1 t1 el (wipeR ρ2 vs1) (ds1.drop (j + 1)) (acc7 ++ [e]) κb else .bad
                    | _ => .bad).bind Co) := h7
                  cases qf : fz y with
                  | c a => rw [qf] at h7; exact h7.elim
                  | n a => rw [qf] at h7; exact h7.elim
                  | d e5 =>
                    rw [qf] at h7 wc
                    by_cases hacc : acc7.length < 1000000
                    · dsimp only at h7
                      rw [if_pos hacc] at h7
                      obtain ⟨sd, gdd⟩ := sc.setP (o := .lst (vacc7 ++ [v])) hDF
                      exact ⟨vacc7, (gb'.fr Dl (List.mem_cons_self ..)).trans hLa, by rw [ra7.len]; exact Nat.lt_of_lt_of_le hacc (by decide), Bc, ιb, κb, acc7 ++ [e5], vacc7 ++ [v], g6, (g7.trans gc).trans (gd'.trans gdd), sd, upd_same, (ra7.mono (gc.trans gd').b).append (.cons wc .nil), by omega, PostE.grow h7 (gc.trans (gd'.trans gdd))⟩
                    · dsimp only at h7
                      rw [if_neg hacc] at h7; exact h7.elim
theorem je_lc2 {elt tg iter tg1 iter1 : Expr} {ifs ifs1 : List Expr} {scope : Scope} {own : List (Str × Nat)} {vs1 : List Nat} {pos : Pos} {src src1 : MI} {g g1 : MG} {t t1 : MT} {el : ME} {ts ts1 : List Nat} (hc : X.calm = true) (hN : X.N.Nodup) (hi : JI X E tg iter src) (ok : BlkOk X.N X.env.scope scope own)
    (hg : ∀ (s : Shared) (H : Hp) (C : Addr) (cl : List (Str × Addr)) (fp : List Addr), JG (X.blk s H scope (compEnvC scope cl C X.env) fp) tg g ts) (ht : ∀ (s : Shared) (H : Hp) (C : Addr) (cl : List (Str × Addr)) (fp : List Addr), JTs (X.blk s H scope (compEnvC scope cl C X.env) fp) E0 ifs t)
    (hi1 : ∀ (s : Shared) (H : Hp) (C : Addr) (cl : List (Str × Addr)) (fp : List Addr), JI (X.blk s H scope (compEnvC scope cl C X.env) fp) E0 tg1 iter1 src1)
    (hg1 : ∀ (s : Shared) (H : Hp) (C : Addr) (cl : List (Str × Addr)) (fp : List Addr), JG (X.blk s H scope (compEnvC scope cl C X.env) fp) tg1 g1 ts1) (ht1 : ∀ (s : Shared) (H : Hp) (C : Addr) (cl : List (Str × Addr)) (fp : List Addr), JTs (X.blk s H scope (compEnvC scope cl C X.env) fp) E0 ifs1 t1)
    (he : ∀ (s : Shared) (H : Hp) (C : Addr) (cl : List (Str × Addr)) (fp : List Addr), JE (X.blk s H scope (compEnvC scope cl C X.env) fp) E0 elt el) (hts : ∀ i ∈ ts, i ∈ own.map (·.2) := by decide) (hts1 : ∀ i ∈ ts1, i ∈ vs1 := by decide) (hv : ∀ i ∈ vs1, i ∈ own.map (·.2) := by decide)
    (hs : ∀ x, foldedSetIterable iter X.env x = pure x := by intro _; rfl) (hs1 : ∀ env x, foldedSetIterable iter1 env x = pure x := by intro _ _; rfl) :
    JE X E (.ListComp elt [⟨tg, iter, ifs, 0⟩, ⟨tg1, iter1, ifs1, 0⟩] scope pos) (mLc2 src g t src1 vs1 g1 t1 el (own.map (·.2))) :=
  pe_imp (pe_lc2 hc hN hi ok hv hg ht hi1 hg1 ht1 he hs hs1) fun _ _ _ h => lc2_imp hts hts1 h
end
end DL

namespace DL
open L2 PyProof.Rows PySem PySem.Spec

/-! ### x += e, of a number or a text -/
def augF : D → D → Option D
  | .int a, .int b => some (.int (a + b))
  | .str a, .str b => if a.length + b.length ≤ 16000000 then some (.str (a ++ b)) else none
  | _, _ => none
def mAug (i : Nat) (m : ME) : MS := fun ρ κ => match ρ[i]? with
  | some (some (.d x)) => (m ρ κ).bindS fun y κ1 => match y with
    | .d y => match augF x y with
      | some z => .nx (ρ.set i (some (.d z))) κ1
      | none => .bad
    | _ => .bad
  | _ => .bad
def rAug : TIp := fun x y H Q => (∃ a b, x = .int a ∧ y = .int b ∧ Q (.int (a + b)) H) ∨ ∃ a b : Str, x = .str a ∧ y = .str b ∧ a.length + b.length ≤ sizeLine ∧ Q (.str (a ++ b)) H
section
variable {X : Cx} {E : XK}
theorem ip_aug : PIp X .Add rAug := by
  intro pins s σ H x y v u Q I r1 r2 h
  rcases h with ⟨a, b, rfl, rfl, q⟩ | ⟨a, b, rfl, rfl, z, q⟩
  · exact ip_add pins s σ H _ _ v u Q I r1 r2 ⟨a, b, rfl, rfl, q⟩
  · obtain ⟨t, rfl⟩ := r1
    obtain ⟨t', rfl⟩ := r2
    exact PyProof.Rows.iadd_str (fun t2 k => ⟨.str _, H, I.tok _, ⟨_, rfl⟩, q⟩) z
theorem aug_imp {K : PySem.W.Frag} {mg : Str → Option Value} {i : Nat} {m : ME} {De : Ends} {σ : L2.St} {H : Hp} (h : tS K mg E (mAug i m) De σ H) : tAug i (tM K mg E m) rAug De σ H := by
  obtain ⟨F, B, ι, ρ, κ, s, h⟩ := h
  unfold mAug at h
  split at h
  · rename_i x e
    obtain ⟨v, ev, wv⟩ := s.loc i _ e
    refine ⟨v, ev, ?_⟩
    refine evE s (fun y κ1 e1 u B1 ι1 H1 g1 s1 w1 => ?_) (fun n fs κ1 e1 => by rw [e1] at h; exact h) (fun e => by rw [e] at h; exact h)
    rw [e1] at h
    dsimp only [Out.bindS] at h
    split at h
    · rename_i y
      split at h
      · rename_i z ez
        have fin : ∀ w, WOk K B1 ι1 w (.d z) → De.nx (σ.set i (some w)) H1 := fun w ww => h _ B1 ι1 H1 g1 ((s.step g1 s1).set i ww)
        unfold augF at ez
        split at ez
        · cases ez; cases wv; cases w1
          exact .inl ⟨_, _, rfl, rfl, fin _ (.int _)⟩
        · split at ez
          · rename_i hl
            cases ez; cases wv; cases w1
            exact .inr ⟨_, _, rfl, rfl, Nat.le_trans hl (by decide), fin _ (.str _)⟩
          · cases ez
        · cases ez
      · exact h.elim
    · exact h.elim
  · exact h.elim
theorem js_aug {i : Nat} {x : Str} {e : Expr} {m : ME} {pos pos' : Pos} (hN : X.N.Nodup) (hi : X.N[i]? = some x) (hx : Loc X.env.scope x) (he : JE X E e m) (hf : X.fn x = true ∨ X.env.scope.names.lookup x = some .local := by first | exact .inl rfl | exact .inr rfl | assumption) :
    JS X E (.AugAssign (.Name x pos') .Add e pos) (mAug i m) := ps_imp (ps_aug hN hi hx he ip_aug hf) fun _ _ _ h => aug_imp h
end
/-! ### found.extend(..), text.index(..) -/
def extF (ys xs : List DV) : Option (DV × List DV) := match xs with
  | [.d (.list zs)] => if ys.length + zs.length ≤ 1000000 then some (.d .none, ys ++ zs.map .d) else none
  | _ => none
theorem pr_d {K : PySem.W.Frag} {B : Hp} {ι : List Addr} : ∀ {vs : List V} {zs : List D}, RpAll K B vs zs → Paired (WOk K B ι) vs (zs.map .d)
  | _, _, .nil => .nil
  | _, _, .cons h r => .cons h (pr_d r)
section
def CelJ (r : V → List V → Hp → VK → Prop) (f : List DV → List DV → Option (DV × List DV)) : Prop :=
  ∀ (K : PySem.W.Frag) (B : Hp) (ι : List Addr) (H : Hp) (a : Addr) (us ws : List V) (ys xs : List DV) (z : DV) (ys' : List DV), Same B H → H a = some (.lst us) → Paired (WOk K B ι) us ys → Paired (WOk K B ι) ws xs → f ys xs = some (z, ys') →
    ∀ Q : VK, (∀ v us', WOk K B ι v z → Paired (WOk K B ι) us' ys' → Q v (upd H a (.lst us'))) → r (.ref a) ws H Q
variable {K : PySem.W.Frag} {mg : Str → Option Value} {E : XK}
theorem cmj_imp {r : V → List V → Hp → VK → Prop} {f : List DV → List DV → Option (DV × List DV)} {mo : ME} {ma : MA} (hi : CelJ r f) {σ : L2.St} {H : Hp} {Q : VK} (h : tM K mg E (mCm f mo ma) σ H Q) : tBM K "list" r (tM K mg E mo) (tA K mg E ma) σ H Q := by
  obtain ⟨F, B, ι, ρ, κ, s, h⟩ := h
  unfold mCm at h
  refine evE s (fun x κ1 e1 v B1 ι1 H1 g1 s1 w1 => ?_) (fun n fs κ1 e1 => by rw [e1] at h; exact h) (fun e => by rw [e] at h; exact h)
  rw [e1] at h
  dsimp only [Out.bind] at h
  split at h
  · rename_i i
    split at h
    · rename_i ys0 e0
      obtain ⟨a, h1, rfl⟩ := w1
      obtain ⟨us0, h0, _⟩ := s1.cel i a _ h1 e0
      refine ⟨.inl ⟨rfl, us0, lst1 h0⟩, ?_⟩
      replace h : PostE K mg E F B ι H Q ((ma ρ κ1).bind fun xs κ2 => match κ2[i]? with
        | some (.lst ys) => match f ys xs with
          | some (z, ys') => .ok z (κ2.set i (.lst ys'))
          | none => .bad
        | _ => .bad) := h
      refine evA (s.step g1 s1) (fun xs κ2 e2 ws B2 ι2 H2 g2 s2 w2 => ?_) (fun n fs κ2 e2 => by rw [e2] at h; exact XW.grow h g1 fun _ m => m) (fun e => by rw [e] at h; exact h)
      rw [e2] at h
      dsimp only [Out.bind] at h
      split at h
      · rename_i ys e3
        split at h
        · rename_i z ys' e4
          have h2 := g2.i i a h1
          obtain ⟨us, h3, p3⟩ := s2.cel i a _ h2 e3
          refine hi K B2 ι2 H2 a us ws ys xs z ys' s2.ex h3 p3 w2 e4 Q fun v us' wv p' => ?_
          obtain ⟨s3, g3⟩ := s2.setCell h2 (by rw [e3]; simp) (o := .lst us') (cl := .lst ys') fun H' e => ⟨us', e, p'⟩
          exact h v B2 ι2 _ ((g1.trans g2).trans g3) s3 wv.toV
        · exact h.elim
      · exact h.elim
    · exact h.elim
  · exact h.elim
end
section
variable {X : Cx} {E : XK} {o e : Expr} {es : List Expr} {name : Str} {apos cpos : Pos} {id : String} {r : V → List V → Hp → VK → Prop} {f : List DV → List DV → Option (DV × List DV)} {mo : ME} {ma : MA}
theorem je_cmj (slot : Slot "list" name id) (hty : typeOf (.builtin id) = pure (.type "method_descriptor")) (hm : MtR X id r) (hi : CelJ r f) (ho : JE X E o mo) (ha : JA X E (e :: es) ma)
    (hbase : attributeBase o name X.env (eval o X.env) = eval o X.env := by rfl)
    (hfew : ((backTo cpos (starEach (e :: es) X.env)).all (fun x => !x.1) && (backToKw cpos (keywordEach [] X.env)).all (fun x => x.1.isSome)
      && decide ((e :: es).length + ([] : List Keyword).length + (if ([] : List Keyword).isEmpty then 0 else 1) < 30)) = true := by rfl)
    (hline : (apos.endLine == cpos.line) = true := by rfl) (hs : starEach (e :: es) X.env = (false, eval e X.env) :: starEach es X.env := by rfl) (hplain : (backTo cpos (starEach es X.env)).any (·.1) = false := by rfl) :
    JE X E (.Call (.Attribute o name apos) (e :: es) [] cpos) (mCm f mo ma) :=
  pe_imp (pe_bm PySem.F.plainAttrs_list slot hty hm ho ha hbase hfew hline hs hplain) fun _ _ _ h => cmj_imp hi h
end
theorem extI : CelJ rExtend extF := fun K B ι H a us ws ys xs z ys' sm h p w e Q q => by
  unfold extF at e
  split at e
  · rename_i zs
    split at e
    · rename_i hl
      cases e
      cases w with
      | cons w1 w2 =>
        cases w2
        have w1 : Rp K B _ (.list zs) := w1
        cases w1 with
        | lst hb r =>
          exact ⟨a, _, us, _, rfl, rfl, h, sm _ _ hb, by rw [p.length, r.len]; exact Nat.le_trans hl (by decide), q .non _ .non (pr_app p (pr_d r))⟩
    · cases e
  · cases e
def sindexF (κ : Kap) (a : Str) (xs : List DV) : Option DV := match xs with
  | [.d (.str b)] => match Builtin.Str.occurrences a b 0 a.length 1 with
    | i :: _ => some (.d (.int (i : Nat)))
    | [] => none
  | _ => none
theorem sindexI {K : PySem.W.Frag} : MsI K (fun x xs H Q => ∃ a b i rest, x = .str a ∧ xs = [.str b] ∧ Builtin.Str.occurrences a b 0 a.length 1 = i :: rest ∧ Q (.int (i : Nat)) H) sindexF := fun F B ι H κ a ws xs z s w e Q q => by
  unfold sindexF at e
  split at e
  · split at e
    · rename_i i r ho
      cases e
      cases w with
      | cons w1 w2 => cases w2; cases w1; exact ⟨a, _, i, r, rfl, rfl, ho, keepQ s (.int _) q⟩
    · cases e
  · cases e
end DL

namespace DL
open L2 PyProof.Rows PySem PySem.Spec

/-! ### a call that only reads: live cells are lent to it, it tells a plain value -/
def brw (κ : Kap) : DV → Option D
  | .d x => some x
  | .c i => match κ[i]? with
    | some (.lst xs) => (allD xs).map .list
    | _ => none
  | .n _ => none
def brwA (κ : Kap) : List DV → Option (List D)
  | [] => some []
  | x :: r => (brw κ x).bind fun d => (brwA κ r).map (d :: ·)
def plainD : D → Bool
  | .none => true
  | .bool _ => true
  | .int _ => true
  | .str _ => true
  | _ => false
def lentO (κ1 : Kap) : Out DV → Out DV
  | .ok (.d x) _ => if plainD x = true then .ok (.d x) κ1 else .bad
  | _ => .bad
def mCallZ (m : MF) (a : MA) : ME := fun ρ κ => (a ρ κ).bind fun xs κ1 => match brwA κ1 xs with
  | some ds => lentO κ1 (m (ds.map .d) [])
  | none => .bad
section
variable {K : PySem.W.Frag} {mg : Str → Option Value} {E : XK} {F : List Addr} {B : Hp} {ι : List Addr} {H : Hp} {κ : Kap}
/-- the frozen heap with all live lists of data in it -/
noncomputable def lend (ι : List Addr) (κ : Kap) (B H : Hp) : Hp := fun a => open Classical in if (∃ (i : Nat) (xs : List DV) (ds : List D), ι[i]? = some a ∧ κ[i]? = some (Cell.lst xs) ∧ allD xs = some ds) then H a else B a
theorem lend_live {a : Addr} {i : Nat} {xs : List DV} {ds : List D} (h1 : ι[i]? = some a) (h2 : κ[i]? = some (.lst xs)) (h3 : allD xs = some ds) : lend ι κ B H a = H a := by
  unfold lend; rw [if_pos ⟨i, xs, ds, h1, h2, h3⟩]
theorem lend_same (s : HSt K F B ι H κ) : Same B (lend ι κ B H) := fun a u e => by
  unfold lend
  split
  · exact s.ex a u e
  · exact e
theorem lend_sub (s : HSt K F B ι H κ) : Same (lend ι κ B H) H := fun a u e => by
  unfold lend at e
  split at e
  · exact e
  · exact s.ex a u e
theorem lend_out (s : HSt K F B ι H κ) {a : Addr} (m : a ∉ ι) : lend ι κ B H a = B a := by
  unfold lend
  rw [if_neg]
  rintro ⟨i, _, _, h, _⟩
  exact m (List.mem_of_getElem? h)
theorem brw_ok (s : HSt K F B ι H κ) {v : V} {x : DV} {d : D} (w : WOk K B ι v x) (e : brw κ x = some d) : WOk K (lend ι κ B H) [] v (.d d) := by
  cases x with
  | d y => cases e; exact Rp.mono (lend_same s) w
  | n ys => cases e
  | c i =>
    obtain ⟨a, h1, rfl⟩ := w
    unfold brw at e
    dsimp only at e
    split at e
    · rename_i xs h2
      cases h3 : allD xs with
      | none => rw [h3] at e; cases e
      | some ds =>
        rw [h3] at e; cases e
        obtain ⟨vs, h4, p⟩ := s.cel i a _ h1 h2
        have r := allD_ok p h3
        exact .lst ((lend_live h1 h2 h3).trans h4) (RpAll.mono (lend_same s) r)
    · cases e
theorem brwA_ok (s : HSt K F B ι H κ) : ∀ {vs : List V} {xs : List DV} {ds : List D}, Paired (WOk K B ι) vs xs → brwA κ xs = some ds → Paired (WOk K (lend ι κ B H) []) vs (ds.map .d)
  | _, _, _, .nil, e => by cases e; exact .nil
  | _, _, _, .cons (b := x) (l₂ := xs) w r, e => by
    unfold brwA at e
    cases e1 : brw κ x with
    | none => rw [e1] at e; cases e
    | some d =>
      rw [e1] at e
      simp only [Option.bind_some] at e
      cases e2 : brwA κ xs with
      | none => rw [e2] at e; cases e
      | some ds' => rw [e2] at e; cases e; exact .cons (brw_ok s w e1) (brwA_ok s r e2)
theorem plain_rp {B B' : Hp} {v : V} {x : D} (h : plainD x = true) (r : Rp K B v x) : Rp K B' v x := by
  cases r with
  | non => exact .non
  | bl b => exact .bl b
  | int i => exact .int i
  | str x => exact .str x
  | _ => cases h
/-- what is known of code objects behind a call is kept -/
def extB (B1 B2 : Hp) : Hp := fun a => match B1 a with
  | some o => some o
  | none => (match B2 a with
    | some (.ext φ) => some (.ext φ)
    | _ => none)
theorem extB_some {B1 B2 : Hp} {a : Addr} {o : HO} (e : extB B1 B2 a = some o) : B1 a = some o ∨ ((∃ φ, o = .ext φ) ∧ B2 a = some o) := by
  unfold extB at e
  cases q : B1 a with
  | some u => rw [q] at e; exact .inl e
  | none =>
    rw [q] at e
    cases q2 : B2 a with
    | none => rw [q2] at e; cases e
    | some u =>
      rw [q2] at e
      cases u with
      | ext φ => cases e; exact .inr ⟨⟨φ, rfl⟩, rfl⟩
      | _ => cases e
theorem extB_none {B1 B2 : Hp} {a : Addr} (h : B1 a = none) (n : ∀ φ, B2 a ≠ some (.ext φ)) : extB B1 B2 a = none := by
  unfold extB
  rw [h]
  cases q : B2 a with
  | none => rfl
  | some u =>
    cases u with
    | ext φ => exact absurd q (n φ)
    | _ => rfl
theorem callZ_imp {m : MF} {np : Nat} (hn : NArgs m np) {ma : MA} {σ : L2.St} {H : Hp} {Q : VK} (h : tM K mg E0 (mCallZ m ma) σ H Q) : tCall (spM K mg np m) [] E (tA K mg E0 ma) σ H Q := by
  obtain ⟨F, B, ι, ρ, κ, s, h⟩ := h
  unfold mCallZ at h
  refine evA s (fun x κ1 e1 v B1 ι1 H1 g1 s1 w1 => ?_) (fun n fs κ1 e1 => by rw [e1] at h; exact h) (fun e => by rw [e] at h; exact h)
  rw [e1] at h
  dsimp only [Out.bind] at h
  split at h
  · rename_i ds eb
    have wp := brwA_ok s1 w1 eb
    have hl : (ds.map DV.d).length = np := Decidable.byContradiction fun q => by rw [hn _ [] q] at h; exact h
    rw [List.append_nil]
    let L := lend ι1 κ1 B1 H1
    have lived : ∀ a ∈ ι1, ∃ o, H1 a = some o := s1.tr
    classical
    let F' := F ++ ι1.filter (fun a => decide (L a = none))
    have st : HSt K F' L [] H1 [] := by
      refine ⟨lend_sub s1, rfl, List.nodup_nil, fun i a e => by simp at e, fun a m => ?_, fun i a cl e => by simp at e, (fun a m => nomatch m), fun q m => let t := s1.tb q m; t.to (lend_same s1) rfl ((lend_out s1 t.2.2.1).trans t.2.1) (fun m => nomatch m) (fun z => (List.mem_append.mp z).elim t.2.2.2 fun z => t.2.2.1 (List.mem_filter.mp z).1)⟩
      rcases List.mem_append.mp m with m | m
      · obtain ⟨h1, h2, h3⟩ := s1.pro a m
        exact ⟨h1, (lend_out s1 h3).trans h2, fun m => nomatch m⟩
      · obtain ⟨m1, m2⟩ := List.mem_filter.mp m
        exact ⟨lived a m1, of_decide_eq_true m2, fun m => nomatch m⟩
    refine ⟨by rw [wp.length]; exact hl, F', L, [], _, [], st, wp, ?_⟩
    cases er : m (ds.map .d) [] with
    | bad => rw [er] at h; exact h
    | ex n fs κ2 => rw [er] at h; exact h.elim
    | ok z κ2 =>
      rw [er] at h
      cases z with
      | c i => exact h.elim
      | n ys => exact h.elim
      | d z =>
        unfold lentO at h
        dsimp only at h
        split at h
        · rename_i pz
          intro u B2 ι2 H2 g2 s2 w2
          have keep : ∀ a ∈ ι1, (∃ o, H2 a = some o) ∧ (L a = none → H2 a = H1 a) ∧ (L a ≠ none → H2 a = L a) := fun a m => by
            by_cases q : L a = none
            · have e := g2.fr a (List.mem_append_right _ (List.mem_filter.mpr ⟨m, decide_eq_true q⟩))
              obtain ⟨o, eo⟩ := lived a m
              exact ⟨⟨o, e.trans eo⟩, fun _ => e, fun z => absurd q z⟩
            · obtain ⟨o, eo⟩ : ∃ o, L a = some o := by
                cases q2 : L a with
                | none => exact absurd q2 q
                | some o => exact ⟨o, rfl⟩
              have e2 := s2.ex a o (g2.b a o eo)
              exact ⟨⟨o, e2⟩, fun z => absurd z q, fun _ => e2.trans eo.symm⟩
          have bx : Same B1 (extB B1 B2) := fun a o e => by rw [extB, e]
          have back : HSt K F (extB B1 B2) ι1 H2 κ1 := by
            refine ⟨fun a o e => ?_, s1.len, s1.nd, fun i a m l => ?_, fun a m => ?_, fun i a cl e1 e2 => ?_, fun a m => (keep a m).1, fun q m => ?_⟩
            · rcases extB_some e with e | ⟨_, e⟩
              · exact s2.ex a o (g2.b a o (lend_same s1 a o e))
              · exact s2.ex a o e
            · refine extB_none (s1.out i a m l) fun φ e => ?_
              have ma := List.mem_of_getElem? m
              by_cases q : L a = none
              · have z := (s2.pro a (List.mem_append_right _ (List.mem_filter.mpr ⟨ma, decide_eq_true q⟩))).2.1
                rw [e] at z; cases z
              · obtain ⟨o, eo⟩ : ∃ o, L a = some o := by
                  cases q2 : L a with
                  | none => exact absurd q2 q
                  | some o => exact ⟨o, rfl⟩
                have e2 := g2.b a o eo
                rw [e] at e2
                cases e2
                have e3 := lend_sub s1 a _ eo
                have c := s1.cel i a _ m (List.getElem?_eq_getElem (by rw [← s1.len]; exact (List.getElem?_eq_some_iff.mp m).1))
                cases q3 : κ1[i]'(by rw [← s1.len]; exact (List.getElem?_eq_some_iff.mp m).1) with
                | dead => exact l (by rw [List.getElem?_eq_getElem (by rw [← s1.len]; exact (List.getElem?_eq_some_iff.mp m).1), q3])
                | lst xs => rw [q3] at c; obtain ⟨vs, c1, _⟩ := c; rw [e3] at c1; cases c1
                | dic xs => rw [q3] at c; obtain ⟨vs, c1, _⟩ := c; rw [e3] at c1; cases c1
            · obtain ⟨h1, h2, h3⟩ := s1.pro a m
              exact ⟨by rw [g2.fr a (List.mem_append_left _ m)]; exact h1, extB_none h2 (fun φ e => by rw [(s2.pro a (List.mem_append_left _ m)).2.1] at e; cases e), h3⟩
            · have c := s1.cel i a cl e1 e2
              obtain ⟨k1, k2, k3⟩ := keep a (List.mem_of_getElem? e1)
              have same : H2 a = H1 a := by
                by_cases q : L a = none
                · exact k2 q
                · refine (k3 q).trans ?_
                  obtain ⟨o, eo⟩ : ∃ o, L a = some o := by
                    cases q2 : L a with
                    | none => exact absurd q2 q
                    | some o => exact ⟨o, rfl⟩
                  exact eo.trans (lend_sub s1 a o eo).symm
              exact c.mono bx (fun _ _ h => h) same
            · obtain ⟨⟨ps, t1, t2, t3⟩, t4⟩ := s2.tb q m
              refine ⟨⟨ps, t1, t2, fun pos cv e => ?_⟩, extB_none (s1.tb q m).2.1 (fun φ e => by rw [t4.1] at e; cases e), (s1.tb q m).2.2.1, (s1.tb q m).2.2.2⟩
              obtain ⟨c, e1, e2⟩ := t3 pos cv e
              refine ⟨c, e1, ?_⟩
              cases q1 : B1 c with
              | none => unfold extB; rw [q1, e2]; rfl
              | some o =>
                have e3 := g2.b c o (lend_same s1 c o q1)
                rw [e2] at e3
                cases e3
                exact bx c _ q1
          refine h u (extB B1 B2) ι1 H2 (g1.trans ⟨bx, fun _ _ h => h, fun a m => g2.fr a (List.mem_append_left _ m)⟩) back ?_
          exact plain_rp pz w2
        · exact h.elim
  · exact h.elim
end
section
variable {X : Cx} {k : Nat} {st : Stmt} {ps : List Str} {m : MF} {x : Str} {p pos : Pos} {e : Expr} {es : List Expr} {ma : MA}
theorem je_callZ (gu : X.A.guards = some []) (hr : Room k X.A) (C : Cal X.prog X.w X.K X.mg X.base k x st ps m) (ha : JA X E0 (e :: es) ma) (hg : Gl X x := by rfl) (hdb : (x == ("__debug__" : Str)) = false := by decide) (he : starEach (e :: es) X.env = (false, eval e X.env) :: starEach es X.env := by rfl) (hpl : (backTo pos (starEach es X.env)).any (·.1) = false := by rfl) :
    JE X E0 (.Call (.Name x p) (e :: es) [] pos) (mCallZ m ma) := by
  obtain ⟨f, fd, _, _, Fu, hb, Fo, hm⟩ := C.ex
  exact pe_imp (pe_callG Fo gu hr hg hm Fu.kp hb .nil pass0 ha hdb he hpl) fun _ _ _ h => callZ_imp (E := E0) C.na h
end
end DL

namespace DL
open L2 PyProof.Rows PySem PySem.Spec

/-! ### a, b = e, f through a tuple: new lists become cells where the elements are so taken -/
def mAsgT (n : Nat) (r : List DV → Rho → Kap → Option (Rho × Kap)) (ma : MA) : MS := fun ρ κ => (ma ρ κ).bindS fun xs κ1 => if xs.length = n ∧ n ≤ 1000 then match r xs ρ κ1 with
    | some (ρ', κ') => .nx ρ' κ'
    | none => .bad
  else .bad
section
variable {X : Cx} {E : XK}
theorem asgT_imp {K : PySem.W.Frag} {mg : Str → Option Value} {n : Nat} {r : List DV → Rho → Kap → Option (Rho × Kap)} {ts : List Nat} {ma : MA} {De : Ends} {σ : L2.St} {H : Hp} (h : tS K mg E (mAsgT n r ma) De σ H) : tAsg (tTup (tA K mg E ma)) (gTup K n (tGs K r ts)) De σ H := by
  obtain ⟨F, B, ι, ρ, κ, s, h⟩ := h
  unfold mAsgT at h
  refine evA s (fun xs κ1 e1 vs B1 ι1 H1 g1 s1 w1 => ?_) (fun n fs κ1 e1 => by rw [e1] at h; exact h) (fun e => by rw [e] at h; exact h)
  rw [e1] at h
  dsimp only [Out.bindS] at h
  by_cases c : xs.length = n ∧ n ≤ 1000
  · rw [if_pos c] at h
    have hl : vs.length = n := by rw [w1.length]; exact c.1
    refine ⟨line1000 (by rw [hl]; exact c.2), fun p hp => ?_⟩
    obtain ⟨s2, g2⟩ := s1.new (o := .tup vs) hp
    refine ⟨p, vs, rfl, .inl (.inl upd_same), hl, F, _, ι1, ρ, κ1, xs, s.step (g1.trans g2) s2, pmap w1 fun _ _ z => z.grow g2, ?_⟩
    cases q : r xs ρ κ1 with
    | none => rw [q] at h; exact h
    | some pq =>
      rw [q] at h
      exact fun σ' B' ι' H' _ g3 s3 => h σ' B' ι' H' ((g1.trans g2).trans g3) s3
  · rw [if_neg c] at h
    exact h.elim
theorem js_asgT {es ts : List Expr} {k k2 n : Nat} {p1 p2 pos : Pos} {r : List DV → Rho → Kap → Option (Rho × Kap)} {us : List Nat} {ma : MA} (hc : X.calm = true) (ha : JA X E es ma) (hg : JGs X ts r us) (hn : (assignEach ts X.env).length = n := by rfl) (hst : (assignEach ts X.env).findIdx? (·.1) = none := by rfl)
    (hs : swapsWithSole [.Tuple ts k p1] (.Tuple es k2 p2) pos.line X.env = pure false := by rfl) (hw : swappedStores [.Tuple ts k p1] (.Tuple es k2 p2) X.env = pure none := by rfl)
    (h1 : (assignEach [.Tuple ts k p1] X.env).map (·.2) = [assign (.Tuple ts k p1) X.env] := by rfl) : JS X E (.Assign [.Tuple ts k p1] (.Tuple es k2 p2) pos) (mAsgT n r ma) :=
  ps_imp (ps_asg (pe_tup ha) (pg_tup hc hg hn hst) hs hw h1) fun _ _ _ h => asgT_imp h
end
end DL

namespace DL
open L2 PyProof.Rows PySem PySem.Spec

/-! ### (a, .., *r) = a tuple or a list -/
def gStar (K : PySem.W.Frag) (i : Nat) (t : TGs) : TG := fun v σ H Q => ∃ a xs, v = .ref a ∧ (SqT K H a xs ∨ SqL K H a xs) ∧ i ≤ xs.length ∧ xs.length ≤ 16000 ∧ ∀ p, H p = none → t (xs.take i ++ [.ref p]) σ (upd H p (.lst (xs.drop i))) Q
theorem pgs_star {X : Cx} {e : Expr} {es : List Expr} {p : Pos} {t : TG} {u : TGs} (h1 : PG X e t) (h2 : PGs X es u)
    (hs : (assignEach (.Starred e p :: es) X.env).map (·.2) = assign e X.env :: (assignEach es X.env).map (·.2) := by rfl) : PGs X (.Starred e p :: es) (gCons t u) :=
  ⟨fun pins s σ H vs us Q I r ⟨v, vr, e1, h⟩ => by
    subst e1
    rw [hs]
    match us, r with
    | _, .cons r rr => exact assignInOrder_cons (thn (h1.run pins s σ H _ _ _ I r h) fun _ s1 ⟨σ1, H1, I1, q1⟩ => h2.run pins s1 σ1 H1 _ _ Q I1 rr q1)⟩
section
variable {X : Cx} {pos : Pos}
theorem star_new {pins : List (Addr × Obj)} {σ : L2.St} {H : Hp} {s : Shared} {xs : List V} {its : List Value} {i : Nat} {es : List Expr} {t : TGs} {Q : L2.St → Hp → Prop} (I : Inv X pins σ H s) (r : Vals xs its) (hz : xs.length ≤ 16000) (h : PGs X es t)
    (hw : ∀ p, H p = none → t (xs.take i ++ [.ref p]) σ (upd H p (.lst (xs.drop i))) Q) :
    wpAny (model X.prog X.w) X.A (newList ((its.drop i).take ((its.drop i).length - 0)) >>= fun d => pure (its.take i ++ [d] ++ (its.drop i).drop ((its.drop i).length - 0)))
      (fun vs s' => wpAny (model X.prog X.w) X.A (assignInOrder ((assignEach es X.env).map (·.2)) vs) (fun _ s' => ∃ σ' H', Inv X pins σ' H' s' ∧ Q σ' H') X.xe s') X.xe s := by
  rw [Nat.sub_zero, List.take_length, List.drop_length]
  have ll := r.length
  refine wpAny_bind (wpAny_newList (wpAny_pure ?_) (by rw [List.length_drop, sizeLine_eq]; omega))
  have I1 : Inv X pins σ (upd H s.heap.objs.size (.lst (xs.drop i))) { s with heap := s.heap.push { cls := .type "list", data := .seq (its.drop i).toArray } } :=
    I.laid (t' := s.toks) (fun b u e => Heap.get?_push_of_some _ e) (Nat.le_refl _) ⟨by rw [List.length_drop, sizeLine_eq]; omega, its.drop i, 0, Vals.drop i r, Heap.get?_push_size _ rfl⟩
  rw [List.append_nil]
  exact h.run pins _ σ _ _ _ Q I1 (Vals.append (Vals.take i r) (Paired.cons (show RelV (.ref s.heap.objs.size) (.ref s.heap.objs.size) from rfl) Paired.nil)) (hw _ (I.hok.fresh (Nat.le_refl _)))
theorem pg_star {es : List Expr} {k n i : Nat} {t : TGs} (hc : X.calm = true) (h : PGs X es t) (hn : (assignEach es X.env).length = n := by rfl) (hst : (assignEach es X.env).findIdx? (·.1) = some i := by rfl) (hi : n = i + 1 := by rfl) : PG X (.Tuple es k pos) (gStar X.K i t) := by
  constructor
  rintro pins s σ H v u Q I r ⟨a, xs, rfl, hq, hl, hz, hw⟩
  cases r
  subst hi
  have hd := I.ok.hd hc
  rw [PyProof.Rows.assign_Tuple]
  unfold unpack
  rw [hn, hst]
  refine wpAny_bind (wpAny_standAt (wpAny_bind (wpAny_holding ?_)))
  unfold unpackItems notIterableAtAll
  have fin : ∀ {its : List Value} (h' : Heap) (tk : Nat), Vals xs its → (∀ b o, b ≠ s.heap.objs.size → s.heap.get? b = some o → h'.get? b = some o) → (its.toArray.toList.take i).length = i ∧
      wpAny (model X.prog X.w) X.A (newList ((its.toArray.toList.drop i).take ((its.toArray.toList.drop i).length - (i + 1 - 1 - i))) >>= fun d => pure (its.toArray.toList.take i ++ [d] ++ (its.toArray.toList.drop i).drop ((its.toArray.toList.drop i).length - (i + 1 - 1 - i))))
        (fun vs s' => wpAny (model X.prog X.w) X.A (assignInOrder ((assignEach es X.env).map (·.2)) vs) (fun _ s' => ∃ σ' H', Inv X pins σ' H' s' ∧ Q σ' H') X.xe s') X.xe { s with heap := h', toks := tk } := fun {its} h' tk rv hk => by
    have ll := rv.length
    rw [show i + 1 - 1 - i = 0 by omega, List.toList_toArray]
    refine ⟨by rw [List.length_take]; omega, star_new (I.kept (t' := tk) fun b o e => hk b o (Nat.ne_of_lt (Heap.lt_size e)) e) rv hz h hw⟩
  rcases hq with hq | hq
  · obtain ⟨its, rv, hl0, _⟩ := I.tuple hq
    have ll := rv.length
    have ne : a ≠ s.heap.objs.size := by obtain ⟨o, ho, _⟩ := hl0; exact Nat.ne_of_lt (Heap.lt_size ho)
    refine wpAny_bind (wpAny_bind (wpAny_specialOf hl0.typeIs slot_tuple_iter.lookup (wpAny_pure ?_)))
    simp only [Bool.false_eq_true, if_false]
    refine wpAny_bind (wpAny_holding (iter_tuple hl0 (wpAny_bind (wpAny_holding (draw_tuple ne i 0 _ _ ⟨_, Heap.get?_push_size _ rfl, rfl, rfl⟩ (hl0.push _) (by rw [List.size_toArray]; omega) fun h1 it1 sb => ?_)))))
    have l1 : IsTup h1 a its.toArray := (hl0.push _).extBut sb.extBut ne
    rw [Nat.zero_add] at it1
    rw [List.drop_zero, if_neg (show ¬ ((its.toArray.toList.take i).length < i) by rw [(fin s.heap 0 rv fun b o _ e => e).1]; omega)]
    obtain ⟨oi, hoi, _⟩ := id it1
    obtain ⟨ol, hol, _⟩ := id l1
    refine wpAny_bind (wpAny_holding (PySem.W.kun_collect (s := { s with heap := h1 }) (T := "tuple_iterator") (.inr (.inr (.inr rfl))) (Walks.tuple (A := X.A.in1) hd s.heap.objs.size a ne its.toArray)
      (fun j u st => st.1.typeIs) (k := i) (by rw [List.size_toArray]; omega) ⟨it1, l1⟩ (Heap.lt_size hoi) (Heap.lt_size hol) (fun h2 tk hk => ?_) (by rw [List.size_toArray, sizeLine_eq]; omega)))
    show wpAny _ _ (if (its.toArray.toList.drop i).length < i + 1 - 1 - i then _ else _) _ _ _
    rw [if_neg (by omega)]
    exact (fin h2 tk rv fun b o hb e => hk b o hb (sb.extBut b o hb (Heap.get?_push_of_some _ e))).2
  · obtain ⟨its, rv, pl, _⟩ := I.list hq
    have ll := rv.length
    have hl0 := pl.isList
    have ne : a ≠ s.heap.objs.size := by obtain ⟨o, ho, _⟩ := hl0; exact Nat.ne_of_lt (Heap.lt_size ho)
    refine wpAny_bind (wpAny_bind (wpAny_specialOf hl0.typeIs slot_list_iter.lookup (wpAny_pure ?_)))
    simp only [Bool.false_eq_true, if_false]
    refine wpAny_bind (wpAny_holding (wpAny_pyIter_list hl0 (wpAny_bind (wpAny_holding (PySem.W.kun_draw ne i 0 _ _ ⟨_, Heap.get?_push_size _ rfl, rfl, rfl⟩ (hl0.push _) (by rw [List.size_toArray]; omega) fun h1 it1 sb => ?_)))))
    have l1 : h1.IsList a its.toArray := (hl0.push _).extBut sb.extBut ne
    rw [Nat.zero_add] at it1
    rw [List.drop_zero, if_neg (show ¬ ((its.toArray.toList.take i).length < i) by rw [(fin s.heap 0 rv fun b o _ e => e).1]; omega)]
    obtain ⟨oi, hoi, _⟩ := id it1
    obtain ⟨ol, hol, _⟩ := id l1
    refine wpAny_bind (wpAny_holding (PySem.W.kun_collect (s := { s with heap := h1 }) (T := "list_iterator") (.inr (.inr (.inl rfl))) (Walks.list (A := X.A.in1) hd s.heap.objs.size a ne its.toArray)
      (fun j u st => st.1.typeIs) (k := i) (by rw [List.size_toArray]; omega) ⟨it1, l1⟩ (Heap.lt_size hoi) (Heap.lt_size hol) (fun h2 tk hk => ?_) (by rw [List.size_toArray, sizeLine_eq]; omega)))
    show wpAny _ _ (if (its.toArray.toList.drop i).length < i + 1 - 1 - i then _ else _) _ _ _
    rw [if_neg (by omega)]
    exact (fin h2 tk rv fun b o hb e => hk b o hb (sb.extBut b o hb (Heap.get?_push_of_some _ e))).2
end
theorem pair_app {α β : Type} {R : α → β → Prop} : ∀ {a c : List α} {b d : List β}, Paired R a b → Paired R c d → Paired R (a ++ c) (b ++ d)
  | _, _, _, _, .nil, t => t
  | _, _, _, _, .cons h r, t => .cons h (pair_app r t)
/-! ### the mirror -/
def bStar (i : Nat) (r : List DV → Rho → Kap → Option (Rho × Kap)) : MG := fun x ρ κ => match x with
  | .d (.tuple ds) => if i ≤ ds.length ∧ ds.length ≤ 16000 then r ((ds.take i).map .d ++ [.d (.list (ds.drop i))]) ρ κ else none
  | .d (.list ds) => if i ≤ ds.length ∧ ds.length ≤ 16000 then r ((ds.take i).map .d ++ [.d (.list (ds.drop i))]) ρ κ else none
  | _ => none
section
variable {X : Cx} {pos : Pos}
theorem jgs_star {e : Expr} {es : List Expr} {p : Pos} {g : MG} {r : List DV → Rho → Kap → Option (Rho × Kap)} {ts us : List Nat} (h1 : JG X e g ts) (h2 : JGs X es r us)
    (hs : (assignEach (.Starred e p :: es) X.env).map (·.2) = assign e X.env :: (assignEach es X.env).map (·.2) := by rfl) : JGs X (.Starred e p :: es) (bCons g r) (ts ++ us) :=
  pgs_imp (pgs_star h1 h2 hs) fun v σ H Q ⟨F, B, ι, ρ, κ, xs, s, w, h⟩ => by
    cases w with
    | nil => exact h.elim
    | @cons v x vs ys w1 w2 =>
      refine ⟨v, vs, rfl, F, B, ι, ρ, κ, x, s, w1, ?_⟩
      simp only [bCons] at h
      cases q : g x ρ κ with
      | none => rw [q] at h; exact h
      | some p =>
        rw [q] at h
        intro σ1 B1 ι1 H1 e1 g1 s1
        refine ⟨F, B1, ι1, p.1, p.2, ys, s1, pmap w2 fun _ _ z => z.grow g1, ?_⟩
        replace h : (match r ys p.1 p.2 with
          | some (ρ', κ') => ∀ σ' B' ι' H', (σ'.length = σ.length ∧ ∀ i, i ∉ ts ++ us → σ'[i]? = σ[i]?) → Grow F B ι H B' ι' H' → SOk X.K F B' ι' σ' H' ρ' κ' → Q σ' H'
          | none => False) := h
        cases q2 : r ys p.1 p.2 with
        | none => rw [q2] at h; exact h
        | some p2 =>
          rw [q2] at h
          intro σ2 B2 ι2 H2 e2 g2 s2
          exact h σ2 B2 ι2 H2 ⟨e2.1.trans e1.1, fun i hi => (e2.2 i (fun z => hi (List.mem_append_right _ z))).trans (e1.2 i (fun z => hi (List.mem_append_left _ z)))⟩ (g1.trans g2) s2
theorem jg_star {es : List Expr} {k n i : Nat} {r : List DV → Rho → Kap → Option (Rho × Kap)} {ts : List Nat} (hc : X.calm = true) (h : JGs X es r ts)
    (hn : (assignEach es X.env).length = n := by rfl) (hst : (assignEach es X.env).findIdx? (·.1) = some i := by rfl) (hi : n = i + 1 := by rfl) : JG X (.Tuple es k pos) (bStar i r) ts :=
  pg_imp (pg_star hc h hn hst hi) fun v σ H Q ⟨F, B, ι, ρ, κ, x, s, w, h⟩ => by
    have go : ∀ {a : Addr} {vs : List V} {ds : List D}, v = .ref a → (SqT X.K H a vs ∨ SqL X.K H a vs) → RpAll X.K B vs ds → (match (if i ≤ ds.length ∧ ds.length ≤ 16000 then r ((ds.take i).map .d ++ [.d (.list (ds.drop i))]) ρ κ else none) with
        | some (ρ', κ') => ∀ σ' B' ι' H', (σ'.length = σ.length ∧ ∀ i, i ∉ ts → σ'[i]? = σ[i]?) → Grow F B ι H B' ι' H' → SOk X.K F B' ι' σ' H' ρ' κ' → Q σ' H'
        | none => False) → gStar X.K i (tGs X.K r ts) v σ H Q := fun {a vs ds} ev hq ra h => by
      by_cases c : i ≤ ds.length ∧ ds.length ≤ 16000
      · rw [if_pos c] at h
        refine ⟨a, vs, ev, hq, by rw [ra.len]; exact c.1, by rw [ra.len]; exact c.2, fun p hp => ?_⟩
        obtain ⟨s1, g1⟩ := s.hs.new (o := .lst (vs.drop i)) hp
        have r1 := ra.mono g1.b
        refine ⟨F, _, ι, ρ, κ, _, s.step g1 s1, pair_app (cells_of (r1.take i)) (.cons (b := DV.d (.list (ds.drop i))) (Rp.lst upd_same (r1.drop i)) .nil), ?_⟩
        cases q : r ((ds.take i).map .d ++ [.d (.list (ds.drop i))]) ρ κ with
        | none => rw [q] at h; exact h
        | some p => rw [q] at h; exact fun σ' B' ι' H' e g s' => h σ' B' ι' H' e (g1.trans g) s'
      · rw [if_neg c] at h
        exact h.elim
    unfold bStar at h
    match x, w, h with
    | .d (.tuple ds), w, h =>
      obtain ⟨a, vs, ev, h1, r1⟩ := tup_ok s.hs w
      exact go ev (.inl h1) r1 h
    | .d (.list ds), w, h =>
      obtain ⟨a, vs, ev, h1, r1⟩ := lv_ok s.hs (x := .d (.list ds)) w rfl
      exact go ev (.inr (lst1 h1)) r1 h
end
end DL

namespace DL
open L2 PyProof.Rows PySem PySem.Spec

/-! ### the law's own call, where defs may make lambdas -/
abbrev tab0 : Obj := { cls := .none, data := .fields #[] }
/-- the script and the tables are known -/
def hScT (K : PySem.W.Frag) (Ts : List Addr) (a : Addr) (ob : Obj) (vs : List V) : Hp := fun b => if b ∈ Ts then some (.tbl #[]) else hScr K a ob vs b
theorem hScT_some {K : PySem.W.Frag} {Ts : List Addr} {a b : Addr} {ob : Obj} {vs : List V} {o : HO} (e : hScT K Ts a ob vs b = some o) : (b ∈ Ts ∧ o = .tbl #[]) ∨ (b ∉ Ts ∧ b = a ∧ K.lookup a = none ∧ o = .frz ob (.lst vs)) := by
  unfold hScT at e
  split at e
  · rename_i h; cases e; exact .inl ⟨h, rfl⟩
  · rename_i h; exact .inr ⟨h, hScr_some e⟩
theorem lawGT {P : Program} {w : World} {K : PySem.W.Frag} {mg mb : Str → Option Value} {k : Nat} {fa a : Addr} {fd : FuncData} {x : Str} {sp : Sp} {s₁ : Shared} {its : List Value} {ns : List Int} {CX : CXT} {cs : List (Addr × Addr)}
    (kin : K.In s₁.heap) (hns : s₁.heap.Ns mainGlobals mg) (hmb : s₁.heap.Ns builtinsNs mb) (hbo : ∀ x : Str, x ≠ "__name__" → mb x = bootBuiltins x) (hlim : s₁.heap.NoLimit) (hge : s₁.gens = #[])
    (hT : ∀ p ∈ cs, s₁.heap.get? p.2 = some tab0) (nT : ∀ p ∈ cs, K.lookup p.2 = none) (hC : ∀ p ∈ cs, PySem.W.codeHdIn K p.1 p.2 = true)
    (hbm : ∃ (bm : Addr) (ob : Obj), mg "__builtins__" = some (.ref bm) ∧ bm ≠ builtinsNs ∧ s₁.heap.get? bm = some ob ∧ ob.cls = .type "module" ∧ ob.dict = some builtinsNs ∧ ob.data = .plain)
    (hat : s₁.heap.get? a = some { cls := .type "list", data := .seq its.toArray }) (hin : IntsAre its ns) (hle : ns.length ≤ sizeLine) (room : Room k callerA)
    (F : ∀ base : Heap, K.In base → base.Ns mainGlobals mg → (∀ p ∈ cs, LamX.TabB base mg p.1 p.2) → FnG P w K mg base CX k fa fd [x] sp) (hbi : ∀ (s : Shared) (u : Value), BindsTo s fd ⟨[u], []⟩ [(x, u)])
    (prom : ∀ H : Hp, (∀ p ∈ cs, H p.2 = some (.tbl #[])) → SqL K H a (ns.map V.int) → sp [.ref a] H (fun v _ => v = .bl true) fun _ _ _ => False) (hCX : ∀ H e s', CX [] H s₁ (fun _ _ _ => False) e s' → False) :
    codeAny (model P w) callerA (.call (.ref fa) ⟨[.ref a], []⟩) (fun r s' => r = .ok (.ret (.bool true)) ∧ OldK s₁.heap s'.heap ∧ s'.os = s₁.os ∧ AllBare s'.gens) s₁ := by
  have rel := vals_of_ints hin
  have same : ns.length = its.length := hin.length.symm
  let Ts := cs.map (·.2)
  have tabAt : ∀ b ∈ Ts, s₁.heap.get? b = some tab0 := fun b m => by
    obtain ⟨p, hp, rfl⟩ := List.mem_map.mp m
    exact hT p hp
  have mT : ∀ p ∈ cs, p.2 ∈ Ts := fun p hp => List.mem_map.mpr ⟨p, hp, rfl⟩
  have aT : a ∉ Ts := fun m => by
    have e := tabAt a m
    rw [hat] at e
    exact nomatch congrArg Obj.data (Option.some.inj e)
  let H : Hp := hScT K Ts a { cls := .type "list", data := .seq its.toArray } (ns.map V.int)
  have seen : SqL K H a (ns.map V.int) := by
    cases hk : K.lookup a with
    | none => exact .inl (.inr ⟨_, (if_neg aT).trans (if_pos ⟨rfl, hk⟩)⟩)
    | some o =>
      have e := kin a o hk
      rw [hat] at e
      cases e
      exact .inr ⟨_, its.toArray, _, hk, rfl, rfl, rfl, by rw [List.size_toArray, ← same]; exact hle, by rw [List.toList_toArray]; exact rel⟩
  have hok : HOk P w H s₁.heap := fun b o e => by
    rcases hScT_some e with ⟨m, rfl⟩ | ⟨_, rfl, _, rfl⟩
    · exact tabAt b m
    · exact ⟨hat, by rw [List.length_map]; exact hle, its, _, rel, hat⟩
  have hid : ∀ {b : Addr} {o : Obj}, s₁.heap.get? b = some o → (b = a → K.lookup a ≠ none) → b ∉ Ts → (hidT s₁.heap H).get? b = some o := fun {b o} e n nt => hidT_get e (by
    cases q : H b with
    | none => rfl
    | some u => rcases hScT_some q with ⟨m, _⟩ | ⟨_, h1, h2, _⟩; exact absurd m nt; exact absurd h2 (n h1))
  have nT2 : ∀ {b : Addr} {o : Obj}, s₁.heap.get? b = some o → o.data ≠ .fields #[] → b ∉ Ts := fun {b o} e n m => by
    rw [tabAt b m] at e
    cases e
    exact n rfl
  have nsH : ∀ {b : Addr} {m : Str → Option Value}, s₁.heap.Ns b m → (hidT s₁.heap H).Ns b m := by
    rintro b m ⟨o, es, ep, e, d, r⟩
    refine ⟨o, es, ep, hid e (fun z => ?_) (nT2 e (by rw [d]; exact fun z => nomatch z)), d, r⟩
    subst z
    rw [hat] at e
    cases e
    exact nomatch d
  have kinH : K.In (hidT s₁.heap H) := fun b o e => hid (kin b o e) (fun z n => by rw [z, n] at e; cases e) fun m => by
    obtain ⟨p, hp, rfl⟩ := List.mem_map.mp m
    rw [nT p hp] at e
    cases e
  have mod : Mod K mg (hidT s₁.heap H) := ⟨kinH, nsH hns, ⟨mb, nsH hmb, hbo⟩, let ⟨mc, h1, h2⟩ := hlim; ⟨mc, nsH h1, h2⟩⟩
  have gT : mainGlobals ∉ Ts := fun m => by
    obtain ⟨o, es, ep, e, d, _⟩ := hns
    rw [tabAt _ m] at e
    cases e
    cases d
  have TB : ∀ p ∈ cs, LamX.TabB (hidT s₁.heap H) mg p.1 p.2 := fun p hp => by
    obtain ⟨bm, ob, b1, b2, b3, b4, b5, b6⟩ := hbm
    have nG : bm ≠ mainGlobals := fun q => by
      obtain ⟨o, es, ep, e, d, _⟩ := hns
      rw [← q, b3] at e
      cases e
      rw [b6] at d
      cases d
    have nt : bm ∉ Ts := nT2 b3 (by rw [b6]; exact fun z => nomatch z)
    refine ⟨PySem.W.codeHd_of_K kinH (hC p hp), ⟨bm, ob, b1, b2, nG, fun q => nt (q ▸ mT p hp), hid b3 (fun z => ?_) nt, b4, b5, b6⟩, fun q => gT (q ▸ mT p hp)⟩
    subst z
    rw [hat] at b3
    cases b3
    exact nomatch b6
  have env : Env0 P w K mg (hidT s₁.heap H) callerA [] s₁ H := ⟨rfl, mod, fun b o e => of_hidT e, Nat.le_of_eq (hidT_size _ _), trivial, (fun b hb => absurd hb (by simp [frs])), hok, .of_eq hge⟩
  refine codeAny_mono ((F _ kinH (nsH hns) TB).go callerA [] s₁ H ⟨[.ref a], []⟩ [.ref a] [.ref a] _ _ rfl room env (hbi s₁ (.ref a)) (.cons rfl .nil) (prom H (fun p hp => if_pos (mT p hp)) seen)) ?_
  rintro (er | fl) s' h
  · exact (hCX H er s' h).elim
  · match fl, h with
    | .next, h => exact False.elim h
    | .brk, h => exact False.elim h
    | .cont, h => exact False.elim h
    | .ret u, ⟨v, H', os, bare, un, hok', r', q⟩ =>
      have q' : v = .bl true := q
      subst q'
      obtain rfl : u = Value.bool true := r'
      have key : ∀ b o, b ∉ Ts → s₁.heap.get? b = some o → s'.heap.get? b = some o := fun b o nt e => by
        cases q : H b with
        | none => exact un.keep b o e q (by simp [frs]) (by simp)
        | some u =>
          rcases hScT_some q with ⟨m, _⟩ | ⟨_, _, _, rfl⟩
          · exact absurd m nt
          · have e2 := (hok' b _ (un.frzs b _ _ q)).1
            have e1 := (hok b _ q).1
            rw [e] at e1
            cases e1
            exact e2
      have grown : ∀ p ∈ cs, ∃ more : Array Value, s'.heap.get? p.2 = some { cls := .none, data := .fields more } := fun p hp => by
        obtain ⟨more, z⟩ := un.tbls p.2 #[] (if_pos (mT p hp))
        exact ⟨_, hok' p.2 _ z⟩
      refine ⟨rfl, ⟨fun b o e => ?_, fun b o e => ?_⟩, os, bare⟩
      · by_cases m : b ∈ Ts
        · obtain ⟨p, hp, rfl⟩ := List.mem_map.mp m
          obtain ⟨more, z⟩ := grown p hp
          rw [hT p hp] at e
          cases e
          exact .inr (.inl ⟨((PySem.W.codeHd_of_K kin (hC p hp)).tab (hT p hp)).isCodeTable, rfl, #[], more, rfl, by rw [Array.empty_append]; exact z⟩)
        · exact .inl (key b o m e)
      · by_cases m : b ∈ Ts
        · obtain ⟨p, hp, rfl⟩ := List.mem_map.mp m
          obtain ⟨more, z⟩ := grown p hp
          exact ⟨_, z⟩
        · exact ⟨o, key b o m e⟩
theorem walkGT {l : PySem.W.OpenLaw} {n k : Nat} {q : Program} {loose : List Str} {XP : (Str → Option Value) → Heap → Prop} {YP : World → Heap → Prop} {d : DefRec} {K : Params → PySem.W.Frag} {CX : World → CXT} {sp : World → (Str → Option Value) → Sp} {x : Str} (cs : List (Addr × Addr))
    (hn : l.most = some n) (hn2 : n ≤ sizeLine) (hdf : d.params.defaults = []) (room : Room k callerA) (hY : ∀ (w : World) (h : Heap), YP w h → (K w.params).In h ∧ ∀ p ∈ cs, h.get? p.2 = some tab0) (nT : ∀ (w : World), ∀ p ∈ cs, (K w.params).lookup p.2 = none) (hC : ∀ (w : World), ∀ p ∈ cs, PySem.W.codeHdIn (K w.params) p.1 p.2 = true)
    (F : ∀ (w : World) (mg : Str → Option Value) (fa : Addr) (h : Heap), (K w.params).In h → h.Ns mainGlobals mg → mg d.name = some (.ref fa) → ∃ fd : FuncData, (∀ (s : Shared) (u : Value), BindsTo s fd ⟨[u], []⟩ [(x, u)]) ∧
        ∀ base : Heap, (K w.params).In base → base.Ns mainGlobals mg → (∀ p ∈ cs, LamX.TabB base mg p.1 p.2) → FnG l.prog w (K w.params) mg base (CX w) k fa fd [x] (sp w mg))
    (prom : ∀ (w : World) (mg : Str → Option Value) (H : Hp) (a : Addr) (ns : List Int), ns.length ≤ n → (∀ p ∈ cs, H p.2 = some (.tbl #[])) → SqL (K w.params) H a (ns.map V.int) → sp w mg [.ref a] H (fun v _ => v = .bl true) fun _ _ _ => False)
    (hCX : ∀ (w : World) (H : Hp) (s : Shared) (e : Value) (s' : Shared), CX w [] H s (fun _ _ _ => False) e s' → False) :
    PySem.W.WalkO q loose XP YP l.row.toRowW d [] (fun f vs => PySem.call f vs) := by
  refine Att.attach_call hn hdf fun w s₀ s₁ mg mb fa o pm cd doc a its ns G Y ho hd hcd hmg hobj hi hlen hge => ?_
  obtain ⟨fd, hb, hF⟩ := F w mg fa _ (hY w _ Y).1 G.T.g hmg
  exact lawGT (hY w _ Y).1 G.T.g G.T.b G.T.builtins G.T.nolimit hge (hY w _ Y).2 (nT w) (hC w) G.T.bmain hobj hi (Nat.le_trans hlen hn2) room hF hb (fun H hT h => prom w mg H a ns hlen hT h) fun H e s' => hCX w H s₁ e s'
end DL

namespace DL
open L2 PyProof.Rows PySem PySem.Spec

/-! ### a lambda of one parameter that captures one name, handed to a def -/
abbrev cloD (f c a : Addr) (q : Str) (d : D) : D := .dict [(.bool false, .tuple [.int f, .int c, .int a, .str q, d])]
abbrev lamF (q : Str) (params : Arguments) (scope : Scope) (cl : List (Str × Addr)) (c : Addr) : NdefX.NF := ⟨"<lambda>", q, params, [], scope, cl, c⟩
/-- the lambda at f stands in the base, its captured name holds the object at a -/
def LamB (base : Heap) (f c a : Addr) (q : Str) (params : Arguments) (body : Expr) (scope : Scope) (y : Str) : Prop :=
  ∃ (cl : List (Str × Addr)) (pm ctv : Value), base.get? f = some (PySem.W.kla_obj "<lambda>" q params body scope cl pm c ctv) ∧ (∀ z b, cl.lookup z = some b → ∃ v, base.IsCell b v) ∧ (∀ x z b, cl.lookup x = some b → cl.lookup z = some b → x = z) ∧ ∃ b, cl.lookup y = some b ∧ base.IsCell b (some (.ref a))
/-- what its body keeps -/
structure LamM (P : Program) (w : World) (K : PySem.W.Frag) (mg : Str → Option Value) (base : Heap) (k : Nat) (q : Str) (params : Arguments) (body : Expr) (scope : Scope) (N : List Str) (p y : Str) (m : ME) : Prop where
  ns : NdefX.NScope N [p] [y] scope
  bind : ∀ (cl : List (Str × Addr)) (pm cv ctv u : Value), bindArgs (PySem.W.kla_fn "<lambda>" q params body scope cl pm cv ctv) ⟨[u], []⟩ = pure [(p, u)]
  run : ∀ (f c : Addr) (cl : List (Str × Addr)) (A : Around) (outer : List Env) (s : Shared) (H : Hp), A.guards = some [] → Room k (A.deeper (NdefX.envF (lamF q params scope cl c) f s.heap.objs.size)) →
    JE (NdefX.ncx CX0 P w K mg base N (lamF q params scope cl c) f A outer s H E0).nox E0 body m
section
variable {P : Program} {w : World} {K : PySem.W.Frag} {mg : Str → Option Value} {base : Heap} {k : Nat} {q : Str} {params : Arguments} {body : Expr} {scope : Scope} {N : List Str} {p y : Str} {m : ME}
theorem lam_go (L : LamM P w K mg base k q params body scope N p y m) {f c a : Addr} (LB : LamB base f c a q params body scope y) {A : Around} {outer : List Env} {s : Shared} {H : Hp} {u : Value} {v : V} {Q : VK} (gu : A.guards = some []) (hr : Room (k + 1) A)
    (e0 : Env0 P w K mg base A outer s H) (hc : H c = some (LamX.CodeO c q)) (r : RelV v u) (h : tM K mg E0 m (NdefX.startF N [v] [some (.ref a)]) H Q) : codeAny (model P w) A (.call (.ref f) ⟨[u], []⟩) (CR CX0 outer P w H s Q E0) s := by
  obtain ⟨cl, pm, ctv, hf, hall, hinj, b, hb, hv⟩ := LB
  have lim : s.heap.NoLimit := e0.mod.nolimit.keeps fun b o e => (e0.bs b o e).1
  have cellS : ∀ {b : Addr} {v : Option Value}, base.IsCell b v → s.heap.IsCell b v ∧ H b = none := fun {b v} ⟨o, ho, hd⟩ => ⟨⟨o, (e0.bs b o ho).1, hd⟩, (e0.bs b o ho).2⟩
  have C : NdefX.CellsAt cl [y] [some (.ref a)] s.heap H := ⟨rfl, fun z b e => let ⟨v, hz⟩ := hall z b e; ⟨(cellS hz).2, v, (cellS hz).1⟩, hinj, fun i z e => by
    match i, e with
    | 0, e =>
      cases e
      exact ⟨b, hb, fun v e => by cases e; exact ⟨_, rfl, (cellS hv).1⟩⟩⟩
  refine PySem.W.kla_callFunE hr.depth (e0.bs f _ hf).1 rfl L.ns.co L.ns.gen rfl (NdefX.codeO_at e0.hok hc) ?_
  rw [L.bind]
  refine wpAny_pure (wpAny_newFunctionEnv L.ns.nocell (fun z hz => L.ns.par z.1 (by rw [List.mem_singleton.mp hz]; exact List.mem_singleton_self _)) (fun h₁ hns hsb => ⟨lim.fresh _ hsb, ?_⟩) L.ns.kind)
  show codeAny _ _ (.expr body (NdefX.envF (lamF q params scope cl c) f s.heap.objs.size)) _ _
  have kp : ∀ b o, s.heap.get? b = some o → h₁.get? b = some o := fun b o e => hsb.extBut b o (Nat.ne_of_lt (Heap.lt_size e)) (Heap.get?_push_of_some _ e)
  have J := NdefX.inv_startN (CX := CX0) (E := E0) (F := lamF q params scope cl c) (f := f) (tk := s.toks + 1) L.ns hr.hd e0 rfl (Paired.cons r Paired.nil) C hns kp
  refine PySem.W.kla_codeExpr (wpAny_mono ((PE.nox (L.run f c cl A outer s H gu (hr.deeper _))).run [] _ _ H Q J h) (fun v s' hq => ?_) fun _ _ z => z)
  obtain ⟨w', H', J', rv, qq⟩ := hq
  exact ⟨w', H', J'.os, J'.bare, J'.base, J'.hok, rv, qq⟩
end
/-! ### the call of such a lambda -/
def mCallClo (i : Nat) (f0 c0 a0 : Addr) (q : Str) (n : Nat) (mb : ME) (ma : MA) : ME := fun ρ κ => match ρ[i]? with
  | some (some (.d (.dict [(.bool false, .tuple [.int f, .int c, .int a, .str z, d])]))) => if f = (f0 : Int) ∧ c = (c0 : Int) ∧ a = (a0 : Int) ∧ z = q then (ma ρ κ).bind fun xs κ1 => match xs with
    | [x] => mb (some x :: some (.d d) :: List.replicate n none) κ1
    | _ => .bad
    else .bad
  | _ => .bad
theorem clo_inv {K : PySem.W.Frag} {B : Hp} {v : V} {f c a : Int} {z : Str} {d : D} (h : Rp K B v (.dict [(.bool false, .tuple [.int f, .int c, .int a, .str z, d])])) : ∃ f' c' a' : Addr, f = (f' : Int) ∧ c = (c' : Int) ∧ a = (a' : Int) ∧ v = .ref f' ∧ B c' = some (LamX.CodeO c' z) ∧ Rp K B (.ref a') d := by
  cases h with
  | clo h r => exact ⟨_, _, _, rfl, rfl, rfl, rfl, h, r⟩
  | dic _ h => cases h
theorem start_clo {K : PySem.W.Frag} {F : List Addr} {B : Hp} {ι : List Addr} {H : Hp} {κ : Kap} {N : List Str} {n : Nat} {v : V} {x : DV} {a : Addr} {d : D} (s : HSt K F B ι H κ) (w : WOk K B ι v x) (r : Rp K B (.ref a) d) (hn : N.length = n + 2) :
    SOk K F B ι (NdefX.startF N [v] [some (.ref a)]) H (some x :: some (.d d) :: List.replicate n none) κ := by
  have e : NdefX.startF N [v] [some (.ref a)] = some v :: some (.ref a) :: List.replicate n none := by
    unfold NdefX.startF
    rw [hn]
    rfl
  rw [e]
  refine ⟨s, by simp, fun i y h => ?_⟩
  match i, h with
  | 0, h => cases h; exact ⟨v, rfl, w⟩
  | 1, h => cases h; exact ⟨_, rfl, r⟩
  | i + 2, h =>
    have := List.mem_of_getElem? (show (List.replicate n (none : Option DV))[i]? = some (some y) from h)
    rw [List.mem_replicate] at this
    cases this.2
section
variable {X : Cx} {k j i n : Nat} {q : Str} {params : Arguments} {body : Expr} {scope : Scope} {N : List Str} {p y x : Str} {mb : ME} {f c a : Addr} {px pos : Pos} {e : Expr} {es : List Expr} {ma : MA}
theorem je_callClo (gu : X.A.guards = some []) (hr : Room j X.A) (hk : k + 1 ≤ j) (L : LamM X.prog X.w X.K X.mg X.base k q params body scope N p y mb) (hn : N.length = n + 2) (LB : LamB X.base f c a q params body scope y) (hN : X.N[i]? = some x) (ha : JA X E0 (e :: es) ma)
    (hv : Vis X.env.scope x := by first | exact Or.inl rfl | exact Or.inr (Or.inl rfl) | exact Or.inr (Or.inr rfl)) (hd : (x == ("__debug__" : Str)) = false := by decide) (hcd : (x == ("__classdict__" : Str)) = false := by decide)
    (he : starEach (e :: es) X.env = (false, eval e X.env) :: starEach es X.env := by rfl) (hpl : (backTo pos (starEach es X.env)).any (·.1) = false := by rfl) :
    JE X E0 (.Call (.Name x px) (e :: es) [] pos) (mCallClo i f c a q n mb ma) := by
  refine ⟨fun pins s σ H Q I h => ?_⟩
  obtain ⟨F, B, ι, ρ, κ, so, h⟩ := h
  unfold mCallClo at h
  split at h
  · rename_i f1 c1 a1 z d e0
    split at h
    · rename_i hh
      obtain ⟨rfl, rfl, rfl, rfl⟩ := hh
      obtain ⟨v, hs, w⟩ := so.loc i _ e0
      obtain ⟨f', c', a', ef, ec, ea, rfl, hcB, rd⟩ := clo_inv (show Rp X.K B v _ from w)
      obtain rfl : f = f' := Int.ofNat.inj ef
      obtain rfl : c = c' := Int.ofNat.inj ec
      obtain rfl : a = a' := Int.ofNat.inj ea
      have fnAt : ∀ {s : Shared} {H : Hp} {σ : L2.St}, Inv X pins σ H s → PySem.W.FnAt f s.heap := fun I => by
        obtain ⟨cl, pm, ctv, hf, _⟩ := LB
        exact ⟨_, _, _, _, I.bk _ _ hf⟩
      refine wpAny_Call_Name_kw (thn ((pe_var (pos := px) hN hv hd hcd).run pins s σ H (fun v H1 => v = .ref f ∧ H1 = H) I ⟨.ref f, hs, rfl, rfl⟩) fun u s1 ⟨v, H1, I1, r1, q1⟩ => ?_)
      obtain ⟨rfl, rfl⟩ := q1
      obtain rfl : u = Value.ref f := r1
      refine PySem.W.callWith_F (first := []) (fnAt I1) (thn (ha.run pos pins s1 σ _ (fun vs H2 => ∃ F2 B2 ι2 xs κ2, HSt X.K F2 B2 ι2 H2 κ2 ∧ B2 c = some (LamX.CodeO c z) ∧ Rp X.K B2 (.ref a) d ∧ Paired (WOk X.K B2 ι2) vs xs ∧ PostE X.K X.mg E0 F2 B2 ι2 H2 Q (match xs with
        | [x] => mb (some x :: some (.d d) :: List.replicate n none) κ2
        | _ => .bad)) I1 ?_) fun us s2 ⟨vs, H2, I2, r, q2⟩ => ⟨fnAt I2, ?_⟩) he hpl
      · refine evA so (fun xs κ1 e1 vs B1 ι1 H1 g1 s1 w1 => ?_) (fun n fs κ1 e1 => by rw [e1] at h; exact fun C d B' ι' H' ws a b c e f => absurd (h C d B' ι' H' ws a b c e f) id) (fun e => by rw [e] at h; exact h)
        rw [e1] at h
        exact ⟨F, B1, ι1, xs, κ1, s1, g1.b _ _ hcB, Rp.mono g1.b rd, w1, PostE.grow h g1⟩
      · obtain ⟨F2, B2, ι2, xs, κ2, st2, cb, rd2, wp, post⟩ := q2
        show wpAny _ _ (call (.ref f) us) _ _ _
        cases wp with
        | nil => exact post.elim
        | cons w1 wr =>
          cases wr with
          | cons _ _ => exact post.elim
          | nil =>
            cases r with
            | cons r1 rr =>
              cases rr
              refine wpAny_call (codeAny_mono (lam_go L LB gu (hr.mono hk) I2.env0 (st2.ex _ _ cb) r1 ⟨F2, B2, ι2, _, κ2, start_clo st2 w1 rd2 hn, post⟩) ?_)
              rintro (er | fl) s' q3
              · exact pass0 pins σ H2 s2 er s' I2 q3
              · match fl, q3 with
                | .ret u, q3 => exact I2.after q3
                | .next, q3 => exact False.elim q3
                | .brk, q3 => exact False.elim q3
                | .cont, q3 => exact False.elim q3
    · exact h.elim
  · exact h.elim
end
/-! ### its making -/
section
variable {X : Cx} {pins : List (Addr × Obj)} {σ : L2.St} {H : Hp} {s : Shared} {F : List Addr} {B : Hp} {ι : List Addr} {κ : Kap}
/-- the state behind the writing of a code object into the table -/
theorem HSt.code {K : PySem.W.Frag} {P c : Addr} {q : Str} {ps more : Array Value} {pos : Pos} (hs : HSt K F B ι H κ) (hm : (P, q) ∈ tabsOf K) (hu : ∀ p ∈ tabsOf K, p.1 = P → p.2 = q) (hP : H P = some (.tbl ps)) (ht : TriplesOk ps.toList)
    (ha : ∀ (pos : Pos) (cv : Value), codeAmong pos ps.toList = some cv → ∃ c, cv = .ref c ∧ B c = some (LamX.CodeO c q)) (hc : H c = none) (em : more = #[rawInt pos.line, rawInt pos.col, .ref c]) :
    HSt K F (upd B c (LamX.CodeO c q)) ι (upd (upd H P (.tbl (ps ++ more))) c (LamX.CodeO c q)) κ ∧ Grow F B ι H (upd B c (LamX.CodeO c q)) ι (upd (upd H P (.tbl (ps ++ more))) c (LamX.CodeO c q)) := by
  obtain ⟨_, hBP, hPi, hPF⟩ := hs.tb _ hm
  have hB : B c = none := by
    cases z : B c with
    | none => rfl
    | some o => rw [hs.ex _ _ z] at hc; cases hc
  have ne : ∀ {a : Addr} {o : HO}, H a = some o → a ≠ c := fun e => ne_of_none e hc
  have at_ : ∀ {a : Addr}, a ≠ c → a ≠ P → upd (upd H P (.tbl (ps ++ more))) c (LamX.CodeO c q) a = H a := fun h1 h2 => by rw [upd_ne h1, upd_ne h2]
  have pc : P ≠ c := ne hP
  have bn : ∀ {a : Addr}, a ≠ c → upd B c (LamX.CodeO c q) a = B a := fun h => upd_ne h
  have b : Same B (upd B c (LamX.CodeO c q)) := Same.updNew hB
  have nP : ∀ {a : Addr} {o : HO}, B a = some o → a ≠ P := fun e z => by rw [z, hBP] at e; cases e
  have iP : ∀ {a : Addr}, a ∈ ι → a ≠ P := fun m z => hPi (z ▸ m)
  have fP : ∀ {a : Addr}, a ∈ F → a ≠ P := fun m z => hPF (z ▸ m)
  have iC : ∀ {a : Addr}, a ∈ ι → a ≠ c := fun m => let ⟨o, e⟩ := hs.tr _ m; ne e
  have fC : ∀ {a : Addr}, a ∈ F → a ≠ c := fun m => let ⟨⟨o, e⟩, _⟩ := hs.pro _ m; ne e
  refine ⟨⟨fun a o e => ?_, hs.len, hs.nd, fun i a m l => ?_, fun a m => ?_, fun i a cl e1 e2 => ?_, fun a m => ?_, fun p m => ?_⟩, ⟨b, fun _ _ h => h, fun a m => at_ (fC m) (fP m)⟩⟩
  · by_cases z : a = c
    · subst z; rw [upd_same] at e ⊢; exact e
    · rw [bn z] at e; rw [at_ z (nP e)]; exact hs.ex a o e
  · rw [bn (iC (List.mem_of_getElem? m))]; exact hs.out i a m l
  · obtain ⟨h1, h2, h3⟩ := hs.pro a m
    exact ⟨by rw [at_ (fC m) (fP m)]; exact h1, by rw [bn (fC m)]; exact h2, h3⟩
  · have m := List.mem_of_getElem? e1
    exact (hs.cel i a cl e1 e2).mono b (fun _ _ h => h) (at_ (iC m) (iP m))
  · rw [at_ (iC m) (iP m)]; exact hs.tr a m
  · obtain ⟨⟨ps', t1, t2, t3⟩, t4, t5, t6⟩ := hs.tb p m
    have n1 : p.1 ≠ c := ne t1
    refine ⟨?_, by rw [bn n1]; exact t4, t5, t6⟩
    by_cases z : p.1 = P
    · have e2 := hu p m z
      rw [z, hP] at t1
      cases t1
      refine ⟨ps ++ more, by rw [z, upd_ne pc, upd_same], ?_, fun pos' cv hcv => ?_⟩
      · rw [em, Array.toList_append]; exact PySem.TriplesOk_snoc _ _ _ _ ht
      · rw [em, Array.toList_append] at hcv
        rcases LamX.among_app (pos := pos) _ ht hcv with w | w
        · obtain ⟨c0, a1, a2⟩ := ha pos' cv w
          exact ⟨c0, a1, by rw [e2]; exact b _ _ a2⟩
        · exact ⟨c, w, by rw [e2]; exact upd_same⟩
    · refine ⟨ps', by rw [at_ n1 z]; exact t1, t2, fun pos' cv hcv => ?_⟩
      obtain ⟨c0, a1, a2⟩ := t3 pos' cv hcv
      exact ⟨c0, a1, b _ _ a2⟩
theorem lam_mk {c P : Addr} {q : Str} {params : Arguments} {body : Expr} {scope : Scope} {pos : Pos} {E : Value → Shared → Prop} {Q : Value → Shared → Prop} (I : Inv X pins σ H s) (TB : LamX.TabB X.base X.mg c P) (hcode : X.env.code = .ref c) (hq : X.env.qual ++ "<lambda>" = q)
    (hs : HSt X.K F B ι H κ) (hm : (P, q) ∈ tabsOf X.K) (hu : ∀ p ∈ tabsOf X.K, p.1 = P → p.2 = q) (hdef : defaultsOf params X.env = ([], [])) (hfree : ∀ y ∈ scope.names, y.2 = .free → ∃ c, X.env.cells.lookup y.1 = some c)
    (h : ∀ (f c' : Addr) (pm ctv : Value) (H1 B1 : Hp) (s' : Shared), Inv X pins σ H1 s' → HSt X.K F B1 ι H1 κ → Grow F B ι H B1 ι H1 → s'.heap.get? f = some (PySem.W.kla_obj "<lambda>" q params body scope (cloFrom X.env.cells scope.names []) pm c' ctv) → H1 f = none → f ∉ frs X.stack →
      B1 c' = some (LamX.CodeO c' q) → Q (.ref f) s') : wpAny (model X.prog X.w) X.A (eval (.Lambda params body scope pos) X.env) Q E s := by
  subst hq
  obtain ⟨⟨ps, hP, ht, ha⟩, hBP, hPi, hPF⟩ := hs.tb _ hm
  have far : ∀ f, s.heap.objs.size ≤ f → f ∉ frs X.stack := fun f hf z => (List.mem_cons.mp (I.stkSub _ z)).elim (fun e => Nat.lt_irrefl f (Nat.lt_of_lt_of_le (by rw [e]; exact I.lt) hf)) (I.nofs hf)
  refine PySem.W.kla_eval hdef ?_
  cases hc : codeAmong pos ps.toList with
  | some cv =>
    obtain ⟨c', rfl, hB⟩ := ha pos cv hc
    refine PySem.W.kla_makeFunctionHit (mg := X.mg) (c := c) (P := P) (ps := ps) (closure_ok hfree) I.ok.glob (I.mod.glob.keeps I.bk) hcode (TB.code.keeps I.bk) (I.hok P _ hP) ht hc (TB.bm.keeps I.bk) fun ctv h' tk hx hz => ?_
    exact h h'.objs.size c' _ ctv H B _ (I.kept (t' := tk) fun b o e => Heap.get?_push_of_some _ (hx b o e)) hs Grow.refl (Heap.get?_push_size _ rfl) (I.hok.fresh hz) (far _ hz) hB
  | none =>
    refine PySem.W.kla_makeFunction (mg := X.mg) (c := c) (P := P) (ps := ps) (closure_ok hfree) I.ok.glob (I.mod.glob.keeps I.bk) hcode (TB.code.keeps I.bk) (I.hok P _ hP) ht hc TB.gP (TB.bm.keeps I.bk) fun c' ctv h' tk hx hge hlt hrec htb => ?_
    obtain ⟨c2, oc, vs, t2, e2, hoc, hd, hv⟩ := hrec
    cases e2
    obtain ⟨s1, g1⟩ := hs.code (pos := pos) hm hu hP ht ha (I.hok.fresh hge) rfl
    have hz : s.heap.objs.size ≤ h'.objs.size := Nat.le_of_lt (Nat.lt_of_le_of_lt hge hlt)
    have I1 := LamX.inv_table (t' := tk) (more := #[rawInt pos.line, rawInt pos.col, .ref c']) (h' := h'.push (PySem.W.kla_obj "<lambda>" (X.env.qual ++ "<lambda>") params body scope (cloFrom X.env.cells scope.names []) ((X.mg "__name__").getD .none) c' ctv)) I hP
      (fun b o n e => Heap.get?_push_of_some _ (hx b o n e)) (Heap.get?_push_of_some _ htb) hge ⟨oc, vs, t2, Heap.get?_push_of_some _ hoc, hd, hv⟩
    refine h h'.objs.size c' _ ctv _ _ _ I1 s1 g1 (Heap.get?_push_size _ rfl) ?_ (far _ hz) upd_same
    have nP : h'.objs.size ≠ P := Nat.ne_of_gt (Nat.lt_of_lt_of_le (Heap.lt_size (I.hok P _ hP)) hz)
    rw [upd_ne (Nat.ne_of_gt hlt), upd_ne nP]
    exact I.hok.fresh hz
end
/-! ### a call over another base -/
theorem fun_frames {h base base' : Heap} : ∀ {l : List Env}, h.FunFrames base l → (∀ b ∈ frs l, base'.get? b = none) → h.FunFrames base' l
  | [], _, _ => trivial
  | env :: r, ⟨h1, ⟨L, o, e1, e2, e3, e4⟩, h5⟩, hn => by
    have sub : ∀ b ∈ frs r, base'.get? b = none := fun b m => hn b (by
      unfold frs at m ⊢
      rw [List.filterMap_cons, e1]
      exact List.mem_cons_of_mem _ m)
    refine ⟨h1, ⟨L, o, e1, hn L ?_, e3, e4⟩, fun_frames h5 sub⟩
    unfold frs
    rw [List.filterMap_cons, e1]
    exact List.mem_cons_self
/-- all that stands still: what isn't tracked, but the frames -/
def hidF (X : Cx) (H : Hp) : Hp := fun b => open Classical in if b ∈ frs X.stack then some (.ext fun _ => True) else H b
section
variable {X : Cx} {pins : List (Addr × Obj)} {σ : L2.St} {H : Hp} {s : Shared}
theorem hidF_none {b : Addr} (h : hidF X H b = none) : b ∉ frs X.stack ∧ H b = none := by
  unfold hidF at h
  split at h
  · cases h
  · rename_i n; exact ⟨n, h⟩
theorem hidF_of {b : Addr} (h : b ∉ frs X.stack) (n : H b = none) : hidF X H b = none := by
  unfold hidF
  rw [if_neg h]
  exact n
theorem base_sub (I : Inv X pins σ H s) : ∀ b o, X.base.get? b = some o → (hidT s.heap (hidF X H)).get? b = some o := fun b o e => by
  refine hidT_get (I.bk b o e) (hidF_of (fun m => ?_) (I.bs b o e).2)
  have := (I.stack.mem m).1
  rw [e] at this
  cases this
theorem env_base (I : Inv X pins σ H s) : Env0 X.prog X.w X.K X.mg (hidT s.heap (hidF X H)) X.A X.stack s H := by
  have sub := base_sub I
  refine ⟨I.ok.frames, ⟨I.ok.mod.kin.keeps sub, I.ok.mod.glob.keeps sub, let ⟨mb, h1, h2⟩ := I.ok.mod.blt; ⟨mb, h1.keeps sub, h2⟩, I.ok.mod.nolimit.keeps sub⟩, fun b o e => ?_, Nat.le_of_eq (hidT_size _ _), fun_frames I.stack fun b m => ?_, I.stkFree, I.hok, I.bare⟩
  · obtain ⟨h1, h2⟩ := of_hidT e
    exact ⟨h1, (hidF_none h2).2⟩
  · cases z : (hidT s.heap (hidF X H)).get? b with
    | none => rfl
    | some o => exact absurd m (hidF_none (of_hidT z).2).1
theorem goesB {base' : Heap} {CX : CXT} {k : Nat} {f : Addr} {fd : FuncData} {ps : List Str} {sp : Sp} {E : XK} {Q : VK} {us : List Value} {vs : List V} (F : FnG X.prog X.w X.K X.mg base' CX k f fd ps sp) (gu : X.A.guards = some []) (hr : Room k X.A) (e0 : Env0 X.prog X.w X.K X.mg base' X.A X.stack s H)
    (hb : us.length = ps.length → BindsTo s fd ⟨us, []⟩ (ps.zip us)) (hx : Passes CX X E) (I : Inv X pins σ H s) (r : Vals vs us) (h : sp vs H Q E) : wpAny (model X.prog X.w) X.A (call (.ref f) us) (EP X pins σ Q) X.xe s := by
  refine wpAny_call (codeAny_mono (F.go X.A X.stack s H ⟨us, []⟩ us vs Q E gu hr e0 (hb (r.length.symm.trans (F.len _ _ _ _ h))) r h) ?_)
  rintro (er | fl) s' q
  · exact hx pins σ H s er s' I q
  · match fl, q with
    | .ret u, q => exact I.after q
    | .next, q => exact False.elim q
    | .brk, q => exact False.elim q
    | .cont, q => exact False.elim q
end
/-! ### the whole call -/
def isRef : D → Bool
  | .tuple _ => true
  | .list _ => true
  | .dict _ => true
  | _ => false
theorem ref_of {K : PySem.W.Frag} {B : Hp} {v : V} {d : D} (r : Rp K B v d) (h : isRef d = true) : ∃ a, v = .ref a := by
  cases r with
  | non => cases h
  | bl _ => cases h
  | int _ => cases h
  | str _ => cases h
  | lst _ _ => exact ⟨_, rfl⟩
  | tup _ _ => exact ⟨_, rfl⟩
  | scr _ => exact ⟨_, rfl⟩
  | fnc _ _ => exact ⟨_, rfl⟩
  | clo _ _ => exact ⟨_, rfl⟩
  | dic _ _ => exact ⟨_, rfl⟩
/-- what the call tells, whatever the lambda's address -/
noncomputable def lamRes (M : Addr → Addr → Addr → MF) (x : DV) (q : Str) (d : D) (κ : Kap) : Out DV := open Classical in if h : ∃ o, ∀ f c a : Addr, M f c a [x, .d (cloD f c a q d)] κ = o then Classical.choose h else .bad
theorem lamRes_eq {M : Addr → Addr → Addr → MF} {x : DV} {q : Str} {d : D} {κ : Kap} (f c a : Addr) : lamRes M x q d κ = .bad ∨ M f c a [x, .d (cloD f c a q d)] κ = lamRes M x q d κ := by
  unfold lamRes
  split
  · rename_i h; exact .inr (Classical.choose_spec h f c a)
  · exact .inl rfl
theorem lamRes_of {M : Addr → Addr → Addr → MF} {x : DV} {q : Str} {d : D} {κ : Kap} {o : Out DV} (h : ∀ f c a : Addr, M f c a [x, .d (cloD f c a q d)] κ = o) : lamRes M x q d κ = o := by
  rcases lamRes_eq (M := M) (x := x) (q := q) (d := d) (κ := κ) 0 0 0 with e | e
  · unfold lamRes at e
    rw [dif_pos ⟨o, h⟩] at e
    have := Classical.choose_spec (show ∃ o, ∀ f c a : Addr, M f c a [x, .d (cloD f c a q d)] κ = o from ⟨o, h⟩) 0 0 0
    unfold lamRes
    rw [dif_pos ⟨o, h⟩, ← this, h]
  · rw [← e, h]
noncomputable def mCallLam (M : Addr → Addr → Addr → MF) (q : Str) (i : Nat) (me : ME) : ME := fun ρ κ => (me ρ κ).bind fun x κ1 => match ρ[i]? with
  | some (some (.d d)) => if isRef d = true then lamRes M (fz x) q d κ1 else .bad
  | _ => .bad
section
variable {X : Cx} {k i : Nat} {q : Str} {params : Arguments} {body : Expr} {scope : Scope} {N : List Str} {p y g : Str} {st : Stmt} {ps : List Str} {M : Addr → Addr → Addr → MF} {c P : Addr} {px pos lpos : Pos} {e : Expr} {me : ME}
theorem je_callLam {fg : Addr} {fd : FuncData} (gu : X.A.guards = some []) (hr : Room k X.A) (TB : LamX.TabB X.base X.mg c P) (hcode : X.env.code = .ref c) (hq : X.env.qual ++ "<lambda>" = q) (hm : (P, q) ∈ tabsOf X.K) (hu : ∀ p ∈ tabsOf X.K, p.1 = P → p.2 = q)
    (Fu : Fun X.K g g st fg fd) (hb : Binds X.K fd ps []) (hmg : X.mg g = some (.ref fg)) (C : ∀ (base' : Heap) (f c a : Addr), LamB base' f c a q params body scope y → Cal X.prog X.w X.K X.mg base' k g st ps (M f c a)) (hps : ps.length = 2) (S : NdefX.NScope N [p] [y] scope)
    (hy : X.env.scope.names.lookup y = some .cell ∨ X.env.scope.names.lookup y = some .free) (hfn : X.fn y = true) (hN : X.N[i]? = some y) (he1 : JE X E0 e me) (hyf : (y, NameKind.free) ∈ scope.names)
    (hdef : defaultsOf params X.env = ([], []) := by rfl) (hg : Gl X g := by rfl) (hdb : (g == ("__debug__" : Str)) = false := by decide)
    (he : starEach [e, .Lambda params body scope lpos] X.env = (false, eval e X.env) :: starEach [.Lambda params body scope lpos] X.env := by rfl) (hpl : (backTo pos (starEach [.Lambda params body scope lpos] X.env)).any (·.1) = false := by rfl) :
    JE X E0 (.Call (.Name g px) [e, .Lambda params body scope lpos] [] pos) (mCallLam M q i me) := by
  refine ⟨fun pins s σ H Q I h => ?_⟩
  obtain ⟨F, B, ι, ρ, κ, so, h⟩ := h
  unfold mCallLam at h
  have names : ∀ z ∈ scope.names, z.2 = .free → X.env.scope.names.lookup z.1 = some .cell ∨ X.env.scope.names.lookup z.1 = some .free := fun z hz ez => by
    rw [List.mem_singleton.mp (S.free z hz ez)]; exact hy
  refine wpAny_Call_Name_kw (ld_glob I hg hmg (PySem.W.callWith_K (h₀ := X.base) I.ok.mod.kin Fu.kp ?_ he hpl) hdb)
  rw [he]
  show wpAny _ _ (spliced ((false, eval e X.env) :: backTo pos (starEach [.Lambda params body scope lpos] X.env))) _ _ s
  refine Calls.spliced_cons (thn (he1.run pins s σ H (fun v H1 => ∃ B1 ι1 κ1 x, me ρ κ = .ok x κ1 ∧ Grow F B ι H B1 ι1 H1 ∧ HSt X.K F B1 ι1 H1 κ1 ∧ WOk X.K B1 ι1 v (fz x)) I ?_) fun u s1 ⟨v, H1, I1, r1, B1, ι1, κ1, x, e1, g1, st1, w1⟩ => ?_)
  · refine evE so (fun x κ1 e1 v B1 ι1 H1 g1 st1 w1 => ?_) (fun n fs κ1 e1 => by rw [e1] at h; exact fun C d B' ι' H' ws a b c e f => absurd (h C d B' ι' H' ws a b c e f) id) (fun e => by rw [e] at h; exact h)
    obtain ⟨B2, st2, g2, w2⟩ := st1.fz w1
    exact ⟨B2, ι1, κ1, x, e1, g1.trans g2, st2, w2⟩
  · rw [e1] at h
    dsimp only [Out.bind] at h
    split at h
    · rename_i d ed
      split at h
      · rename_i hd
        obtain ⟨vy, hsy, wy⟩ := so.loc i _ ed
        obtain ⟨a, rfl⟩ := ref_of (show Rp X.K B vy d from wy) hd
        show wpAny _ _ (spliced ((false, eval (.Lambda params body scope lpos) X.env) :: [])) _ _ s1
        refine Calls.spliced_cons (lam_mk I1 TB hcode hq st1 hm hu hdef (fun z hz ez => (names z hz ez).elim (fun q => I1.ok.has _ (.inl q)) fun q => I1.ok.has _ (.inr q)) fun f c' pm ctv H2 B2 s2 I2 st2 g2 hf hfn0 hfr hcB => ?_)
        refine Calls.spliced_nil ⟨I2.kIn, ?_⟩
        have C0 := NdefX.cells_of I2 (NdefX.Caps.made (scope := scope) (fr := [y]) (js := [i]) I2.ok names (fun z hz => by rw [List.mem_singleton.mp hz]; exact hyf) (by rw [List.map_cons, hN]; rfl))
        have far : ∀ z b, (cloFrom X.env.cells scope.names []).lookup z = some b → b ∉ frs X.stack := fun z b hz m => by
          have hx := NdefX.clo_cm (fun z hz ez => (names z hz ez).elim (fun q => I1.ok.has _ (.inl q)) fun q => I1.ok.has _ (.inr q)) hz
          have hzy : z = y := by
            rcases cloFrom_mem (PySem.mem_of_lookup hz) with hm | ⟨h1, _⟩
            · cases hm
            · exact List.mem_singleton.mp (S.free _ h1 rfl)
          obtain ⟨_, v, o, ho, hdv⟩ := C0.all z b hz
          rcases List.mem_cons.mp (I2.stkSub _ m) with e' | m
          · obtain ⟨mm, ⟨o', es, ep, ho', hd', _⟩, _⟩ := I2.loc
            rw [e', ho'] at ho
            cases ho
            rw [hdv] at hd'
            cases hd'
          · obtain ⟨_, o', ho', _⟩ := I2.ok.funs.mem m
            exact Nat.lt_irrefl b (Nat.lt_of_lt_of_le (Heap.lt_size ho') (I2.ok.cab y b hfn (hzy ▸ hx)))
        have cellB : ∀ z b v, (cloFrom X.env.cells scope.names []).lookup z = some b → s2.heap.IsCell b v → (hidT s2.heap (hidF X H2)).IsCell b v := fun z b v hz ⟨o, ho, hdv⟩ => ⟨o, hidT_get ho (hidF_of (far z b hz) (C0.all z b hz).1), hdv⟩
        have LB : LamB (hidT s2.heap (hidF X H2)) f c' a q params body scope y := by
          refine ⟨_, pm, ctv, hidT_get hf (hidF_of hfr hfn0), fun z b hz => let ⟨_, v, hv⟩ := C0.all z b hz; ⟨v, cellB z b v hz hv⟩, C0.inj, ?_⟩
          obtain ⟨b, hb1, hb2⟩ := C0.has 0 y rfl
          obtain ⟨u1, ru, hu1⟩ := hb2 (.ref a) (by show some (NdefX.slotAt σ i) = _; rw [NdefX.slotAt_of hsy])
          obtain rfl : u1 = Value.ref a := ru
          exact ⟨b, hb1, cellB y b _ hb1 hu1⟩
        have CC := C _ f c' a LB
        show wpAny _ _ (call (.ref fg) [u, .ref f]) _ _ _
        refine goesB (vs := [v, .ref f]) (CC.fn Fu hmg) gu hr (env_base I2) (fun l => ?_) pass0 I2 (Paired.cons r1 (Paired.cons (show RelV (.ref f) (.ref f) from rfl) Paired.nil)) ⟨hps.symm, F, B2, ι1, [fz x, .d (cloD f c' a q d)], κ1, st2, .cons (w1.grow g2) (.cons (b := DV.d (cloD f c' a q d)) (Rp.clo hcB (Rp.mono (g1.trans g2).b (show Rp X.K B (.ref a) d from wy))) .nil), ?_⟩
        · have z := hb s2 [u, .ref f] I2.kIn (by rw [List.append_nil]; exact l)
          rw [List.append_nil] at z
          exact z
        · rcases lamRes_eq (M := M) (x := fz x) (q := q) (d := d) (κ := κ1) f c' a with z | z
          · rw [z] at h; exact h.elim
          · rw [z]; exact PostE.grow h (g1.trans g2)
      · exact h.elim
    · exact h.elim
end
end DL

namespace DL
open L2 PyProof.Rows PySem PySem.Spec

/-! ### a def whose code object is known -/
def CodeAt (K : PySem.W.Frag) (f : Addr) (cd : Value) : Prop := ∃ (oc : Value) (od : Option Addr) (fd : FuncData) (osl : Array (Option Value)), K.lookup f = some ⟨oc, od, .func fd, osl⟩ ∧ fd.code = cd
theorem CodeAt.inj {K : PySem.W.Frag} {f : Addr} {a b : Value} (h : CodeAt K f a) (g : CodeAt K f b) : a = b := by
  obtain ⟨_, _, _, _, e1, e2⟩ := h
  obtain ⟨_, _, _, _, e3, e4⟩ := g
  rw [e1] at e3
  cases e3
  exact e2.symm.trans e4
theorem fnGc {CX : CXT} {P : Program} {w : World} {K : PySem.W.Frag} {mg : Str → Option Value} {base : Heap} {k : Nat} {f : Addr} {fd : FuncData} {st : Stmt} {name qual : Str} {N ps : List Str} {sp : Sp} {cdv : Value}
    (Fu : Fun K name qual st f fd) (S : FnScope N ps (defScope st)) (CA : CodeAt K f cdv) (len : ∀ vs H Q E, sp vs H Q E → vs.length = ps.length)
    (body : ∀ (A : Around) (outer : List Env) (s : Shared) (H : Hp) (vs : List V) (Q : VK) (E : XK), A.guards = some [] → Room k (A.deeper (envOfC qual (defScope st) s.heap.objs.size f cdv)) → sp vs H Q E →
      ∃ t, PSs (cxOf CX P w K mg base N qual (defScope st) f cdv A outer s H E) (defBody st) t ∧ t { nx := fun _ H' => Q .non H', rt := Q } (L2.start N vs) H) : FnG P w K mg base CX (k + 1) f fd ps sp := by
  obtain ⟨oc, od, kV, doc, pm, an, cdv', ct, osl, rfl, look, code⟩ := Fu.ex
  obtain rfl : cdv' = cdv := CodeAt.inj ⟨oc, od, _, osl, look, rfl⟩ CA
  refine ⟨len, fun A outer s H args us vs Q E gu room en bi va pr => ?_⟩
  have inS : ∀ b o, base.get? b = some o → s.heap.get? b = some o := fun b o e => (en.bs b o e).1
  have kin : K.In s.heap := en.mod.kin.keeps inS
  have kinds : ∀ y ∈ ps.zip us, (defScope st).names.lookup y.1 = some .local ∨ ((defScope st).names.lookup y.1 = some .cell ∧ ((cellsFrom (s.heap.objs.size + 1) (defScope st).names []).lookup y.1).isSome = true) := by
    rintro ⟨n, v⟩ my
    cases S.par n (List.of_mem_zip my).1 with
    | inl q => exact .inl q
    | inr q => exact .inr ⟨q, PySem.W.cellsFrom_some _ _ _ (.inl q)⟩
  refine codeAny_call_function room.depth (kin _ _ look) rfl S.co S.gen rfl (PySem.W.codeRec_of kin code) (bi _ _ _ _ (wpAny_newFunctionEnv_cells S.kind kinds fun env ee s1 x => ?_))
  subst ee
  refine ⟨(en.mod.nolimit.keeps inS).keeps x.toInCall.keep, codeAny_func ?_⟩
  obtain ⟨t, run, reads⟩ := body A outer s H vs Q E gu (room.deeper _) pr
  have start := inv_start (CX := CX) (E := E) (cd := cdv') (f := f) (qual := qual) S room.hd en (len _ _ _ _ pr) va x
  refine wpAny_mono (run.run [] s1 _ H _ start reads) (fun fl s' h => ?_) fun _ _ h => h
  have back : ∀ {σ' : L2.St} {H' : Hp} {v : V} {u : Value}, Inv (cxOf CX P w K mg base N qual (defScope st) f cdv' A outer s H E) [] σ' H' s' → RelV v u → Q v H' → CE outer P w H s Q u s' := by
    intro σ' H' v u J rv q
    exact ⟨v, H', J.os, J.bare, J.base, J.hok, rv, q⟩
  match fl, h with
  | .ret u, ⟨v, σ', H', J, rv, q⟩ => exact back J rv q
  | .next, ⟨σ', H', J, q⟩ => exact back (v := .non) (u := .none) J rfl q
  | .brk, ⟨_, _, _, q⟩ => exact False.elim q
  | .cont, ⟨_, _, _, q⟩ => exact False.elim q
section
variable {P : Program} {w : World} {K : PySem.W.Frag} {mg : Str → Option Value} {base : Heap}
theorem ok_defC {x qual : Str} {st : Stmt} {f : Addr} {fd : FuncData} {N ps : List Str} {k : Nat} {mb : MS} {cdv : Value} (Fu : Fun K x qual st f fd) (S : FnScope N ps (defScope st)) (CA : CodeAt K f cdv)
    (hb : ∀ (A : Around) (outer : List Env) (s : Shared) (H : Hp) (E : XK), A.guards = some [] → Room k (A.deeper (envOfC qual (defScope st) s.heap.objs.size f cdv)) →
      JSs (cxOf CX0 P w K mg base N qual (defScope st) f cdv A outer s H E).nox E0 (defBody st) mb) : FnG P w K mg base CX0 (k + 1) f fd ps (spM K mg ps.length (mDef ps.length N.length mb)) := by
  refine fnGc Fu S CA (fun vs H Q E h => h.1) (fun A outer s H vs Q E gu hr h => ?_)
  obtain ⟨hl, F, B, ι, xs, κ, hs, p, h⟩ := h
  refine ⟨_, (hb A outer s H E gu hr).nox, ?_⟩
  unfold mDef at h
  rw [if_pos (by rw [← p.length]; exact hl)] at h
  exact fin_ok hs p h
end
/-! ### X[e] of a module's dict of defs -/
section
variable {X : Cx} {x : Str} {ds : List (D × D)} {p1 pos : Pos} {E : XK} {i : Expr} {mi : ME}
theorem je_mdsub (M : MDict X.K X.w X.mg x ds) (hgx : Gl X x) (hi : JE X E i mi) (hs : NoSl i) (hdx : (x == ("__debug__" : Str)) = false := by decide) :
    JE X E (.Subscript (.Name x p1) i pos) (mDget (mC (.dict ds)) mi) := by
  obtain ⟨d, es, n, kus, h1, h2, h3, h4, h5, h6, h7, h8⟩ := M.ex
  refine ⟨fun pins s σ H Q I h => ?_⟩
  obtain ⟨F, B, ι, ρ, κ, so, h⟩ := h
  unfold mDget mC at h
  replace h : PostE X.K X.mg E F B ι H Q (Out.bind (mi ρ κ) fun y κ2 => match (DV.d (.dict ds)), y with
    | .d (.dict kvs), .d k => match dgetD kvs k with
      | some v => .ok (.d v) κ2
      | none => .bad
    | _, _ => .bad) := h
  refine subD_of PySem.F.slot_dict_getitem.lookup hs (thn ((pe_glob (pos := p1) hgx h1 (show RelV (.ref d) (.ref d) from rfl) hdx).run pins s σ H (fun v H1 => v = .ref d ∧ H1 = H) I ⟨rfl, rfl⟩) fun u s1 ⟨v, H1, I1, r1, q1⟩ => ?_)
  obtain ⟨rfl, rfl⟩ := q1
  obtain rfl : u = Value.ref d := r1
  refine thn (hi.run pins s1 σ _ (fun y H2 => ∃ (B2 : Hp) (ky : Key) (z : V) , y = kV ky ∧ valV (tk kus) ky = some z ∧ Q z H2) I1 ?_) fun iv s2 ⟨y, H2, I2, ry, B2, ky, z, ey, ez, q2⟩ => ?_
  · refine evE so (fun y κ2 e2 u B2 ι2 H2 g2 s2 w2 => ?_) (fun n fs κ1 e1 => by rw [e1] at h; exact h) (fun e => by rw [e] at h; exact h)
    rw [e2] at h
    dsimp only [Out.bind] at h
    cases y with
    | d k =>
      dsimp only at h
      split at h
      · rename_i dd ed
        obtain ⟨ky, ek⟩ := key_some ed
        obtain ⟨z, e3, r3⟩ := (dget_ok (h6 B2) ek).1 dd ed
        exact ⟨B2, ky, z, key_v ek (show Rp X.K B2 u k from w2), e3, h z B2 ι2 H2 g2 s2 r3⟩
      · exact h.elim
    | _ => exact h.elim
  · subst ey
    obtain ⟨pr, rel⟩ := ents_pairs (P := X.prog) (w := X.w) h5
    have dd : s2.heap.DictOf (mixKind X.prog X.w) d (List.zipWith (fun (q : Str × V) (e : DictEntry) => (Sum.inr q.1, e.val)) kus es.toList) := by
      refine ⟨_, es, n, I2.kIn _ _ h2, ⟨rfl, rfl, rfl⟩, rfl, fun e m => ?_, pr, ?_⟩
      · obtain ⟨x, t, e1, e2⟩ := h3.all e (Array.mem_toList_iff.mpr m)
        exact ⟨Sum.inr x, by rw [e1]; exact mixKind_str X.prog X.w x t, e2⟩
      · rw [zip_keys h5]
        rw [show (kus.map fun q => (Sum.inr q.1 : Key)) = (kus.map (·.1)).map Sum.inr from (List.map_map ..).symm]
        exact (List.pairwise_map.mpr (h7.imp fun h e => h (Sum.inr.inj e)))
    obtain ⟨w', hw, rw'⟩ := RelO.some_of (v := z) (o := valueAt (List.zipWith (fun (q : Str × V) (e : DictEntry) => ((Sum.inr q.1 : Key), e.val)) kus es.toList) ky) (by rw [← ez]; exact rel.val ky)
    refine ⟨⟨_, I2.kIn _ _ h2, rfl⟩, wpAny_getItem_of (kV_is ry) dd.mapOf hw ⟨z, H2, I2.tok _, rw', q2⟩⟩
end
/-! ### a text within a text -/
def subT (a b : Str) : Bool := !(Builtin.Str.occurrences b a 0 b.length 1).isEmpty
def inTD (_ : Kap) (x y : DV) : Option DV := match x, y with
  | .d (.str a), .d (.str b) => some (.d (.bool (subT a b)))
  | _, _ => none
theorem inTI {K : PySem.W.Frag} : BinI K (fun x y H Q => ∃ i j, x = .str i ∧ y = .str j ∧ Q (.bl (!(Builtin.Str.occurrences j i 0 j.length 1).isEmpty)) H) inTD := fun F B ι H κ v w x y z s wx wy e Q q => by
  unfold inTD at e
  split at e
  · cases e; cases wx; cases wy
    exact ⟨_, _, rfl, rfl, keepQ s (.bl _) q⟩
  · cases e
/-! ### the tables of the text -/
structure LamAt (K : PySem.W.Frag) (x : Str) (f c P : Addr) : Prop where
  n : PySem.W.nsIn K mainGlobals x = some (some (.ref f))
  cd : CodeAt K f (.ref c)
  t : ∃ (oc : Value) (od : Option Addr) (vs : Array Value) (osl : Array (Option Value)), K.lookup c = some ⟨oc, od, .fields vs, osl⟩ ∧ (vs[11]? : Option Value) = some (.ref P)
  hd : PySem.W.codeHdIn K c P = true
  out : K.lookup P = none
theorem tabOf_at {K : PySem.W.Frag} {x : Str} {f c P : Addr} (L : LamAt K x f c P) : tabOf K x = some P := by
  obtain ⟨oc, od, fd, osl, e1, e2⟩ := L.cd
  obtain ⟨oc', od', vs, osl', e3, e4⟩ := L.t
  unfold tabOf
  rw [L.n]
  dsimp only
  rw [e1]
  dsimp only
  rw [e2]
  dsimp only
  rw [e3]
  dsimp only
  rw [e4]
theorem tabOf_no {K : PySem.W.Frag} {x : Str} (h : PySem.W.nsIn K mainGlobals x = some none) : tabOf K x = none := by
  unfold tabOf
  rw [h]
theorem tabs_none {K : PySem.W.Frag} (h1 : PySem.W.nsIn K mainGlobals "holds" = some none) (h2 : PySem.W.nsIn K mainGlobals "holds_of" = some none) (h3 : PySem.W.nsIn K mainGlobals "best_way" = some none) : tabsOf K = [] := by
  unfold tabsOf lamNames
  simp only [List.filterMap_cons, List.filterMap_nil, tabOf_no h1, tabOf_no h2, tabOf_no h3, Option.map_none]
theorem tabs_holds {K : PySem.W.Frag} {f c P : Addr} (L : LamAt K "holds" f c P) (h2 : PySem.W.nsIn K mainGlobals "holds_of" = some none) (h3 : PySem.W.nsIn K mainGlobals "best_way" = some none) : tabsOf K = [(P, ("holds.<locals>.<lambda>" : Str))] := by
  unfold tabsOf lamNames
  simp only [List.filterMap_cons, List.filterMap_nil, tabOf_at L, tabOf_no h2, tabOf_no h3, Option.map_none, Option.map_some]
theorem tabs_best {K : PySem.W.Frag} {f c P : Addr} (L : LamAt K "best_way" f c P) (h1 : PySem.W.nsIn K mainGlobals "holds" = some none) (h2 : PySem.W.nsIn K mainGlobals "holds_of" = some none) : tabsOf K = [(P, ("best_way.<locals>.<lambda>" : Str))] := by
  unfold tabsOf lamNames
  simp only [List.filterMap_cons, List.filterMap_nil, tabOf_at L, tabOf_no h1, tabOf_no h2, Option.map_none, Option.map_some]
/-! ### the end -/
def LamLaw (P : Program) (w : World) (K : PySem.W.Frag) (mg : Str → Option Value) (k : Nat) (fa : Addr) (x : Str) (m : MF) (h : Heap) : Prop :=
  ∃ (fd : FuncData) (cs : List (Addr × Addr)), (∀ p ∈ cs, h.get? p.2 = some tab0) ∧ (∀ p ∈ cs, K.lookup p.2 = none) ∧ (∀ p ∈ cs, PySem.W.codeHdIn K p.1 p.2 = true) ∧ (∀ (s : Shared) (u : Value), BindsTo s fd ⟨[u], []⟩ [(x, u)]) ∧
    (∀ H : Hp, (∀ p ∈ cs, H p.2 = some (.tbl #[])) → ∀ p ∈ tabsOf K, H p.1 = some (.tbl #[])) ∧
    ∀ base : Heap, K.In base → base.Ns mainGlobals mg → (∀ p ∈ cs, LamX.TabB base mg p.1 p.2) → FnG P w K mg base CX0 k fa fd [x] (spM K mg 1 m)
abbrev OwnT (K : PySem.W.Frag) (ls : List Str) (h : Heap) : Prop := ∀ (y : Str) (f c P : Addr), y ∈ ls → LamAt K y f c P → h.get? P = some tab0
theorem walkGL {l : PySem.W.OpenLaw} {n k : Nat} {q : Program} {loose : List Str} {XP : (Str → Option Value) → Heap → Prop} {YP : World → Heap → Prop} {d : DefRec} {K : Params → PySem.W.Frag} {m : MF} {x : Str} (ls : List Str)
    (hn : l.most = some n) (hn2 : n ≤ sizeLine) (hdf : d.params.defaults = []) (room : Room k callerA) (hrec : (ls.all fun y => (recsOf q).any fun e => e.name == y) = true) (hY : ∀ (w : World) (h : Heap), YP w h → (K w.params).In h)
    (F : ∀ (w : World) (mg : Str → Option Value) (fa : Addr) (h : Heap), (K w.params).In h → h.Ns mainGlobals mg → mg d.name = some (.ref fa) → OwnT (K w.params) ls h → LamLaw l.prog w (K w.params) mg k fa x m h)
    (prom : ∀ ns : List Int, ns.length ≤ n → ∃ κ, m [.d (scr (ns.map .int))] [] = .ok (.d (.bool true)) κ) :
    PySem.W.WalkO q loose XP YP l.row.toRowW d [] (fun f vs => PySem.call f vs) := by
  refine Att.attach_call hn hdf fun w s₀ s₁ mg mb fa o pm cd doc a its ns G Y ho hd hcd hmg hobj hi hlen hge => ?_
  have KX := hY w _ Y
  have own : OwnT (K w.params) ls s₁.heap := fun y f c P my L => by
    obtain ⟨dL, hm, hn1⟩ := List.any_eq_true.mp (List.all_eq_true.mp hrec y my)
    have hn2 : dL.name = y := beq_iff_eq.mp hn1
    obtain ⟨a', o', fd', c', P', h1, h2, h3, h4, h5, h6⟩ := G.T.tab dL hm
    rw [hn2, PySem.W.mg_of KX G.T.g L.n] at h1
    cases h1
    obtain ⟨oc, od, fd1, osl, k1, k2⟩ := L.cd
    obtain ⟨oc', od', vs, osl', k3, k4⟩ := L.t
    have g1 := KX _ _ k1
    rw [g1] at h2
    cases h2
    cases h3
    rw [k2] at h4
    cases h4
    obtain ⟨⟨oc2, vc, e1, _, e3, e4⟩, hP⟩ := h6
    have g2 := KX _ _ k3
    rw [g2] at e1
    cases e1
    cases e3
    rw [k4] at e4
    cases e4
    exact hP
  obtain ⟨fd, cs, hT, nT, hC, hb, ht, hF⟩ := F w mg fa _ KX G.T.g hmg own
  exact lawGT KX G.T.g G.T.b G.T.builtins G.T.nolimit hge hT nT hC G.T.bmain hobj hi (Nat.le_trans hlen hn2) room hF hb (fun H hH h => law_prom (ht H hH) h (prom ns hlen)) fun H e s' h => h
end DL

namespace DL
open L2 PyProof.Rows PySem PySem.Spec

/-! ### x in ys, x not in ys of lists of any data -/
def inDeep (κ : Kap) (x y : DV) : Option Bool := match dat κ x, dat κ y with
  | some d, some (.list ds) => if SeqAt.shaped d = true ∧ SeqAt.shaped (.list ds) = true then some (ds.any fun z => PyData.eqv z d) else none
  | _, _ => none
def inDD (κ : Kap) (x y : DV) : Option DV := (inDeep κ x y).map fun b => .d (.bool b)
def ninDD (κ : Kap) (x y : DV) : Option DV := (inDeep κ x y).map fun b => .d (.bool (!b))
section
variable {K : PySem.W.Frag} {F : List Addr} {B : Hp} {ι : List Addr} {H : Hp} {κ : Kap} {v w : V} {x y : DV}
theorem inDeep_ok (s : HSt K F B ι H κ) (wx : VOk K F B ι H v x) (wy : VOk K F B ι H w y) {b : Bool} (e : inDeep κ x y = some b) :
    ∃ d ds, Dp K H v d ∧ Dp K H w (.list ds) ∧ SeqAt.shaped d = true ∧ SeqAt.shaped (.list ds) = true ∧ b = ds.any fun z => PyData.eqv z d := by
  unfold inDeep at e
  split at e
  · rename_i d ds e1 e2
    split at e
    · rename_i h
      cases e
      exact ⟨d, ds, dat_ok s wx e1, dat_ok s wy e2, h.1, h.2, rfl⟩
    · cases e
  · cases e
end
theorem inDDI {K : PySem.W.Frag} : BinI K (rInD K) inDD := fun F B ι H κ v w x y z s wx wy e Q q => by
  unfold inDD at e
  cases e1 : inDeep κ x y with
  | none => rw [e1] at e; cases e
  | some b =>
    rw [e1] at e; cases e
    obtain ⟨d, ds, h1, h2, h3, h4, rfl⟩ := inDeep_ok s wx wy e1
    exact ⟨d, ds, h1, h2, h3, h4, keepQ s (.bl _) q⟩
theorem ninDDI {K : PySem.W.Frag} : BinI K (rNotInD K) ninDD := fun F B ι H κ v w x y z s wx wy e Q q => by
  unfold ninDD at e
  cases e1 : inDeep κ x y with
  | none => rw [e1] at e; cases e
  | some b =>
    rw [e1] at e; cases e
    obtain ⟨d, ds, h1, h2, h3, h4, rfl⟩ := inDeep_ok s wx wy e1
    exact ⟨d, ds, h1, h2, h3, h4, keepQ s (.bl _) q⟩
theorem room65 {k : Nat} {A : Around} (r : Room k A) : A.units + 65 < cLine := by have := r.un; omega
/-! ### a list of new lists, all of them cells -/
def mLstN (ma : MA) : ME := fun ρ κ => (ma ρ κ).bind fun xs κ1 => if xs.length ≤ 1000 then .ok (.c κ1.length) (κ1 ++ [.lst xs]) else .bad
theorem HSt.cellN {K : PySem.W.Frag} {F : List Addr} {B : Hp} {ι : List Addr} {H : Hp} {κ : Kap} (s : HSt K F B ι H κ) {p : Addr} {vs : List V} {xs : List DV} (h1 : H p = some (.lst vs)) (h2 : B p = none) (h3 : p ∉ ι) (h4 : p ∉ F) (r : Paired (WOk K B ι) vs xs) :
    HSt K F B (ι ++ [p]) H (κ ++ [.lst xs]) ∧ Grow F B ι H B (ι ++ [p]) H ∧ WOk K B (ι ++ [p]) (.ref p) (.c κ.length) := by
  have i : ∀ (j : Nat) (a : Addr), ι[j]? = some a → (ι ++ [p])[j]? = some a := fun j a e => by
    rw [List.getElem?_append_left (List.getElem?_eq_some_iff.mp e).1]; exact e
  have last : (ι ++ [p])[κ.length]? = some p := by
    rw [← s.len, List.getElem?_append_right (Nat.le_refl _), Nat.sub_self]; rfl
  refine ⟨⟨s.ex, by rw [List.length_append, List.length_append, s.len]; rfl, ?_, fun j a m l => ?_, fun a m => ?_, fun j a cl e1 e2 => ?_, fun a m => ?_, fun q m => let t := s.tb q m; t.to (Same.refl _) rfl t.2.1 (fun z => (List.mem_append.mp z).elim t.2.2.1 fun z => t.ne h1 (by intro _ z; cases z) (List.mem_singleton.mp z)) t.2.2.2⟩, ⟨Same.refl _, i, fun _ _ => rfl⟩, ⟨p, last, rfl⟩⟩
  · rw [List.nodup_append]
    refine ⟨s.nd, by simp, fun a ha b hb e => ?_⟩
    rw [List.mem_singleton] at hb
    exact h3 (by rw [← hb, ← e]; exact ha)
  · by_cases hj : j < κ.length
    · rw [List.getElem?_append_left (by rw [s.len]; exact hj)] at m
      rw [List.getElem?_append_left hj] at l
      exact s.out j a m l
    · have hj2 := (List.getElem?_eq_some_iff.mp m).1
      rw [List.length_append, s.len] at hj2
      have hj2 : j < κ.length + 1 := hj2
      have ej : j = κ.length := by omega
      subst ej
      rw [last] at m
      cases m
      exact h2
  · obtain ⟨a1, a2, a3⟩ := s.pro a m
    refine ⟨a1, a2, fun z => ?_⟩
    rcases List.mem_append.mp z with z | z
    · exact a3 z
    · rw [List.mem_singleton.mp z] at m
      exact h4 m
  · by_cases hj : j < κ.length
    · rw [List.getElem?_append_left (by rw [s.len]; exact hj)] at e1
      rw [List.getElem?_append_left hj] at e2
      exact (s.cel j a cl e1 e2).mono (Same.refl _) i rfl
    · have hj2 := (List.getElem?_eq_some_iff.mp e2).1
      rw [List.length_append] at hj2
      have hj2 : j < κ.length + 1 := hj2
      have ej : j = κ.length := by omega
      subst ej
      rw [last] at e1
      cases e1
      rw [List.getElem?_append_right (Nat.le_refl _), Nat.sub_self] at e2
      cases e2
      exact ⟨vs, h1, pmap r fun _ _ w => w.mono (Same.refl _) i⟩
  · rcases List.mem_append.mp m with m | m
    · exact s.tr a m
    · rw [List.mem_singleton.mp m]; exact ⟨_, h1⟩
section
variable {X : Cx} {E : XK} {es : List Expr} {ma : MA} {pos : Pos}
theorem je_lstN (h : JA X E es ma) : JE X E (.List es pos) (mLstN ma) :=
  pe_imp (pe_lst h) fun σ H Q ⟨F, B, ι, ρ, κ, s, h⟩ => by
    unfold mLstN at h
    refine evA s (fun xs κ1 e1 vs B1 ι1 H1 g1 s1 w1 => ?_) (fun n fs κ1 e1 => by rw [e1] at h; exact h) (fun e => by rw [e] at h; exact h)
    rw [e1] at h
    dsimp only [Out.bind] at h
    split at h
    · rename_i hl
      refine ⟨line1000 (by rw [w1.length]; exact hl), fun p hp => ?_⟩
      obtain ⟨s2, g2, h3, h4, h5⟩ := s1.loose (o := .lst vs) hp
      obtain ⟨s3, g3, w3⟩ := s2.cellN upd_same h3 h4 h5 w1
      exact h _ _ _ _ (g1.trans (g2.trans g3)) s3 w3
    · exact h.elim
end
/-! ### [..].index(x), texts -/
def idxOf : List D → D → Nat → Option Nat
  | [], _, _ => none
  | y :: r, x, i => if PyData.eqv y x = true then some i else idxOf r x (i + 1)
def mIdx (mo : ME) (ma : MA) : ME := fun ρ κ => (mo ρ κ).bind fun x κ1 => match x with
  | .n ys => (ma ρ κ1).bind fun xs κ2 => match xs with
    | [.d a] => if flatD a = true ∧ ys.all flatD = true then (match idxOf ys a 0 with
      | some i => .ok (.d (.int i)) κ2
      | none => .bad) else .bad
    | _ => .bad
  | _ => .bad
theorem idx_ok : ∀ {ys : List D} {x : D} {i j : Nat}, idxOf ys x i = some j → i ≤ j ∧ (∃ z, ys[j - i]? = some z ∧ PyData.eqv z x = true) ∧ ∀ (m : Nat) (z : D), m < j - i → ys[m]? = some z → PyData.eqv z x = false
  | [], _, _, _, h => by cases h
  | y :: r, x, i, j, h => by
    rw [idxOf] at h
    split at h
    · rename_i e
      cases h
      refine ⟨Nat.le_refl _, ⟨y, by rw [Nat.sub_self]; rfl, e⟩, fun m z hm => ?_⟩
      rw [Nat.sub_self] at hm
      exact absurd hm (Nat.not_lt_zero _)
    · rename_i e
      obtain ⟨h1, ⟨z, h2, h3⟩, h4⟩ := idx_ok h
      have ej : j - i = (j - (i + 1)) + 1 := by omega
      refine ⟨by omega, ⟨z, by rw [ej, List.getElem?_cons_succ]; exact h2, h3⟩, fun m z hm hz => ?_⟩
      cases m with
      | zero =>
        rw [List.getElem?_cons_zero] at hz
        cases hz
        exact Bool.eq_false_iff.mpr e
      | succ m =>
        rw [List.getElem?_cons_succ] at hz
        exact h4 m z (by omega) hz
section
variable {X : Cx} {E : XK} {o e : Expr} {es : List Expr} {mo : ME} {ma : MA} {apos cpos : Pos}
theorem idx_imp {K : PySem.W.Frag} {mg : Str → Option Value} {σ : L2.St} {H : Hp} {Q : VK} (h : tM K mg E (mIdx mo ma) σ H Q) : tBM K "list" (rIndex K) (tM K mg E mo) (tA K mg E ma) σ H Q := by
  obtain ⟨F, B, ι, ρ, κ, s, h⟩ := h
  unfold mIdx at h
  refine evE s (fun x κ1 e1 v B1 ι1 H1 g1 s1 w1 => ?_) (fun n fs κ1 e1 => by rw [e1] at h; exact h) (fun e => by rw [e] at h; exact h)
  rw [e1] at h
  dsimp only [Out.bind] at h
  split at h
  · rename_i ys
    obtain ⟨p, us, rfl, h1, h2, h3, h4, ra⟩ := id w1
    refine ⟨.inl ⟨rfl, us, lst1 h1⟩, ?_⟩
    obtain ⟨hF, s1', back⟩ := s1.hold2 w1
    replace h : PostE K mg E F B ι H Q ((ma ρ κ1).bind fun xs κ2 => match xs with
      | [.d a] => if flatD a = true ∧ ys.all flatD = true then (match idxOf ys a 0 with
        | some i => .ok (.d (.int i)) κ2
        | none => .bad) else .bad
      | _ => .bad) := h
    refine evA (s.step g1 s1') (fun xs κ2 e2 ws B2 ι2 H2 g2 s2 w2 => ?_) (fun n fs κ2 e2 => by rw [e2] at h; exact XW.grow h g1 hF) (fun e => by rw [e] at h; exact h)
    rw [e2] at h
    obtain ⟨w1', s2', g2'⟩ := back g2 s2
    dsimp only [Out.bind] at h
    split at h
    · rename_i a
      split at h
      · rename_i hf
        split at h
        · rename_i i ei
          obtain ⟨p', us', ep, h1', h2', h3', h4', ra'⟩ := w1'
          cases ep
          cases w2 with
          | cons wa wr =>
            cases wr
            rename_i va
            have wa' : Rp K B2 va a := wa
            obtain ⟨_, ⟨z, e3, e4⟩, e5⟩ := idx_ok ei
            rw [Nat.sub_zero] at e3 e5
            obtain ⟨vz, e6, rz⟩ := RpAll.get ra' e3
            have fl : ∀ {d : D}, d ∈ ys → flatD d = true := fun m => List.all_eq_true.mp hf.2 _ m
            refine ⟨p, us', va, i, vz, rfl, rfl, lst1 h1', flat_of wa' hf.1, flats_of ra' hf.2, e6, by rw [eqv_of rz (fl (List.mem_of_getElem? e3)) wa' hf.1]; exact e4, fun m z' hm hz => ?_, ?_⟩
            · have lm : m < ys.length := by rw [← ra'.len]; exact (List.getElem?_eq_some_iff.mp hz).1
              obtain ⟨vz', e7, rz'⟩ := RpAll.get ra' (List.getElem?_eq_getElem lm)
              rw [hz] at e7
              cases e7
              rw [eqv_of rz' (fl (List.getElem_mem lm)) wa' hf.1]
              exact e5 m _ hm (List.getElem?_eq_getElem lm)
            · exact h _ B2 ι2 H2 (g1.trans g2') s2' (Rp.int _)
        · exact h.elim
      · exact h.elim
    · exact h.elim
  · exact h.elim
theorem je_idx (ho : JE X E o mo) (ha : JA X E (e :: es) ma)
    (hbase : attributeBase o "index" X.env (eval o X.env) = eval o X.env := by rfl)
    (hfew : ((backTo cpos (starEach (e :: es) X.env)).all (fun x => !x.1) && (backToKw cpos (keywordEach [] X.env)).all (fun x => x.1.isSome)
      && decide ((e :: es).length + ([] : List Keyword).length + (if ([] : List Keyword).isEmpty then 0 else 1) < 30)) = true := by rfl)
    (hline : (apos.endLine == cpos.line) = true := by rfl) (hs : starEach (e :: es) X.env = (false, eval e X.env) :: starEach es X.env := by rfl) (hplain : (backTo cpos (starEach es X.env)).any (·.1) = false := by rfl) :
    JE X E (.Call (.Attribute o "index" apos) (e :: es) [] cpos) (mIdx mo ma) :=
  pe_imp (pe_bm PySem.F.plainAttrs_list PySem.F.slot_list_index PySem.F.type_list_index mt_index ho ha hbase hfew hline hs hplain) fun _ _ _ h => idx_imp h
end
/-! ### dict comprehensions, each key once -/
def dcGo (g : MG) (t : MT) (mk mv : ME) (ρw : Rho) : List D → List (D × D) → Kap → Out DV
  | [], acc, κ => .ok (.d (.dict acc)) κ
  | d :: r, acc, κ => match g (.d d) ρw κ with
    | none => .bad
    | some (ρ1, κ1) => (noex (t ρ1 κ1)).bind fun b κ2 => if b = true then (noex (mk ρ1 κ2)).bind fun y κ3 => match y with
        | .d k => (noex (mv ρ1 κ3)).bind fun z κ4 => match fz z with
          | .d e => if acc.length < 1000 ∧ (keyOf k).isSome = true ∧ dgetD acc k = none then dcGo g t mk mv ρw r (acc ++ [(k, e)]) κ4 else .bad
          | _ => .bad
        | _ => .bad
      else dcGo g t mk mv ρw r acc κ2
def mDc (src : MI) (g : MG) (t : MT) (mk mv : ME) (vs : List Nat) : ME := fun ρ κ => (src ρ κ).bind fun ds κ1 => dcGo g t mk mv (wipeR ρ vs) ds [] κ1
theorem RpKV.len {K : PySem.W.Frag} {H : Hp} : ∀ {kvs : List (Key × V)} {ds : List (D × D)}, RpKV K H kvs ds → kvs.length = ds.length
  | _, _, .nil => rfl
  | _, _, .consI _ r => by rw [List.length_cons, List.length_cons, r.len]
  | _, _, .consS _ r => by rw [List.length_cons, List.length_cons, r.len]
theorem RpKV.snoc {K : PySem.W.Frag} {H : Hp} {k : D} {ky : Key} {v : V} {e : D} (hk : keyOf k = some ky) (h : Rp K H v e) : ∀ {kvs : List (Key × V)} {ds : List (D × D)}, RpKV K H kvs ds → RpKV K H (kvs ++ [(ky, v)]) (ds ++ [(k, e)])
  | _, _, .nil => by
    cases k with
    | int i => cases hk; exact .consI h .nil
    | str x => cases hk; exact .consS h .nil
    | _ => cases hk
  | _, _, .consI h1 r => .consI h1 (RpKV.snoc hk h r)
  | _, _, .consS h1 r => .consS h1 (RpKV.snoc hk h r)
theorem dc_imp {K : PySem.W.Frag} {mg : Str → Option Value} {E : XK} {src : MI} {g : MG} {t : MT} {mk mv : ME} {ts vs : List Nat} (ht : ∀ i ∈ ts, i ∈ vs) {σ : L2.St} {H : Hp} {Q : VK} (h : tM K mg E (mDc src g t mk mv vs) σ H Q) :
    tDc (tI K mg E src) (tG K g ts) (tT K mg E0 t) (tM K mg E0 mk) (tM K mg E0 mv) vs σ H Q := by
  obtain ⟨F, B, ι, ρ, κ, s, h⟩ := h
  unfold mDc at h
  refine ⟨F, B, ι, ρ, κ, s, ?_⟩
  cases q : src ρ κ with
  | bad => rw [q] at h; exact h
  | ex n fs κ' => rw [q] at h; exact h
  | ok ds κ1 =>
    rw [q] at h
    have h : PostE K mg E F B ι H Q (dcGo g t mk mv (wipeR ρ vs) ds [] κ1) := h
    intro J B1 ι1 H1 g1 s1 y Dl hD
    obtain ⟨sD, gD, hDF⟩ := s1.tmp (o := .dK []) hD
    refine ⟨fun i m H' => ∃ B' ι' κ' acc vacc, Grow F B1 ι1 H1 B' ι' H' ∧ HSt K (Dl :: F) B' ι' H' κ' ∧ H' Dl = some (.dK vacc) ∧ RpKV K B' vacc acc ∧ m + i = ds.length ∧ PostE K mg E F B' ι' H' Q (dcGo g t mk mv (wipeR ρ vs) (ds.drop i) acc κ'),
      ⟨ds.length, B1, ι1, κ1, [], [], gD, sD, upd_same, .nil, rfl, PostE.grow h (g1.trans gD)⟩, ?_⟩
    rintro i m H' ⟨B', ι', κ', acc, vacc, g2, s2, hL, ra, em, h2⟩
    obtain ⟨y1, y2⟩ := y (Dl :: F) i B' ι' H' κ' (fun _ m => List.mem_cons_of_mem _ m) (g2.less fun _ m => nomatch m) s2
    obtain ⟨p1, p2, p3⟩ := s2.pro Dl (List.mem_cons_self ..)
    cases e : ds[i]? with
    | none =>
      have hl : ds.length ≤ i := List.getElem?_eq_none_iff.mp e
      refine .inl ⟨y2 hl, ?_⟩
      rw [List.drop_eq_nil_of_le hl] at h2
      obtain ⟨s9, g9⟩ := (s2.less fun _ m => List.mem_cons_of_mem _ m).frz hL p2 p3 hDF
      exact h2 (.ref Dl) _ ι' H' g9 s9 (.dic upd_same (RpKV.mono g9.b ra))
    | some d =>
      have hl : i < ds.length := (List.getElem?_eq_some_iff.mp e).1
      obtain ⟨y3, y4⟩ := y1 d e
      have ed : ds.drop i = d :: ds.drop (i + 1) := by
        rw [List.drop_eq_getElem_cons hl]
        rw [List.getElem?_eq_getElem hl] at e
        cases e; rfl
      rw [ed] at h2
      simp only [dcGo] at h2
      refine .inr ⟨y3, fun H' => ∃ B' ι' κ' acc vacc, Grow F B1 ι1 H1 B' ι' H' ∧ HSt K (Dl :: F) B' ι' H' κ' ∧ H' Dl = some (.dK vacc) ∧ RpKV K B' vacc acc ∧ (m - 1) + (i + 1) = ds.length ∧ PostE K mg E F B' ι' H' Q (dcGo g t mk mv (wipeR ρ vs) (ds.drop (i + 1)) acc κ'),
        fun H' hN => ⟨m - 1, by omega, hN⟩, fun x H'' hy => ?_⟩
      obtain ⟨B2, g3, s3, r⟩ := y4 x H'' hy
      have g3' : Grow F B' ι' H' B2 ι' H'' := g3.less fun _ m => List.mem_cons_of_mem _ m
      have sw : SOk K (Dl :: F) B2 ι' (wipe σ vs) H'' (wipeR ρ vs) κ' := (s.step (g1.trans (g2.trans g3')) s3).wipe vs
      refine ⟨Dl :: F, B2, ι', wipeR ρ vs, κ', .d d, sw, r, ?_⟩
      cases q2 : g (.d d) (wipeR ρ vs) κ' with
      | none => rw [q2] at h2; exact h2
      | some p =>
        obtain ⟨ρ2, κ2⟩ := p
        rw [q2] at h2
        intro σ2 B4 ι4 H2 ew g4 s4
        have g4' : Grow F B2 ι' H'' B4 ι4 H2 := g4.less fun _ m => List.mem_cons_of_mem _ m
        have hlen : σ2.length = σ.length := by rw [ew.1, wipe_length]
        refine ⟨wipe_eq hlen ew.2 ht, ?_⟩
        dsimp only at h2
        refine evT s4 (fun b κ3 e3 B5 ι5 H5 g5 s5 => ?_) (fun n fs κ3 e3 => by rw [e3] at h2; exact h2.elim) (fun e3 => by rw [e3] at h2; exact h2)
        rw [e3] at h2
        have g5' : Grow F B4 ι4 H2 B5 ι5 H5 := g5.less fun _ m => List.mem_cons_of_mem _ m
        have hL5 : H5 Dl = some (.dK vacc) := (g5.fr Dl (List.mem_cons_self ..)).trans ((g4.fr Dl (List.mem_cons_self ..)).trans ((g3.fr Dl (List.mem_cons_self ..)).trans hL))
        have gb := g3'.trans (g4'.trans g5')
        cases b with
        | false =>
          rw [if_neg Bool.false_ne_true]
          exact ⟨B5, ι5, κ3, acc, vacc, g2.trans gb, s5, hL5, RpKV.mono gb.b ra, by omega, PostE.grow h2 gb⟩
        | true =>
          rw [if_pos rfl]
          replace h2 : PostE K mg E F B' ι' H' Q ((noex (mk ρ2 κ3)).bind fun y κ3 => match y with
            | .d k => (noex (mv ρ2 κ3)).bind fun z κ4 => match fz z with
              | .d e => if acc.length < 1000 ∧ (keyOf k).isSome = true ∧ dgetD acc k = none then dcGo g t mk mv (wipeR ρ vs) (ds.drop (i + 1)) (acc ++ [(k, e)]) κ4 else .bad
              | _ => .bad
            | _ => .bad) := h2
          refine evE (s4.step g5 s5) (fun y κ4 e4 v B6 ι6 H6 g6 s6 w6 => ?_) (fun n fs κ4 e4 => by rw [e4] at h2; exact h2.elim) (fun e4 => by rw [e4] at h2; exact h2)
          rw [e4] at h2
          dsimp only [noex, Out.bind] at h2
          split at h2
          · rename_i k
            have g6' : Grow F B5 ι5 H5 B6 ι6 H6 := g6.less fun _ m => List.mem_cons_of_mem _ m
            refine evE ((s4.step g5 s5).step g6 s6) (fun z κ5 e5 u B7 ι7 H7 g7 s7 w7 => ?_) (fun n fs κ5 e5 => by rw [e5] at h2; exact h2.elim) (fun e5 => by rw [e5] at h2; exact h2)
            rw [e5] at h2
            obtain ⟨B8, s8, g8, w8⟩ := s7.fz w7
            have g78 := g7.trans g8
            have g78' : Grow F B6 ι6 H6 B8 ι7 H7 := g78.less fun _ m => List.mem_cons_of_mem _ m
            dsimp only [noex, Out.bind] at h2
            split at h2
            · rename_i e6 q6
              rw [q6] at w8
              split at h2
              · rename_i hc
                obtain ⟨c1, c2, c3⟩ := hc
                obtain ⟨ky, ek⟩ := Option.isSome_iff_exists.mp c2
                have ra8 : RpKV K B8 vacc acc := RpKV.mono (gb.trans (g6'.trans g78')).b ra
                have new : valV vacc ky = none := (dget_ok ra8 ek).2 c3
                obtain ⟨s9, g9⟩ := s8.setP (o := .dK (vacc ++ [(ky, u)])) hDF
                refine ⟨vacc, ky, key_v ek (show Rp K B6 v k from w6), (g7.fr Dl (List.mem_cons_self ..)).trans ((g6.fr Dl (List.mem_cons_self ..)).trans hL5), by rw [ra.len]; exact Nat.lt_of_lt_of_le c1 (by decide), ?_⟩
                rw [putK_new u new]
                exact ⟨B8, ι7, κ5, acc ++ [(k, e6)], vacc ++ [(ky, u)], ((g2.trans gb).trans (g6'.trans g78')).trans g9, s9, upd_same, RpKV.snoc ek w8 ra8, by omega, PostE.grow h2 ((gb.trans (g6'.trans g78')).trans g9)⟩
              · exact h2.elim
            · exact h2.elim
          · exact h2.elim
section
variable {X : Cx} {E : XK}
theorem je_dc {kx vx tg iter : Expr} {ifs : List Expr} {scope : Scope} {own : List (Str × Nat)} {pos : Pos} {src : MI} {g : MG} {t : MT} {mk mv : ME} {ts : List Nat} (hc : X.calm = true) (hN : X.N.Nodup) (hi : JI X E tg iter src) (ok : BlkOk X.N X.env.scope scope own)
    (hg : ∀ (s : Shared) (H : Hp) (C : Addr) (cl : List (Str × Addr)) (fp : List Addr), JG (X.blk s H scope (compEnvC scope cl C X.env) fp) tg g ts) (ht : ∀ (s : Shared) (H : Hp) (C : Addr) (cl : List (Str × Addr)) (fp : List Addr), JTs (X.blk s H scope (compEnvC scope cl C X.env) fp) E0 ifs t)
    (hk : ∀ (s : Shared) (H : Hp) (C : Addr) (cl : List (Str × Addr)) (fp : List Addr), JE (X.blk s H scope (compEnvC scope cl C X.env) fp) E0 kx mk)
    (he : ∀ (s : Shared) (H : Hp) (C : Addr) (cl : List (Str × Addr)) (fp : List Addr), JE (X.blk s H scope (compEnvC scope cl C X.env) fp) E0 vx mv) (hts : ∀ i ∈ ts, i ∈ own.map (·.2) := by decide) (hs : ∀ x, foldedSetIterable iter X.env x = pure x := by intro _; rfl) :
    JE X E (.DictComp kx vx [⟨tg, iter, ifs, 0⟩] scope pos) (mDc src g t mk mv (own.map (·.2))) :=
  pe_imp (pe_dc hc hN hi ok hg ht hk he hs) fun _ _ _ h => dc_imp hts h
theorem sw_trueD {kx vx : Expr} {gs : List Comprehension} {scope : Scope} {pos py : Pos} {y : Str} {l : Nat} {env : Env} (hk : env.scope.kind = .function) (hy : env.scope.names.lookup y = some .local) (hl : (py.line == pos.line) = true)
    (ha : (scope.names.any fun (n, k) => n == y && (k == .local || k == .cell)) = false) : swapsWith (.DictComp kx vx gs scope pos) (some (.Name y py)) l env = pure true := by
  have ky : env.kindOf y = some .local := hy
  have hb : env.blockKind = .function := by unfold Env.blockKind; rw [hk]; rfl
  unfold swapsWith
  simp only [hb, ky, ha, Expr.pos, hl]
  rfl
theorem ps_setDc {i : Nat} {y : Str} {py : Pos} {kx vx tg iter : Expr} {ifs : List Expr} {scope : Scope} {own : List (Str × Nat)} {pos spos : Pos} {wi : TI} {g : TG} {tt : TT} {tk tv : TE} (hc : X.calm = true) (hN : X.N.Nodup) (hy : X.N[i]? = some y) (hyl : X.env.scope.names.lookup y = some .local)
    (hsw : swapsWith (.DictComp kx vx [⟨tg, iter, ifs, 0⟩] scope pos) (some (.Name y py)) spos.line X.env = pure true) (hi : PI X tg iter wi) (ok : BlkOk X.N X.env.scope scope own)
    (hg : ∀ (s : Shared) (H : Hp) (C : Addr) (cl : List (Str × Addr)) (fp : List Addr), PG (X.blk s H scope (compEnvC scope cl C X.env) fp) tg g) (ht : ∀ (s : Shared) (H : Hp) (C : Addr) (cl : List (Str × Addr)) (fp : List Addr), PTs (X.blk s H scope (compEnvC scope cl C X.env) fp) ifs tt)
    (hk : ∀ (s : Shared) (H : Hp) (C : Addr) (cl : List (Str × Addr)) (fp : List Addr), PE (X.blk s H scope (compEnvC scope cl C X.env) fp) kx tk)
    (he : ∀ (s : Shared) (H : Hp) (C : Addr) (cl : List (Str × Addr)) (fp : List Addr), PE (X.blk s H scope (compEnvC scope cl C X.env) fp) vx tv) (hs : ∀ x, foldedSetIterable iter X.env x = pure x := by intro _; rfl) :
    PS X (.Assign [.Name y py] (.DictComp kx vx [⟨tg, iter, ifs, 0⟩] scope pos) spos) (tAsg (tDc wi g tt tk tv (own.map (·.2))) (gName i)) := by
  refine ⟨fun pins s σ H D I h => ?_⟩
  rw [exec_Assign_Name_used _ _ _ _ hsw]
  refine wpAny_bind (wpAny_standAt (wpAny_bind ?_))
  show wpAny _ X.A (do let _ ← comprehension (.DictComp kx vx [⟨tg, iter, ifs, 0⟩] scope pos) scope X.env (firstIterPos [⟨tg, iter, ifs, 0⟩] pos) newDict false (eval iter X.env) (some (assign (.Name y py) X.env))) _ _ s
  have h : tDc wi g tt tk tv (own.map (·.2)) σ H (fun x H1 => gName i x σ H1 D.nx) := h
  refine wpAny_bind (thn (dc_core (Qf := fun _ s' => SP X pins D .next s') hc hN I hi ok hg ht hk he hs h fun L C s' m H' I' q hn f => ?_) fun _ s' hq => wpAny_pure (wpAny_pure hq))
  show wpAny _ _ (assign (.Name y py) X.env (.ref L)) _ _ _
  refine wpAny_assign_Name (store_ok2 (v := V.ref L) I' hN hy (.inl hyl) rfl (fun s2 I2 ⟨a, sb, ha⟩ => ?_) (.inr hyl))
  obtain ⟨f0, f1, f2, f3, f4, f5⟩ := f
  have haC : C ≠ a := by
    rcases ha with z | z
    · rw [z]; exact f1
    · exact fun e => f4 y a z e.symm
  refine ⟨m, hn.sameBut sb haC, fun h3 sb3 => ?_⟩
  exact ⟨_, H', I2.turned (t' := s2.toks) (fun b o hb e => (sb3.2 b hb).trans e) f0 f1 f3 f4 f5, q⟩
theorem js_setDc {i : Nat} {y : Str} {py : Pos} {kx vx tg iter : Expr} {ifs : List Expr} {scope : Scope} {own : List (Str × Nat)} {pos spos : Pos} {src : MI} {g : MG} {t : MT} {mk mv : ME} {ts : List Nat} (hc : X.calm = true) (hN : X.N.Nodup) (hy : X.N[i]? = some y) (hyl : X.env.scope.names.lookup y = some .local)
    (hsw : swapsWith (.DictComp kx vx [⟨tg, iter, ifs, 0⟩] scope pos) (some (.Name y py)) spos.line X.env = pure true) (hi : JI X E tg iter src) (ok : BlkOk X.N X.env.scope scope own)
    (hg : ∀ (s : Shared) (H : Hp) (C : Addr) (cl : List (Str × Addr)) (fp : List Addr), JG (X.blk s H scope (compEnvC scope cl C X.env) fp) tg g ts) (ht : ∀ (s : Shared) (H : Hp) (C : Addr) (cl : List (Str × Addr)) (fp : List Addr), JTs (X.blk s H scope (compEnvC scope cl C X.env) fp) E0 ifs t)
    (hk : ∀ (s : Shared) (H : Hp) (C : Addr) (cl : List (Str × Addr)) (fp : List Addr), JE (X.blk s H scope (compEnvC scope cl C X.env) fp) E0 kx mk)
    (he : ∀ (s : Shared) (H : Hp) (C : Addr) (cl : List (Str × Addr)) (fp : List Addr), JE (X.blk s H scope (compEnvC scope cl C X.env) fp) E0 vx mv) (hts : ∀ i ∈ ts, i ∈ own.map (·.2) := by decide) (hs : ∀ x, foldedSetIterable iter X.env x = pure x := by intro _; rfl) :
    JS X E (.Assign [.Name y py] (.DictComp kx vx [⟨tg, iter, ifs, 0⟩] scope pos) spos) (mSet i (mDc src g t mk mv (own.map (·.2)))) :=
  ps_imp (ps_setDc hc hN hy hyl hsw hi ok hg ht hk he hs) fun De σ H h => by
    obtain ⟨F, B, ι, ρ, κ, s, h⟩ := set_imp (m := mDc src g t mk mv (own.map (·.2))) h
    exact dc_imp hts ⟨F, B, ι, ρ, κ, s, h⟩
end
end DL

namespace DL
open L2 PyProof.Rows PySem PySem.Spec
/-! ### enumerate(tuple) -/
theorem meets_enum1 {v : Value} {o : Obj} {H : Heap → Prop} (B : Begins v o H) :
    Meets (Builtin.«enumerate.__new__» ⟨[.type "enumerate", v], []⟩) (fun _ R s => H s.heap ∧
      R (.ok (.ret (.ref (s.heap.push o).objs.size))) { s with heap := (s.heap.push o).push { cls := .type "enumerate", data := .fields #[.none, .bool false, .ref s.heap.objs.size, rawInt 0, .none, .none] } }) :=
  .of_wp fun prog w A R s h => by
    obtain ⟨hp, g, d, tk, os⟩ := s; obtain ⟨h1, h⟩ := h
    have hsub := sub_enumerate
    have q1 : ∀ {A' : Around} {E : Value → Shared → Prop} {Q : Value → Shared → Prop}, Q (.ref hp.objs.size) ⟨hp.push o, g, d, tk, os⟩ → wpAny (model prog w) A' (pyIter v) Q E ⟨hp, g, d, tk, os⟩ :=
      fun q => B.iter prog w _ _ ⟨hp, g, d, tk, os⟩ _ h1 q
    wp_walk using q1
    refine wpAny_stack_any fun st => wpAny_pure ?_
    split
    · rename_i c _ _ _ _ _
      cases (c == Value.type "enumerate")
      · wp_walk using q1
        exact ⟨_, rfl, h⟩
      · wp_walk using q1
        exact ⟨_, rfl, h⟩
    · wp_walk using q1
      exact ⟨_, rfl, h⟩
section
variable {prog : Program} {w : World} {A : Around} {E : Value → Shared → Prop} {s : Shared}
theorem enum_begins1 {v : Value} {o : Obj} {H : Heap → Prop} {Q : Value → Shared → Prop} (B : Begins v o H) (h1 : H s.heap)
    (h : ∀ h', IsEnum h' (s.heap.objs.size + 1) s.heap.objs.size 0 .none → h'.get? s.heap.objs.size = some o → h'.objs.size = s.heap.objs.size + 2 →
      (∀ b o, s.heap.get? b = some o → h'.get? b = some o) → Q (.ref (s.heap.objs.size + 1)) { s with heap := h' }) :
    wpAny (model prog w) A (call (.type "enumerate") [v]) Q E s := by
  refine callType_new F.called_enumerate (by decide) (F.typeCall_enumerate_1 _) (F.newCall_enumerate_1 _) (fun obj => F.args_object_init_2 obj _) F.entry_enumerate_new
    (meets_enum1 B) ⟨h1, ?_⟩
  have hz : (s.heap.push o).objs.size = s.heap.objs.size + 1 := Heap.size_push ..
  show _ ∧ _
  rw [hz]
  have he : IsEnum ((s.heap.push o).push { cls := .type "enumerate", data := .fields #[.none, .bool false, .ref s.heap.objs.size, rawInt 0, .none, .none] }) (s.heap.objs.size + 1) s.heap.objs.size 0 .none := by
    have := Heap.get?_push_size (s.heap.push o) (o := { cls := .type "enumerate", data := .fields #[.none, .bool false, .ref s.heap.objs.size, rawInt 0, .none, .none] }) rfl
    rw [hz] at this; exact this
  refine ⟨⟨_, he, rfl⟩, h _ he (Heap.get?_push_of_some _ (Heap.get?_push_size _ B.free)) (by rw [Heap.size_push, hz]) fun b o x => Heap.get?_push_of_some _ (Heap.get?_push_of_some _ x)⟩
theorem enumT_end {e it l : Addr} {i : Nat} {items : Array Value} {old : Value} {Q : Option Value → Shared → Prop} (hh : A.handled = none)
    (he : IsEnum s.heap e it i old) (hit : s.heap.IsTupleIter it l i) (hl : s.heap.IsTuple l items) (hx : items[i]? = none)
    (hQ : ∀ h', Heap.ExtBut it s.heap h' → Q none { s with heap := h' }) : wpAny (model prog w) A (pyNext (.ref e)) Q E s := by
  have hT : s.TypeIs (.ref e) "enumerate" := ⟨_, he, rfl⟩
  unfold pyNext
  refine wpAny_bind (wpAny_attempt (wpAny_callSpecial?_slot (name := Str.ofString "__next__") hT F.slot_enumerate_next
    (wpAny_call_entry F.slot_enumerate_next hT F.entry_enumerate_next ?_ (F.args_enumerate_next_1 _))))
  show wpAny _ _ (field (.ref e) 2 >>= _) _ _ _
  refine wpAny_bind (wpAny_field he rfl (x := .ref it) rfl ?_)
  refine wpAny_bind (wpAny_nextOf_tuple_end hh hit hl hx fun h' x he' hx' => ?_)
  obtain ⟨o, ho, hc⟩ := hx'
  refine wpAny_bind (wpAny_isInstance (T := "StopIteration") (b := true) ⟨o, ho, hc⟩ isSubtype_stop ?_)
  exact wpAny_pure (hQ _ he')
end
def IteT (K : PySem.W.Frag) (a : Addr) : It :=
  ⟨fun i H => ∃ (xs : List V) (x : V), SqT K H a xs ∧ xs[i]? = some x, fun i H v H' => ∃ T x, v = .ref T ∧ H T = none ∧ H' = upd H T (.tup [.int (i : Nat), x]) ∧ ∀ xs, SqT K H a xs → xs[i]? = some x, fun i H => ∃ xs : List V, SqT K H a xs ∧ xs.length ≤ i⟩
theorem turn_enumT {P : Program} {w : World} {K : PySem.W.Frag} {elts : List Expr} {kk : Nat} {tpos : Pos} (a e it : Addr) :
    Turn P w K (.Tuple elts kk tpos) (IteT K a) [e, it] e (fun i h => (∃ old, IsEnum h e it ((i : Nat) : Int) old) ∧ h.IsTupleIter it a i ∧ e ≠ it) where
  mem := by simp
  obj := fun i h st b hb => by
    obtain ⟨⟨old, he⟩, ⟨o, ho, hc, hd⟩, _⟩ := st
    have e' : b = e ∨ b = it := by simpa using hb
    rcases e' with z | z
    · rw [z]; exact ⟨_, he, fun v q => nomatch q⟩
    · rw [z]; exact ⟨o, ho, fun v q => by rw [hd] at q; cases q⟩
  keep := fun i h h' st k => let ⟨⟨old, he⟩, hi, hne⟩ := st; ⟨⟨old, k e (by simp) _ he⟩, hi.at fun o q => k it (by simp) o q, hne⟩
  item := by
    intro X hP hw hK hc i pins s σ H E I hf st hg
    subst hP hw hK
    obtain ⟨⟨old, he⟩, hit, hne⟩ := st
    obtain ⟨xs, x, hq, hx⟩ := hg
    obtain ⟨its, rv, p, hz⟩ := I.tuple hq
    have p : s.heap.IsTuple a its.toArray := p
    obtain ⟨u, hu, ru⟩ := rv.get hx
    have hel : e < s.heap.objs.size := Heap.lt_size he
    have hil : it < s.heap.objs.size := by obtain ⟨_, q, _⟩ := hit; exact Heap.lt_size q
    have nea : a ≠ it := fun z => by
      obtain ⟨o, e1, e2, _⟩ := hit
      obtain ⟨o', e3, e4, _⟩ := p
      rw [z, e1] at e3
      cases e3
      rw [e2] at e4
      exact absurd e4 (by decide)
    have nee : e ≠ a := fun z => by
      obtain ⟨o', e3, e4, _⟩ := p
      have he : s.heap.get? e = _ := he
      rw [z, e3] at he
      cases he
      have e4 : Value.type "enumerate" = Value.type "tuple" := e4
      exact absurd e4 (by decide)
    have hlt : i < its.toArray.size := by rw [List.size_toArray]; exact (List.getElem?_eq_some_iff.mp hu).1
    refine wpAny_pyNext_enum_itemD (Draws.tuple (A := X.A.in1) (I.ok.hd hc) it a nea its.toArray) he ⟨hit, p⟩ hlt hne (by simp [hne, nee]) fun u' h' tk hu' ho st' hT hsz hk => ?_
    obtain rfl : u' = u := by
      have hu' : its.toArray[i]? = some u' := hu'
      rw [List.getElem?_toArray, hu] at hu'
      exact (Option.some.inj hu').symm
    obtain ⟨hit', p'⟩ := st'
    refine ⟨_, rfl, wpAny_letOwnedTupleGo_enum (s := { s with heap := h', toks := tk + 1 }) ho fun h'' he' sb => ?_⟩
    have hT2 : h''.get? s.heap.objs.size = some { cls := .type "tuple", data := .seq #[.int i tk, u'] } := (sb.2 _ (Nat.ne_of_gt hel)).trans hT
    have new : ObjOk X.prog X.w (upd H s.heap.objs.size (.tup [.int (i : Nat), x])) h'' s.heap.objs.size (.tup [.int (i : Nat), x]) :=
      ⟨by show 2 ≤ sizeLine; decide, [.int i tk, u'], .cons ⟨_, rfl⟩ (.cons ru .nil), ⟨_, hT2, rfl, _, rfl⟩⟩
    have I1 : Inv X pins σ (upd H s.heap.objs.size (.tup [.int (i : Nat), x])) { s with heap := h'', toks := tk + 1 } :=
      I.turnedNew (ch := [e, it]) (fun b ob hb q => (sb.2 b (fun z => hb (by simp [z]))).trans (hk b ob (fun z => hb (by simp [z])) (fun z => hb (by simp [z])) q)) hf (Nat.le_refl _) new
    refine ⟨.ref s.heap.objs.size, _, I1, rfl, ⟨_, x, rfl, I.hok.fresh (Nat.le_refl _), rfl, fun ys hy => by rw [I.tuple_inj hy hq]; exact hx⟩, ⟨⟨u', ?_⟩, hit'.at fun o q => (sb.2 it (Ne.symm hne)).trans q, hne⟩, fun b hb => ?_⟩
    · have e1 : ((i + 1 : Nat) : Int) = (i : Int) + 1 := by omega
      rw [e1]; exact he'
    · have hb' : b < s.heap.objs.size := by
        have e' : b = e ∨ b = it := by simpa using hb
        rcases e' with z | z
        · rw [z]; exact hel
        · rw [z]; exact hil
      rw [upd_ne (Nat.ne_of_lt hb')]
      exact (hf b hb).1
  done := by
    intro X hP hw hK hc i pins s σ H E I hf st hg
    subst hP hw hK
    obtain ⟨⟨old, he⟩, hit, hne⟩ := st
    obtain ⟨xs, hq, hx⟩ := hg
    obtain ⟨its, rv, p, hz⟩ := I.tuple hq
    have p : s.heap.IsTuple a its.toArray := p
    have nea : a ≠ it := fun z => by
      obtain ⟨o, e1, e2, _⟩ := hit
      obtain ⟨o', e3, e4, _⟩ := p
      rw [z, e1] at e3
      cases e3
      rw [e2] at e4
      exact absurd e4 (by decide)
    obtain ⟨f0, f1, f2, f3, f4, f5⟩ := hf it (by simp)
    have hl := rv.length
    exact enumT_end (I.ok.hd hc) he hit p (by simp; omega) fun h' eb => ⟨rfl, I.turned (t' := s.toks) (fun b o hb q => eb b o hb q) f0 f1 f3 f4 f5⟩
  self := fun A i s Q E st h => let ⟨⟨_, he⟩, _⟩ := st; wpAny_pyIter_enum he h
def iEnumA (K : PySem.W.Frag) (ta : TA) : TI := fun σ H R => ta σ H fun vs H1 => ∃ a xs, vs = [.ref a] ∧ ((SqL K H1 a xs ∧ R (Ite K a) H1) ∨ (SqT K H1 a xs ∧ R (IteT K a) H1))
theorem pi_enumA {X : Cx} {e : Expr} {ta : TA} {p pos tpos : Pos} {elts : List Expr} {kk : Nat} (hg : Gl X "enumerate") (hm : X.mg "enumerate" = none) (ha : PA X [e] ta) (hs : starEach [e] X.env = [(false, eval e X.env)] := by rfl) :
    PI X (.Tuple elts kk tpos) (.Call (.Name "enumerate" p) [e] [] pos) (iEnumA X.K ta) := by
  refine ⟨fun pins s σ H R I h => ?_⟩
  refine Call_ (ld_blt I hg hm boot_enumerate (PyProof.Rows.callWith_type1 (thn (ha.run pos pins s σ H _ I h) fun us s1 ⟨vs, H1, I1, r1, q1⟩ => ?_) hs rfl))
  obtain ⟨a, xs, ex, q1⟩ := q1
  subst ex
  cases r1 with
  | cons r rr =>
    cases rr
    cases r
    rcases q1 with ⟨hq, q⟩ | ⟨hq, q⟩
    · obtain ⟨its, rv, p', hz⟩ := I1.list hq
      refine call_enumerate_list p'.isList fun h' he hit hsz hk => wpAny_pyIter_enum he ?_
      have I2 : Inv X pins σ H1 { s1 with heap := h' } := I1.kept (t' := s1.toks) hk
      refine ⟨s1.heap.objs.size + 1, [s1.heap.objs.size + 1, s1.heap.objs.size], _, _, H1, rfl, I2, turn_enum a (s1.heap.objs.size + 1) s1.heap.objs.size, ⟨⟨.none, he⟩, hit, Nat.succ_ne_self _⟩, fun b hb => ?_, q⟩
      have e' : b = s1.heap.objs.size + 1 ∨ b = s1.heap.objs.size := by simpa using hb
      have hle : s1.heap.objs.size ≤ b := by
        rcases e' with z | z
        · rw [z]; exact Nat.le_add_right _ _
        · rw [z]; exact Nat.le_refl _
      exact I1.fpOk hle (I1.hok.fresh hle)
    · obtain ⟨its, rv, p', hz⟩ := I1.tuple hq
      have p' : s1.heap.IsTuple a its.toArray := p'
      refine enum_begins1 (begins_tuple a its.toArray) p' fun h' he hit hsz hk => wpAny_pyIter_enum he ?_
      have I2 : Inv X pins σ H1 { s1 with heap := h' } := I1.kept (t' := s1.toks) hk
      refine ⟨s1.heap.objs.size + 1, [s1.heap.objs.size + 1, s1.heap.objs.size], _, _, H1, rfl, I2, turn_enumT a (s1.heap.objs.size + 1) s1.heap.objs.size, ⟨⟨.none, he⟩, ⟨_, hit, rfl, rfl⟩, Nat.succ_ne_self _⟩, fun b hb => ?_, q⟩
      have e' : b = s1.heap.objs.size + 1 ∨ b = s1.heap.objs.size := by simpa using hb
      have hle : s1.heap.objs.size ≤ b := by
        rcases e' with z | z
        · rw [z]; exact Nat.le_add_right _ _
        · rw [z]; exact Nat.le_refl _
      exact I1.fpOk hle (I1.hok.fresh hle)
/-! ### the mirror -/
def mEnumA (a : MA) : MI := fun ρ κ => (a ρ κ).bind fun xs κ1 => match xs with
  | [.d (.list ds)] => .ok (enumD 0 ds) κ1
  | [.d (.tuple ds)] => .ok (enumD 0 ds) κ1
  | _ => .bad
section
variable {K : PySem.W.Frag} {F : List Addr} {B B' : Hp} {ι ι' : List Addr} {H H' : Hp} {κ : Kap}
theorem yld_enumT {a : Addr} {vs : List V} {xs : List D} (hS : SqT K B a vs) (r : RpAll K B vs xs) : Yld K F B ι H (IteT K a) (enumD 0 xs) := fun F' i B' ι' H' κ' _ g s => by
  have h1 : SqT K H' a vs := same_t s.ex (same_t g.b hS)
  refine ⟨fun d e => ?_, fun e => ⟨vs, h1, by rw [r.len, ← enumD_len xs 0]; exact e⟩⟩
  rw [enumD_get] at e
  cases q : xs[i]? with
  | none => rw [q] at e; cases e
  | some y =>
    rw [q] at e
    simp only [Option.map_some, Option.some.injEq, Nat.zero_add] at e
    subst e
    obtain ⟨v, e1, w⟩ := r.get q
    refine ⟨⟨vs, v, h1, e1⟩, fun x H'' yy => ?_⟩
    obtain ⟨T, z, rfl, hT, rfl, hz⟩ := yy
    have ez := hz vs h1
    rw [e1] at ez
    cases ez
    obtain ⟨s2, g2⟩ := s.new (o := .tup [.int (i : Nat), v]) hT
    exact ⟨_, g2, s2, .tup (.inl (.inl upd_same)) (.cons (.int _) (.cons ((w.mono g.b).mono g2.b) .nil))⟩
end
section
variable {X : Cx} {E : XK} {e : Expr} {ma : MA} {p pos tpos : Pos} {elts : List Expr} {kk : Nat}
theorem ji_enumA (hg : Gl X "enumerate") (hm : X.mg "enumerate" = none) (ha : JA X E [e] ma) (hs : starEach [e] X.env = [(false, eval e X.env)] := by rfl) : JI X E (.Tuple elts kk tpos) (.Call (.Name "enumerate" p) [e] [] pos) (mEnumA ma) :=
  ji_imp (pi_enumA hg hm ha hs) fun σ H R ⟨F, B, ι, ρ, κ, s, h⟩ => by
    unfold mEnumA at h
    refine evA s (fun x κ1 e1 v B1 ι1 H1 g1 s1 w1 => ?_) (fun n fs κ1 e1 => by rw [e1] at h; exact h) (fun e => by rw [e] at h; exact h)
    rw [e1] at h
    dsimp only [Out.bind] at h
    split at h
    · rename_i xs κ' q
      split at q
      · cases q
        cases w1 with
        | cons w w2 =>
          cases w2
          cases w with
          | lst hL r => exact ⟨_, _, rfl, .inl ⟨lst1 (s1.ex _ _ hL), h _ B1 ι1 H1 g1 s1 (yld_enum (lst1 hL) r)⟩⟩
      · cases q
        cases w1 with
        | cons w w2 =>
          cases w2
          cases w with
          | tup hL r => exact ⟨_, _, rfl, .inr ⟨same_t s1.ex hL, h _ B1 ι1 H1 g1 s1 (yld_enumT hL r)⟩⟩
      · cases q
    · rename_i q; split at q <;> cases q
    · exact h.elim
end
end DL

namespace DL
open L2 PyProof.Rows PySem PySem.Spec

/-! ### (a, b, ..) = a tuple or a list -/
def bUnp (n : Nat) (r : List DV → Rho → Kap → Option (Rho × Kap)) : MG := fun x ρ κ => match x with
  | .d (.tuple ds) => if ds.length = n then r (ds.map .d) ρ κ else none
  | .d (.list ds) => if ds.length = n then r (ds.map .d) ρ κ else none
  | _ => none
section
variable {X : Cx} {pos : Pos}
theorem pg_or {e : Expr} {t u : TG} (h1 : PG X e t) (h2 : PG X e u) : PG X e (fun v σ H Q => t v σ H Q ∨ u v σ H Q) :=
  ⟨fun pins s σ H v w Q I r h => h.elim (fun h => h1.run pins s σ H v w Q I r h) (fun h => h2.run pins s σ H v w Q I r h)⟩
theorem jg_unp {es : List Expr} {k : Nat} {r : List DV → Rho → Kap → Option (Rho × Kap)} {ts : List Nat} {n : Nat} (hc : X.calm = true) (h : JGs X es r ts)
    (hn : (assignEach es X.env).length = n := by rfl) (hst : (assignEach es X.env).findIdx? (·.1) = none := by rfl) : JG X (.Tuple es k pos) (bUnp n r) ts :=
  pg_imp (pg_or (pg_tup hc h hn hst) (pg_unl hc h hn hst)) fun v σ H Q ⟨F, B, ι, ρ, κ, x, s, w, h⟩ => by
    have go : ∀ {a : Addr} {vs : List V} {ds : List D}, v = .ref a → RpAll X.K B vs ds → (match (if ds.length = n then r (ds.map .d) ρ κ else none) with
        | some (ρ', κ') => ∀ σ' B' ι' H', (σ'.length = σ.length ∧ ∀ i, i ∉ ts → σ'[i]? = σ[i]?) → Grow F B ι H B' ι' H' → SOk X.K F B' ι' σ' H' ρ' κ' → Q σ' H'
        | none => False) → vs.length = n ∧ tGs X.K r ts vs σ H Q := fun {a vs ds} ev ra h => by
      by_cases c : ds.length = n
      · rw [if_pos c] at h
        refine ⟨by rw [ra.len]; exact c, F, B, ι, ρ, κ, _, s, cells_of ra, ?_⟩
        cases q : r (ds.map .d) ρ κ with
        | none => rw [q] at h; exact h.elim
        | some p => rw [q] at h; exact h
      · rw [if_neg c] at h
        exact h.elim
    unfold bUnp at h
    match x, w, h with
    | .d (.tuple ds), w, h =>
      obtain ⟨a, vs, ev, h1, r1⟩ := tup_ok s.hs w
      obtain ⟨l1, g⟩ := go ev r1 h
      exact .inl ⟨a, vs, ev, h1, l1, g⟩
    | .d (.list ds), w, h =>
      obtain ⟨a, vs, ev, h1, r1⟩ := lv_ok s.hs (x := .d (.list ds)) w rfl
      obtain ⟨l1, g⟩ := go ev r1 h
      exact .inr ⟨a, vs, ev, lst1 h1, l1, g⟩
end
end DL

namespace DL
open L2 PyProof.Rows PySem PySem.Spec

/-! ### dicts that are written: cells -/
def dlk : List (Key × DV) → Key → Option DV
  | [], _ => none
  | p :: r, k => if p.1 = k then some p.2 else dlk r k
def dput : List (Key × DV) → Key → DV → List (Key × DV)
  | [], k, x => [(k, x)]
  | p :: r, k, x => if p.1 = k then (p.1, x) :: r else p :: dput r k x
abbrev KvOk (K : PySem.W.Frag) (B : Hp) (ι : List Addr) : List (Key × V) → List (Key × DV) → Prop := Paired (fun (p : Key × V) (q : Key × DV) => p.1 = q.1 ∧ WOk K B ι p.2 q.2)
section
variable {K : PySem.W.Frag} {F : List Addr} {B : Hp} {ι : List Addr} {H : Hp} {κ : Kap} {v : V} {x : DV}
theorem dlk_ok {k : Key} : ∀ {ws : List (Key × V)} {kvs : List (Key × DV)}, KvOk K B ι ws kvs → dlk kvs k = some x → ∃ v, valV ws k = some v ∧ WOk K B ι v x
  | _, _, .nil, e => nomatch e
  | _, _, .cons (a := p) (b := q) h r, e => by
    rw [dlk] at e
    by_cases c : q.1 = k
    · rw [if_pos c] at e
      cases e
      exact ⟨p.2, valV_pos (h.1.trans c), h.2⟩
    · rw [if_neg c] at e
      obtain ⟨v, e1, w⟩ := dlk_ok r e
      exact ⟨v, by rw [valV_neg (fun z => c (h.1.symm.trans z))]; exact e1, w⟩
theorem dlk_no {k : Key} : ∀ {ws : List (Key × V)} {kvs : List (Key × DV)}, KvOk K B ι ws kvs → dlk kvs k = none → valV ws k = none
  | _, _, .nil, e => rfl
  | _, _, .cons (a := p) (b := q) h r, e => by
    rw [dlk] at e
    by_cases c : q.1 = k
    · rw [if_pos c] at e; cases e
    · rw [if_neg c] at e
      rw [valV_neg (fun z => c (h.1.symm.trans z))]
      exact dlk_no r e
/-- keys once each -/
def kNd (kvs : List (Key × DV)) : Bool := decide (kvs.map (·.1)).Nodup
theorem dput_ok {k : Key} : ∀ {ws : List (Key × V)} {kvs : List (Key × DV)}, KvOk K B ι ws kvs → (kvs.map (·.1)).Nodup → WOk K B ι v x → KvOk K B ι (putK ws k v) (dput kvs k x)
  | _, _, .nil, _, w => .cons ⟨rfl, w⟩ .nil
  | _, _, .cons (a := p) (b := q) (l₁ := ws) (l₂ := kvs) h r, nd, w => by
    rw [List.map_cons, List.nodup_cons] at nd
    rw [dput]
    by_cases c : q.1 = k
    · rw [if_pos c]
      have hp : p.1 = k := h.1.trans c
      have miss : ∀ {ws : List (Key × V)} {kvs : List (Key × DV)}, KvOk K B ι ws kvs → (k ∉ kvs.map (·.1)) → (ws.map fun kv => if kv.1 = k then (kv.1, v) else kv) = ws := by
        intro ws kvs r hn
        induction r with
        | nil => rfl
        | cons h r ih =>
          rw [List.map_cons, List.mem_cons, not_or] at hn
          rw [List.map_cons, ih hn.2, if_neg (fun z => hn.1 (z.symm.trans h.1))]
      have e : putK (p :: ws) k v = (p.1, v) :: ws := by
        unfold putK
        rw [if_pos (by rw [List.any_cons, decide_eq_true hp, Bool.true_or]), List.map_cons, if_pos hp, miss r (c ▸ nd.1)]
      rw [e]
      exact .cons ⟨h.1, w⟩ r
    · rw [if_neg c]
      have hp : ¬ p.1 = k := fun z => c (h.1.symm.trans z)
      have e : putK (p :: ws) k v = p :: putK ws k v := by
        unfold putK
        rw [List.any_cons, decide_eq_false hp, Bool.false_or]
        split
        · rw [List.map_cons, if_neg hp]
        · rfl
      rw [e]
      exact .cons h (dput_ok r nd.2 w)
theorem kv_len {ws : List (Key × V)} {kvs : List (Key × DV)} (h : KvOk K B ι ws kvs) : ws.length = kvs.length := h.length
theorem HSt.cellG {o : HO} {cl : Cell} (s : HSt K F B ι H κ) {p : Addr} (h1 : H p = some o) (h2 : B p = none) (h3 : p ∉ ι) (h4 : p ∉ F) (ho : ∀ ps, o ≠ .tbl ps) (r : COk K B (ι ++ [p]) H p cl) :
    HSt K F B (ι ++ [p]) H (κ ++ [cl]) ∧ Grow F B ι H B (ι ++ [p]) H ∧ WOk K B (ι ++ [p]) (.ref p) (.c κ.length) := by
  have i : ∀ (j : Nat) (a : Addr), ι[j]? = some a → (ι ++ [p])[j]? = some a := fun j a e => by
    rw [List.getElem?_append_left (List.getElem?_eq_some_iff.mp e).1]; exact e
  have last : (ι ++ [p])[κ.length]? = some p := by
    rw [← s.len, List.getElem?_append_right (Nat.le_refl _), Nat.sub_self]; rfl
  refine ⟨⟨s.ex, by rw [List.length_append, List.length_append, s.len]; rfl, ?_, fun j a m l => ?_, fun a m => ?_, fun j a cl e1 e2 => ?_, fun a m => ?_, fun q m => let t := s.tb q m; t.to (Same.refl _) rfl t.2.1 (fun z => (List.mem_append.mp z).elim t.2.2.1 fun z => t.ne h1 ho (List.mem_singleton.mp z)) t.2.2.2⟩, ⟨Same.refl _, i, fun _ _ => rfl⟩, ⟨p, last, rfl⟩⟩
  · rw [List.nodup_append]
    refine ⟨s.nd, by simp, fun a ha b hb e => ?_⟩
    rw [List.mem_singleton] at hb
    exact h3 (by rw [← hb, ← e]; exact ha)
  · by_cases hj : j < κ.length
    · rw [List.getElem?_append_left (by rw [s.len]; exact hj)] at m
      rw [List.getElem?_append_left hj] at l
      exact s.out j a m l
    · have hj2 := (List.getElem?_eq_some_iff.mp m).1
      rw [List.length_append, s.len] at hj2
      have hj2 : j < κ.length + 1 := hj2
      have ej : j = κ.length := by omega
      subst ej
      rw [last] at m
      cases m
      exact h2
  · obtain ⟨a1, a2, a3⟩ := s.pro a m
    refine ⟨a1, a2, fun z => ?_⟩
    rcases List.mem_append.mp z with z | z
    · exact a3 z
    · rw [List.mem_singleton.mp z] at m
      exact h4 m
  · by_cases hj : j < κ.length
    · rw [List.getElem?_append_left (by rw [s.len]; exact hj)] at e1
      rw [List.getElem?_append_left hj] at e2
      exact (s.cel j a cl e1 e2).mono (Same.refl _) i rfl
    · have hj2 := (List.getElem?_eq_some_iff.mp e2).1
      rw [List.length_append] at hj2
      have hj2 : j < κ.length + 1 := hj2
      have ej : j = κ.length := by omega
      subst ej
      rw [last] at e1
      cases e1
      rw [List.getElem?_append_right (Nat.le_refl _), Nat.sub_self] at e2
      cases e2
      exact r
  · rcases List.mem_append.mp m with m | m
    · exact s.tr a m
    · rw [List.mem_singleton.mp m]; exact ⟨_, h1⟩
end

/-! ### d[k] -/
def cgetO (x y : DV) (κ : Kap) : Out DV := match x, y with
  | .c i, .d k => (match κ[i]?, keyOf k with
    | some (.dic kvs), some ky => (match dlk kvs ky with
      | some v => .ok v κ
      | none => .bad)
    | _, _ => .bad)
  | _, _ => .bad
def mCget (mo mi : ME) : ME := fun ρ κ => (mo ρ κ).bind fun x κ1 => (mi ρ κ1).bind fun y κ2 => cgetO x y κ2
/-! ### d[k] = v -/
def cputO (x o y : DV) (ρ : Rho) (κ : Kap) : OutS := match o, y with
  | .c i, .d k => (match κ[i]?, keyOf k with
    | some (.dic kvs), some ky => if kvs.length ≤ 1000 ∧ (kvs.map (·.1)).Nodup then .nx ρ (κ.set i (.dic (dput kvs ky x))) else .bad
    | _, _ => .bad)
  | _, _ => .bad
def mCput (mo mi mv : ME) : MS := fun ρ κ => (mv ρ κ).bindS fun x κ1 => (mo ρ κ1).bindS fun o κ2 => (mi ρ κ2).bindS fun y κ3 => cputO (fz x) o y ρ κ3
/-! ### {} -/
def mDnew : ME := fun _ κ => .ok (.c κ.length) (κ ++ [.dic []])
section
variable {X : Cx} {E : XK} {o i e : Expr} {mo mi mv : ME} {pos pos' : Pos}
theorem je_cget (hu : X.A.units + 64 < cLine) (ho : JE X E o mo) (hi : JE X E i mi) (hs : NoSl i) : JE X E (.Subscript o i pos) (mCget mo mi) :=
  pe_imp (pe_dget (by omega) ho hi hs) fun σ H Q ⟨F, B, ι, ρ, κ, s, h⟩ => by
    unfold mCget at h
    refine evE s (fun x κ1 e1 v B1 ι1 H1 g1 s1 w1 => ?_) (fun n fs κ1 e1 => by rw [e1] at h; exact h) (fun e => by rw [e] at h; exact h)
    rw [e1] at h
    replace h : PostE X.K X.mg E F B ι H Q (Out.bind (mi ρ κ1) fun y κ2 => cgetO x y κ2) := h
    refine evE (s.step g1 s1) (fun y κ2 e2 u B2 ι2 H2 g2 s2 w2 => ?_) (fun n fs κ2 e2 => by rw [e2] at h; exact XW.grow h g1 fun _ m => m) (fun e => by rw [e] at h; exact h)
    rw [e2] at h
    replace h : PostE X.K X.mg E F B ι H Q (cgetO x y κ2) := h
    unfold cgetO at h
    split at h
    · rename_i i k
      split at h
      · rename_i kvs ky ek1 ek2
        split at h
        · rename_i z ez
          obtain ⟨a, ha, rfl⟩ := w1
          have ha2 := g2.i i a ha
          obtain ⟨ws, hH, rk⟩ := s2.cel i a (.dic kvs) ha2 ek1
          obtain ⟨zv, e3, r3⟩ := dlk_ok rk ez
          exact ⟨a, zv, rfl, .inl ⟨ws, ky, .inl hH, key_v ek2 w2, e3.symm⟩, h zv B2 ι2 H2 (g1.trans g2) s2 r3.toV⟩
        · exact h.elim
      · exact h.elim
    · exact h.elim
theorem js_cput (hu : X.A.units + 64 < cLine) (ho : JE X E o mo) (hi : JE X E i mi) (hv : JE X E e mv) (hs : swapsWith e (some (.Subscript o i pos')) pos.line X.env = pure false := by rfl) : JS X E (.Assign [.Subscript o i pos'] e pos) (mCput mo mi mv) :=
  ps_imp (ps_dput (by omega) ho hi hv hs) fun De σ H ⟨F, B, ι, ρ, κ, s, h⟩ => by
    unfold mCput at h
    refine evE s (fun x κ1 e1 v B1 ι1 H1 g1 s1 w1 => ?_) (fun n fs κ1 e1 => by rw [e1] at h; exact h) (fun e => by rw [e] at h; exact h)
    rw [e1] at h
    obtain ⟨B1', s1', g1', w1'⟩ := s1.fz w1
    replace h : PostS X.K X.mg E F B ι H De (Out.bindS (mo ρ κ1) fun o κ2 => (mi ρ κ2).bindS fun y κ3 => cputO (fz x) o y ρ κ3) := h
    have gA := g1.trans g1'
    refine evE (s.step gA s1') (fun y κ2 e2 u B2 ι2 H2 g2 s2 w2 => ?_) (fun n fs κ2 e2 => by rw [e2] at h; exact XW.grow h gA fun _ m => m) (fun e => by rw [e] at h; exact h)
    rw [e2] at h
    replace h : PostS X.K X.mg E F B ι H De (Out.bindS (mi ρ κ2) fun z κ3 => cputO (fz x) y z ρ κ3) := h
    have gB := gA.trans g2
    refine evE (s.step gB s2) (fun z κ3 e3 t B3 ι3 H3 g3 s3 w3 => ?_) (fun n fs κ2 e2 => by rw [e2] at h; exact XW.grow h gB fun _ m => m) (fun e => by rw [e] at h; exact h)
    rw [e3] at h
    replace h : PostS X.K X.mg E F B ι H De (cputO (fz x) y z ρ κ3) := h
    have gC := gB.trans g3
    unfold cputO at h
    split at h
    · rename_i i k
      split at h
      · rename_i kvs ky ek1 ek2
        split at h
        · rename_i hl
          obtain ⟨a, ha, rfl⟩ := w2
          have ha3 := g3.i i a ha
          obtain ⟨ws, hH, rk⟩ := s3.cel i a (.dic kvs) ha3 ek1
          have wv : WOk X.K B3 ι3 v (fz x) := (w1'.grow g2).grow g3
          obtain ⟨s4, g4⟩ := s3.setCell (o := .dK (putK ws ky v)) (cl := .dic (dput kvs ky (fz x))) ha3 (by rw [ek1]; intro z; cases z) fun H' hh => ⟨_, hh, dput_ok rk hl.2 wv⟩
          refine ⟨a, _, rfl, ?_, h σ B3 ι3 _ (gC.trans g4) (s.step (gC.trans g4) s4)⟩
          rw [key_v ek2 w3]
          exact DPut.k hH (by rw [kv_len rk, sizeLine_eq]; omega)
        · exact h.elim
      · exact h.elim
    · exact h.elim
theorem je_dnew : JE X E (.Dict [] [] pos) mDnew :=
  pe_imp pe_dnewK fun σ H Q ⟨F, B, ι, ρ, κ, s, h⟩ => by
    intro p hp
    obtain ⟨s1, g1, b1, b2, b3⟩ := s.hs.loose (o := .dK []) hp
    obtain ⟨s2, g2, w2⟩ := s1.cellG (cl := .dic []) upd_same b1 b2 b3 (by intro _ z; cases z) ⟨[], upd_same, .nil⟩
    exact h (.ref p) B _ _ (g1.trans g2) s2 w2
end
end DL

namespace DL
open L2 PyProof.Rows PySem PySem.Spec

/-! ### d.setdefault(k, v) -/
def isDic (κ : Kap) : DV → Bool
  | .c i => (match κ[i]? with
    | some (.dic _) => true
    | _ => false)
  | _ => false
def csetO (x o y : DV) (κ : Kap) : Out DV := match o, y with
  | .c i, .d k => (match κ[i]?, keyOf k with
    | some (.dic kvs), some ky => if kvs.length ≤ 1000 ∧ (kvs.map (·.1)).Nodup then (match dlk kvs ky with
      | some v => .ok v κ
      | none => .ok x (κ.set i (.dic (dput kvs ky x)))) else .bad
    | _, _ => .bad)
  | _, _ => .bad
def mCsetd (mo mi mv : ME) : ME := fun ρ κ => (mo ρ κ).bind fun o κ1 => if isDic κ1 o = true then (mi ρ κ1).bind fun y κ2 => (mv ρ κ2).bind fun x κ3 => csetO (fz x) o y κ3 else .bad
theorem isDic_ex {κ : Kap} {o : DV} (h : isDic κ o = true) : ∃ i kvs, o = .c i ∧ κ[i]? = some (.dic kvs) := by
  unfold isDic at h
  split at h
  · split at h
    · rename_i e; exact ⟨_, _, rfl, e⟩
    · cases h
  · cases h
section
variable {X : Cx} {E : XK} {o i e : Expr} {mo mi mv : ME} {apos cpos : Pos}
theorem je_csetd (ho : JE X E o mo) (hi : JE X E i mi) (hv : JE X E e mv) (m : M2 X o "setdefault" apos i e cpos := by exact ⟨rfl, rfl, rfl, rfl⟩) : JE X E (.Call (.Attribute o "setdefault" apos) [i, e] [] cpos) (mCsetd mo mi mv) :=
  pe_imp (pe_dsetd ho hi hv m) fun σ H Q ⟨F, B, ι, ρ, κ, s, h⟩ => by
    unfold mCsetd at h
    refine evE s (fun x κ1 e1 v B1 ι1 H1 g1 s1 w1 => ?_) (fun n fs κ1 e1 => by rw [e1] at h; exact h) (fun e => by rw [e] at h; exact h)
    rw [e1] at h
    replace h : PostE X.K X.mg E F B ι H Q (if isDic κ1 x = true then (mi ρ κ1).bind fun y κ2 => (mv ρ κ2).bind fun z κ3 => csetO (fz z) x y κ3 else .bad) := h
    split at h
    · rename_i hd
      obtain ⟨j, kvs0, rfl, ek0⟩ := isDic_ex hd
      obtain ⟨a, ha, rfl⟩ := w1
      obtain ⟨ws0, hH0, _⟩ := s1.cel j a (.dic kvs0) ha ek0
      refine ⟨a, rfl, .inl ⟨ws0, .inl hH0⟩, ?_⟩
      refine evE (s.step g1 s1) (fun y κ2 e2 u B2 ι2 H2 g2 s2 w2 => ?_) (fun n fs κ2 e2 => by rw [e2] at h; exact XW.grow h g1 fun _ m => m) (fun e => by rw [e] at h; exact h)
      rw [e2] at h
      replace h : PostE X.K X.mg E F B ι H Q (Out.bind (mv ρ κ2) fun z κ3 => csetO (fz z) (.c j) y κ3) := h
      have gB := g1.trans g2
      obtain ⟨B2', s2', g2', w2'⟩ := s2.fz w2
      have gB' := gB.trans g2'
      refine evE (s.step gB' s2') (fun z κ3 e3 t B3 ι3 H3 g3 s3 w3 => ?_) (fun n fs κ2 e2 => by rw [e2] at h; exact XW.grow h gB' fun _ m => m) (fun e => by rw [e] at h; exact h)
      rw [e3] at h
      replace h : PostE X.K X.mg E F B ι H Q (csetO (fz z) (.c j) y κ3) := h
      obtain ⟨B3', s3', g3', w3'⟩ := s3.fz w3
      have gC := (gB'.trans g3).trans g3'
      unfold csetO at h
      split at h
      · rename_i j' k ej
        cases ej
        split at h
        · rename_i kvs ky ek1 ek2
          split at h
          · rename_i hl
            have ha3 : ι3[j]? = some a := g3.i j a (g2.i j a ha)
            obtain ⟨ws, hH, rk⟩ := s3'.cel j a (.dic kvs) ha3 ek1
            have wy : Rp X.K B3' u k := ((show WOk X.K B2' ι2 u (.d k) from w2').grow g3).grow g3'
            refine ⟨ws, ky, hH, key_v ek2 wy, by rw [kv_len rk, sizeLine_eq]; omega, fun zv hz => ?_, fun hz => ?_⟩
            · cases q : dlk kvs ky with
              | none => rw [dlk_no rk q] at hz; cases hz
              | some z' =>
                rw [q] at h
                obtain ⟨zv', e4, r4⟩ := dlk_ok rk q
                rw [hz] at e4
                cases e4
                exact h zv B3' ι3 H3 gC s3' r4.toV
            · cases q : dlk kvs ky with
              | some z' =>
                obtain ⟨zv', e4, r4⟩ := dlk_ok rk q
                rw [hz] at e4; cases e4
              | none =>
                rw [q] at h
                obtain ⟨s4, g4⟩ := s3'.setCell (o := .dK (putK ws ky t)) (cl := .dic (dput kvs ky (fz z))) ha3 (by rw [ek1]; intro z; cases z) fun H' hh => ⟨_, hh, dput_ok rk hl.2 w3'⟩
                exact h t B3' ι3 _ (gC.trans g4) s4 (w3'.grow g4).toV
          · exact h.elim
        · exact h.elim
      · exact h.elim
    · exact h.elim
end

/-! ### a dict display as a cell -/
def mDispC (m : MP) : ME := fun ρ κ => (m ρ κ).bind fun xs κ1 => if (xs.map (·.1)).Nodup ∧ xs.length ≤ 15 then .ok (.c κ1.length) (κ1 ++ [.dic xs]) else .bad
theorem kvs_ofC {K : PySem.W.Frag} {B : Hp} {ι : List Addr} : ∀ {vs : List (V × V)} {xs : List (Key × DV)}, Paired (fun (p : V × V) (q : Key × DV) => p.1 = kV q.1 ∧ WOk K B ι p.2 q.2) vs xs →
    ∃ kvs : List (Key × V), vs = kvs.map (fun kv => (kV kv.1, kv.2)) ∧ KvOk K B ι kvs xs ∧ kvs.map (·.1) = xs.map (·.1)
  | _, _, .nil => ⟨[], rfl, .nil, rfl⟩
  | _, _, .cons (a := p) (b := q) h r => by
    obtain ⟨kvs, e1, e2, e3⟩ := kvs_ofC r
    obtain ⟨u, v⟩ := p
    have h1 : u = kV q.1 := h.1
    exact ⟨(q.1, v) :: kvs, by rw [e1, h1]; rfl, .cons ⟨rfl, h.2⟩ e2, by rw [List.map_cons, List.map_cons, e3]⟩
section
variable {X : Cx} {E : XK} {pos : Pos} {ks : List (Option Expr)} {vs : List Expr} {m : MP}
theorem je_dispC (hj : JPs X E pos ks vs m) (hall : ks.all (·.isSome) = true := by rfl) (hl : ks.length = vs.length := by rfl) (h0 : ks ≠ [] := by simp) (h15 : ks.length ≤ 15 := by decide) : JE X E (.Dict ks vs pos) (mDispC m) := by
  obtain ⟨trs, hp, hi⟩ := hj.ex
  refine pe_imp (pe_disp hp hall hl h0 h15) fun σ H Q ⟨F, B, ι, ρ, κ, s, h⟩ => ?_
  intro p hnp
  obtain ⟨s1, g1, hpF⟩ := s.hs.tmp (o := .dK []) hnp
  refine hi _ _ _ ⟨p :: F, B, ι, ρ, κ, s.step g1 s1, ?_⟩
  unfold mDispC at h
  cases q : m ρ κ with
  | bad => rw [q] at h; exact h.elim
  | ex n fs κ2 => rw [q] at h; exact XW.grow h g1 fun _ m => List.mem_cons_of_mem _ m
  | ok xs κ2 =>
    rw [q] at h
    intro us B2 ι2 H2 g2 s2 w2
    dsimp only [Out.bind] at h
    split at h
    · rename_i hn
      obtain ⟨kvs, e1, rk, e3⟩ := kvs_ofC w2
      have hl2 : kvs.length = xs.length := by have := congrArg List.length e3; simpa using this
      refine ⟨(g2.fr p (List.mem_cons_self ..)).trans upd_same, kvs, e1, by rw [hl2]; exact hn.2, ?_⟩
      rw [merge_new kvs [] (by rw [List.nil_append, e3]; exact hn.1), List.nil_append]
      obtain ⟨s3, g3⟩ := s2.setP (o := .dK kvs) hpF
      obtain ⟨_, b1, b2⟩ := s3.pro p (List.mem_cons_self ..)
      have sub : ∀ a ∈ F, a ∈ p :: F := fun _ m => List.mem_cons_of_mem _ m
      have ii : ∀ (j : Nat) (a : Addr), ι2[j]? = some a → (ι2 ++ [p])[j]? = some a := fun j a e => by
        rw [List.getElem?_append_left (List.getElem?_eq_some_iff.mp e).1]; exact e
      obtain ⟨s4, g4, w4⟩ := (s3.less sub).cellG (cl := .dic xs) upd_same b1 b2 hpF (by intro _ z; cases z) ⟨kvs, upd_same, pmap rk fun _ _ w => ⟨w.1, w.2.mono (Same.refl _) ii⟩⟩
      exact h (.ref p) _ _ _ (((g1.trans (g2.less sub)).trans g3).trans g4) s4 w4
    · exact h.elim
end

/-! ### defs whose new cells stay -/
def finK : OutS → Out DV
  | .nx _ κ => .ok (.d .none) κ
  | .rt x κ => .ok x κ
  | _ => .bad
def mDefK (np nl : Nat) (b : MS) : MF := fun xs κ => if xs.length = np then finK (b (rho0 nl xs) κ) else .bad
theorem nargs_defK {np nl : Nat} {b : MS} : NArgs (mDefK np nl b) np := fun xs κ h => by unfold mDefK; rw [if_neg h]
section
variable {K : PySem.W.Frag} {mg : Str → Option Value} {E : XK} {F : List Addr} {B : Hp} {ι : List Addr} {H : Hp} {κ : Kap}
theorem finK_ok {mb : MS} {N : List Str} {Q : VK} {vs : List V} {xs : List DV} (s : HSt K F B ι H κ) (p : Paired (WOk K B ι) vs xs) (h : PostE K mg E F B ι H Q (finK (mb (rho0 N.length xs) κ))) :
    tS K mg E mb { nx := fun _ H' => Q .non H', rt := Q } (L2.start N vs) H := by
  refine ⟨F, B, ι, rho0 N.length xs, κ, start_ok s p, ?_⟩
  cases q : mb (rho0 N.length xs) κ with
  | nx ρ' κ' =>
    rw [q] at h
    intro σ' B' ι' H' g s'
    exact h .non B' _ H' g s'.hs .non
  | rt x κ' =>
    rw [q] at h
    intro v B' ι' H' g s' w
    exact h v B' _ H' g s' w
  | ex n fs κ' => rw [q] at h; exact h.elim
  | bk ρ' κ' => rw [q] at h; exact h.elim
  | ct ρ' κ' => rw [q] at h; exact h.elim
  | bad => rw [q] at h; exact h.elim
end
section
variable {P : Program} {w : World} {K : PySem.W.Frag} {mg : Str → Option Value} {base : Heap}
theorem ok_defK {x qual : Str} {st : Stmt} {f : Addr} {fd : FuncData} {N ps : List Str} {k : Nat} {mb : MS} (Fu : Fun K x qual st f fd) (S : FnScope N ps (defScope st))
    (hb : ∀ (cdv : Value) (A : Around) (outer : List Env) (s : Shared) (H : Hp) (E : XK), A.guards = some [] → Room k (A.deeper (envOfC qual (defScope st) s.heap.objs.size f cdv)) →
      JSs (cxOf CX0 P w K mg base N qual (defScope st) f cdv A outer s H E).nox E0 (defBody st) mb) : FnG P w K mg base CX0 (k + 1) f fd ps (spM K mg ps.length (mDefK ps.length N.length mb)) := by
  refine fnG Fu S (fun vs H Q E h => h.1) (fun cdv A outer s H vs Q E gu hr h => ?_)
  obtain ⟨hl, F, B, ι, xs, κ, hs, p, h⟩ := h
  refine ⟨_, (hb cdv A outer s H E gu hr).nox, ?_⟩
  unfold mDefK at h
  rw [if_pos (by rw [← p.length]; exact hl)] at h
  exact finK_ok hs p h
end
/-! ### list.clear() -/
def clearF (ys xs : List DV) : Option (DV × List DV) := match xs with
  | [] => some (.d .none, [])
  | _ => none
theorem clearI : CelI rClear clearF := fun K B ι H a us ws ys xs z ys' h p w e Q q => by
  unfold clearF at e
  split at e
  · cases e; cases w
    exact ⟨a, us, rfl, rfl, h, q .non [] .non .nil⟩
  · cases e
end DL

namespace DL
open L2 PyProof.Rows PySem PySem.Spec

/-! ### repr of a list that holds live lists -/
def allDat (κ : Kap) : List DV → Option (List D)
  | [] => some []
  | x :: r => match dat κ x, allDat κ r with
    | some d, some ds => some (d :: ds)
    | _, _ => none
def dat2 (κ : Kap) : DV → Option D
  | .c i => (match κ[i]? with
    | some (.lst xs) => (allDat κ xs).map .list
    | _ => none)
  | x => dat κ x
section
variable {K : PySem.W.Frag} {F : List Addr} {B : Hp} {ι : List Addr} {H : Hp} {κ : Kap} {v w : V} {x y : DV}
theorem allDat_ok (s : HSt K F B ι H κ) : ∀ {vs : List V} {xs : List DV} {ds : List D}, Paired (WOk K B ι) vs xs → allDat κ xs = some ds → DpAll K H vs ds
  | _, _, _, .nil, e => by cases e; exact .nil
  | _, _, _, .cons (b := x) (l₂ := r) h t, e => by
    rw [allDat] at e
    cases q1 : dat κ x with
    | none => rw [q1] at e; cases e
    | some d =>
      cases q2 : allDat κ r with
      | none => rw [q1, q2] at e; cases e
      | some ds' =>
        rw [q1, q2] at e
        cases e
        exact .cons (dat_ok (F := F) s h.toV q1) (allDat_ok s t q2)
theorem dat2_ok (s : HSt K F B ι H κ) (w : VOk K F B ι H v x) {a : D} (e : dat2 κ x = some a) : Dp K H v a := by
  cases x with
  | c i =>
    obtain ⟨p, hp, rfl⟩ := w
    simp only [dat2] at e
    cases q : κ[i]? with
    | none => rw [q] at e; cases e
    | some cl =>
      rw [q] at e
      cases cl with
      | lst xs =>
        dsimp only at e
        cases q2 : allDat κ xs with
        | none => rw [q2] at e; cases e
        | some ds =>
          rw [q2] at e
          cases e
          obtain ⟨vs, h1, h2⟩ := s.cel i p _ hp q
          exact .lst (lst1 h1) (allDat_ok s h2 q2)
      | _ => cases e
  | d x => exact dat_ok s w e
  | n xs => exact dat_ok s w e
end
def reprN (κ : Kap) (xs : List DV) : Option DV := match xs with
  | [x] => (dat2 κ x).bind fun d => if d.showable = true ∧ d.shown.length ≤ 16000000 ∧ d.depth ≤ 40 then some (.d (.str d.shown)) else none
  | _ => none
theorem reprNI {K : PySem.W.Frag} : CalI K (rRepr K) reprN := fun F B ι H κ vs xs z s w e Q q => by
  unfold reprN at e
  split at e
  · rename_i x
    cases e1 : dat2 κ x with
    | none => rw [e1] at e; cases e
    | some d =>
      rw [e1] at e
      simp only [Option.bind_some] at e
      split at e
      · rename_i h
        cases e
        cases w with
        | cons w1 w2 =>
          cases w2
          have dp := dat2_ok (F := F) s w1.toV e1
          exact ⟨_, d, rfl, dp, h.1, hasDict_dp dp, h.2.1, h.2.2, keepQ s (.str _) q⟩
      · cases e
  · cases e

/-! ### x in t, x not in t of a tuple of any data -/
def rInT (K : PySem.W.Frag) : R2 := fun x y H Q => ∃ d ds, Dp K H x d ∧ Dp K H y (.tuple ds) ∧ PyData.plainAll ds = true ∧ d.plain = true ∧ d.depth ≤ 60 ∧ Q (.bl (ds.any fun z => PyData.eqv z d)) H
def rNotInT (K : PySem.W.Frag) : R2 := fun x y H Q => ∃ d ds, Dp K H x d ∧ Dp K H y (.tuple ds) ∧ PyData.plainAll ds = true ∧ d.plain = true ∧ d.depth ≤ 60 ∧ Q (.bl (!ds.any fun z => PyData.eqv z d)) H
section
variable {X : Cx}
theorem op_inT (hu : X.A.units + 64 < cLine) : OpR X (compareOp .In) (rInT X.K) := by
  intro pins s σ H x y v u Q I rx ry h
  obtain ⟨d, ds, hd, he, sd, se, sp, q⟩ := h
  obtain ⟨as, r1⟩ := Dp.reads I d x v hd rx
  obtain ⟨bs, r2⟩ := Dp.reads I (.tuple ds) y u he ry
  exact SeqAt.in_tuple_data r2 r1 sd se (by have := Nat.min_le_right (PyData.depthAll ds) d.depth; omega) ⟨.bl _, H, I, rfl, q⟩
theorem op_notInT (hu : X.A.units + 64 < cLine) : OpR X (compareOp .NotIn) (rNotInT X.K) := by
  intro pins s σ H x y v u Q I rx ry h
  obtain ⟨d, ds, hd, he, sd, se, sp, q⟩ := h
  obtain ⟨as, r1⟩ := Dp.reads I d x v hd rx
  obtain ⟨bs, r2⟩ := Dp.reads I (.tuple ds) y u he ry
  exact SeqAt.notIn_tuple_data r2 r1 sd se (by have := Nat.min_le_right (PyData.depthAll ds) d.depth; omega) ⟨.bl _, H, I, rfl, q⟩
end
def inDpT (κ : Kap) (x y : DV) : Option Bool := match dat κ x, dat κ y with
  | some d, some (.tuple ds) => if PyData.plainAll ds = true ∧ d.plain = true ∧ d.depth ≤ 60 then some (ds.any fun z => PyData.eqv z d) else none
  | _, _ => none
def inDT (κ : Kap) (x y : DV) : Option DV := (inDpT κ x y).map fun b => .d (.bool b)
def ninDT (κ : Kap) (x y : DV) : Option DV := (inDpT κ x y).map fun b => .d (.bool (!b))
section
variable {K : PySem.W.Frag} {F : List Addr} {B : Hp} {ι : List Addr} {H : Hp} {κ : Kap} {v w : V} {x y : DV}
theorem inDpT_ok (s : HSt K F B ι H κ) (wx : VOk K F B ι H v x) (wy : VOk K F B ι H w y) {b : Bool} (e : inDpT κ x y = some b) :
    ∃ d ds, Dp K H v d ∧ Dp K H w (.tuple ds) ∧ PyData.plainAll ds = true ∧ d.plain = true ∧ d.depth ≤ 60 ∧ b = ds.any fun z => PyData.eqv z d := by
  unfold inDpT at e
  split at e
  · rename_i d ds e1 e2
    split at e
    · rename_i h
      cases e
      exact ⟨d, ds, dat_ok s wx e1, dat_ok s wy e2, h.1, h.2.1, h.2.2, rfl⟩
    · cases e
  · cases e
end
theorem inDTI {K : PySem.W.Frag} : BinI K (rInT K) inDT := fun F B ι H κ v w x y z s wx wy e Q q => by
  unfold inDT at e
  cases e1 : inDpT κ x y with
  | none => rw [e1] at e; cases e
  | some b =>
    rw [e1] at e; cases e
    obtain ⟨d, ds, h1, h2, h3, h4, h5, rfl⟩ := inDpT_ok s wx wy e1
    exact ⟨d, ds, h1, h2, h3, h4, h5, keepQ s (.bl _) q⟩
theorem ninDTI {K : PySem.W.Frag} : BinI K (rNotInT K) ninDT := fun F B ι H κ v w x y z s wx wy e Q q => by
  unfold ninDT at e
  cases e1 : inDpT κ x y with
  | none => rw [e1] at e; cases e
  | some b =>
    rw [e1] at e; cases e
    obtain ⟨d, ds, h1, h2, h3, h4, h5, rfl⟩ := inDpT_ok s wx wy e1
    exact ⟨d, ds, h1, h2, h3, h4, h5, keepQ s (.bl _) q⟩
end DL

namespace DL
open L2 PyProof.Rows PySem PySem.Spec

/-- single values that may stand within a set's tuples -/
structure Flat {P : Program} {w : World} {κ : Type} [DecidableEq κ] (kn : KeyKind P w κ) : Prop where
  cls : ∀ k v, kn.is k v = true → ∀ n, ofAClassStatement n v = pure false
  hsh : ∀ k v, kn.is k v = true → ∀ n, ∃ b, hashByValue n v = pure b
theorem flat_str {P : Program} {w : World} : Flat (strKind P w) where
  cls := fun k v e n => by
    obtain ⟨t, rfl⟩ := Value.isStrOf_shape e
    cases n <;> rfl
  hsh := fun k v e n => by
    obtain ⟨t, rfl⟩ := Value.isStrOf_shape e
    cases n <;> exact ⟨_, rfl⟩

section
variable {P : Program} {w : World} {κ : Type} [DecidableEq κ] {kn : KeyKind P w κ} {A : Around} {E : Value → Shared → Prop} {s : Shared} {k : List κ} {b : Addr}
theorem items_cons {k : List κ} {v : Value} {vs : List Value} (h : ItemsAre kn k (v :: vs)) : ∃ k0 ks, kn.is k0 v = true ∧ ItemsAre kn ks vs := by
  cases h with
  | cons e r => exact ⟨_, _, e, r⟩
theorem ofA_t (fl : Flat kn) {Q : Bool → Shared → Prop} (x : IsTupleKey kn s.heap k b) (c : Q false s) : wpAny (model P w) A (ofAClassStatement 8 (.ref b)) Q E s := by
  have ty := x.typeIs
  obtain ⟨o, its, m, g, _, gd, gi⟩ := x
  unfold ofAClassStatement
  refine wpAny_bind (wpAny_typeOf ty ?_)
  dsimp only
  have eb : (("tuple" : String) == "tuple") = true := by decide
  simp only [eb, if_true, Bool.not_true, Bool.false_eq_true, if_false]
  try refine wpAny_bind (wpAny_pure ?_)
  try simp only [Bool.not_true, Bool.false_eq_true, if_false]
  refine wpAny_bind (m := seqItems? (.ref b)) <| wpAny_seqItems g gd ?_
  dsimp only
  refine wpAny_bind (m := forIn its _ _) ?_
  rw [← Array.forIn_toList]
  refine wpAny_forIn_list _ (fun l z s1 => z.1 = none ∧ s1 = s ∧ ∃ ks, ItemsAre kn ks l) _ (fun v l z s1 y => ?_) (fun z s1 y => ?_) _ _ ⟨rfl, rfl, _, gi⟩
  · obtain ⟨_, rfl, ks, yi⟩ := y
    obtain ⟨k0, ks1, e1, e2⟩ := items_cons yi
    rw [fl.cls k0 v e1]
    refine wpAny_bind (wpAny_pure ?_)
    simp only [Bool.false_eq_true, if_false]
    exact wpAny_pure ⟨rfl, rfl, ks1, e2⟩
  · obtain ⟨z1, z2⟩ := z
    obtain ⟨y1, rfl, _⟩ := y
    dsimp only at y1
    subst y1
    exact wpAny_pure c
theorem hby_t (fl : Flat kn) {Q : Bool → Shared → Prop} (x : IsTupleKey kn s.heap k b) (c : ∀ bb, Q bb s) : wpAny (model P w) A (hashByValue 8 (.ref b)) Q E s := by
  have ty := x.typeIs
  obtain ⟨o, its, m, g, _, gd, gi⟩ := x
  unfold hashByValue
  refine wpAny_bind (wpAny_specialOf ty F.slot_tuple_hash.lookup ?_)
  refine wpAny_bind (m := seqItems? (.ref b)) <| wpAny_seqItems g gd ?_
  refine wpAny_bind (m := forIn its _ _) ?_
  rw [← Array.forIn_toList]
  refine wpAny_forIn_list _ (fun l z s1 => z.1 = none ∧ s1 = s ∧ ∃ ks, ItemsAre kn ks l) _ (fun v l z s1 y => ?_) (fun z s1 y => ?_) _ _ ⟨rfl, rfl, _, gi⟩
  · obtain ⟨_, rfl, ks, yi⟩ := y
    obtain ⟨k0, ks1, e1, e2⟩ := items_cons yi
    obtain ⟨b1, e3⟩ := fl.hsh k0 v e1 7
    rw [e3]
    refine wpAny_bind (wpAny_pure ?_)
    cases b1
    · simp only [Bool.not_false, if_true]
      exact wpAny_pure (wpAny_pure (c _))
    · simp only [Bool.not_true, Bool.false_eq_true, if_false]
      exact wpAny_pure ⟨rfl, rfl, ks1, e2⟩
  · obtain ⟨z1, z2⟩ := z
    obtain ⟨y1, rfl, _⟩ := y
    dsimp only at y1
    subst y1
    exact wpAny_pure (c _)
/-- nobody sees a search among such tuples -/
theorem unseen_t (fl : Flat kn) {Q : Bool → Shared → Prop} (x : IsTupleKey kn s.heap k b) {ys : List Value} (hy : ∀ y ∈ ys, ∃ k1 b1, y = Value.ref b1 ∧ IsTupleKey kn s.heap k1 b1) (c : Q false s) :
    wpAny (model P w) A (searchCouldBeSeen (.ref b) ys) Q E s := by
  unfold searchCouldBeSeen
  refine wpAny_bind ?_
  refine wpAny_forIn_list _ (fun l z s1 => z.1 = none ∧ s1 = s ∧ ∀ y ∈ l, ∃ k1 b1, y = Value.ref b1 ∧ IsTupleKey kn s.heap k1 b1) _ (fun v l z s1 y => ?_) (fun z s1 y => ?_) _ _ ⟨rfl, rfl, hy⟩
  · obtain ⟨_, rfl, ya⟩ := y
    obtain ⟨k1, b1, rfl, x1⟩ := ya v List.mem_cons_self
    have yl := fun u m => ya u (List.mem_cons_of_mem _ m)
    dsimp only
    by_cases q : (b == b1 || (carriedByValue (.ref b) && carriedByValue (.ref b1))) = true
    · exact wp_if_pos q (wpAny_pure ⟨rfl, rfl, yl⟩)
    · refine wp_if_neg q <| wpAny_bind <| wpAny_eqIsQuiet_tuple x ?_
      simp only [Bool.not_true, Bool.false_eq_true, if_false]
      refine wpAny_bind <| wpAny_eqIsQuiet_tuple x1 ?_
      simp only [Bool.not_true, Bool.false_eq_true, if_false]
      refine wpAny_bind <| ofA_t fl x ?_
      simp only [Bool.false_eq_true, if_false]
      refine wpAny_bind <| ofA_t fl x1 ?_
      simp only [Bool.false_eq_true, if_false]
      exact wpAny_pure ⟨rfl, rfl, yl⟩
  · obtain ⟨z1, z2⟩ := z
    obtain ⟨y1, rfl, _⟩ := y
    dsimp only at y1
    subst y1
    exact wpAny_pure c
end

/-! ### the set -/
section
variable {P : Program} {w : World} {κ : Type} [DecidableEq κ] (kn : KeyKind P w κ)
abbrev hT (k : List κ) : Int := tupleKeyHash kn k
def entL (L : List (Addr × List κ)) : List (Int × Value) := L.map fun q => (hT kn q.2, Value.ref q.1)
structure PSt (h : Heap) (a : Addr) (L : List (Addr × List κ)) (es : Array (Int × Value)) (ep : Nat) (t : SetTable) : Prop where
  at_ : ∃ o, h.get? a = some o ∧ o.ExactSet ∧ o.data = .set es ep t
  ent : es.toList = entL kn L
  tab : TabOk t (L.map fun q => hT kn q.2)
  nd : (L.map (·.2)).Nodup
  key : ∀ q ∈ L, IsTupleKey kn h q.2 q.1
  sp : L.length * 5 < t.mask * 3
end
section
variable {P : Program} {w : World} {κ : Type} [DecidableEq κ] {kn : KeyKind P w κ} {A : Around} {E : Value → Shared → Prop} {s : Shared} {k : List κ} {a b : Addr} {L : List (Addr × List κ)} {es : Array (Int × Value)} {ep : Nat} {t : SetTable}
theorem ent_len {es : Array (Int × Value)} {L : List (Addr × List κ)} (h : es.toList = entL kn L) : es.size = L.length := by
  rw [← Array.length_toList, h, entL, List.length_map]
theorem fits_by {t : SetTable} {n : Nat} (d : t.dummies = #[]) (z : t.place.size = n) (m : n ≤ t.mask) : t.fits n = true := by
  unfold SetTable.fits SetTable.fill
  rw [d, z, beq_self_eq_true, Bool.true_and, decide_eq_true_eq]
  exact m
theorem PSt.psz (R : PSt kn s.heap a L es ep t) : t.place.size = L.length := by
  have := R.tab.sz
  rwa [List.length_map] at this
theorem PSt.fit (R : PSt kn s.heap a L es ep t) : t.fits es.size = true :=
  fits_by R.tab.dm (R.psz.trans (ent_len R.ent).symm) (by have := R.sp; have := ent_len R.ent; omega)
theorem PSt.get (R : PSt kn s.heap a L es ep t) {i : Nat} {q : Addr × List κ} (e : L[i]? = some q) : es[i]? = some (hT kn q.2, Value.ref q.1) := by
  rw [← Array.getElem?_toList, R.ent, entL, List.getElem?_map, e, Option.map_some]
theorem no_dummy (m : Nat) : ∀ (n : Nat) (p : SetTable.Probe), p.dummy = none → (nth m p n).dummy = none
  | 0, _, e => e
  | n + 1, p, e => no_dummy m n (adv m p) (by unfold adv; split <;> exact e)
abbrev pr0 (t : SetTable) (H : Int) : SetTable.Probe := runAt t.mask (SetTable.bits H % (t.mask + 1)) (SetTable.bits H)
set_option maxHeartbeats 1000000 in
theorem seek (fl : Flat kn) (R : PSt kn s.heap a L es ep t) (x : IsTupleKey kn s.heap k b) (hu : A.units < cLine) {K : Nat} (lim : K < 10 * SetTable.turns t.mask)
    (free : way t.mask (hT kn k) K ∉ t.place.toList) (full : ∀ c, c < K → way t.mask (hT kn k) c ∈ t.place.toList) {Q : SetFound → Shared → Prop}
    (yes : k ∈ L.map (·.2) → Q (.there none) s) (no : k ∉ L.map (·.2) → Q (.free (way t.mask (hT kn k) K) false) s) (f : Nat) :
    ∀ (c : Nat) (st : Option SetTable.Probe), st.getD (t.probeStart (hT kn k)) = nth t.mask (pr0 t (hT kn k)) c → c ≤ K → K < c + f →
      (∀ (i : Nat) q, L[i]? = some q → q.2 = k → ∃ d, c ≤ d ∧ d < K ∧ t.place.toList[i]? = some (way t.mask (hT kn k) d)) →
      wpAny (model P w) A (setSearchFrom a (.ref b) (hT kn k) true f st) Q E s := by
  induction f with
  | zero => intro c st _ h1 h2; omega
  | succ f ih =>
    intro c st est cK cf lies
    obtain ⟨o, g, gx, gd⟩ := R.at_
    have shift : ∀ n, nth t.mask (nth t.mask (pr0 t (hT kn k)) c) n = nth t.mask (pr0 t (hT kn k)) (c + n) := fun n => (nth_add t.mask c _ n).symm
    have shj : ∀ n, (nth t.mask (nth t.mask (pr0 t (hT kn k)) c) n).j = way t.mask (hT kn k) (c + n) := fun n => congrArg SetTable.Probe.j (shift n)
    have toK : c + (K - c) = K := by omega
    have met := go_spec t R.tab.ris R.tab.dm (fun i => (es[i]?.map (·.1)).getD 0) (hT kn k) (10 * SetTable.turns t.mask) (K - c) _ (no_dummy t.mask c (pr0 t (hT kn k)) rfl) (by omega)
      (fun n h => by rw [shj]; exact full _ (by omega)) (by rw [shj, toK]; exact free)
    have eqh : ∀ {i : Nat} {q : Addr × List κ}, L[i]? = some q → q.2 = k → (fun i => (es[i]?.map (·.1)).getD 0) i = hT kn k := fun {i q} e1 e2 => by
      show (es[i]?.map (·.1)).getD 0 = _
      rw [R.get e1, ← e2]
      rfl
    rw [setSearchFrom_succ]
    refine wpAny_bind <| wpAny_setState_of g gd R.fit ?_
    dsimp only
    refine wp_if_neg (by unfold SetTable.gaveWay; rw [mask_odd R.tab.mok]; decide) ?_
    try refine wpAny_bind (wpAny_pure ?_)
    rcases met with ⟨n, i, nK, ei, _, before, ep⟩ | ⟨before, ep⟩
    · have ep : t.probe (fun i => (es[i]?.map (·.1)).getD 0) (hT kn k) (st.getD (t.probeStart (hT kn k))) = some (.candidate (way t.mask (hT kn k) (c + n)) i (nth t.mask (pr0 t (hT kn k)) (c + (n + 1)))) := by
        rw [est, ← shj, ← shift]; exact ep
      rw [ep]
      dsimp only
      rw [shj] at ei
      have il : i < L.length := by
        have := (List.getElem?_eq_some_iff.mp ei).1
        rw [Array.length_toList, R.psz] at this
        exact this
      obtain ⟨q, eq⟩ : ∃ q, L[i]? = some q := ⟨_, List.getElem?_eq_getElem il⟩
      have qm : q ∈ L := List.mem_of_getElem? eq
      have here : t.slot (way t.mask (hT kn k) (c + n)) = .live i := slot_live R.tab.ris ei
      have next : wpAny (model P w) A (searchRest a (.ref b) (hT kn k) true f es t (way t.mask (hT kn k) (c + n)) i (nth t.mask (pr0 t (hT kn k)) (c + (n + 1)))) Q E s := by
        unfold searchRest
        rw [R.get eq]
        dsimp only
        refine wpAny_bind <| wpAny_holding <| wpAny_eqBool_tuple hu (R.key q qm) x <| wpAny_bind <| wpAny_setState_of g gd R.fit ?_
        dsimp only
        by_cases same : q.2 = k
        · exact wp_if_pos (by simp [same]) <| wpAny_pure <| yes <| List.mem_map.mpr ⟨q, qm, same⟩
        · refine wp_if_neg (by simp [same]) ?_
          try refine wpAny_bind (wpAny_pure ?_)
          rw [sameMem]
          dsimp only
          simp only [if_true, here, R.get eq]
          refine wpAny_bind <| wpAny_isSame_ref_self <| wpAny_bind <| wpAny_pure ?_
          simp only [if_true]
          refine wp_if_neg (by simp [same]) <| ih (c + (n + 1)) _ rfl (by omega) (by omega) fun i1 q1 e1 e2 => ?_
          obtain ⟨d, d1, d2, d3⟩ := lies i1 q1 e1 e2
          refine ⟨d, ?_, d2, d3⟩
          rcases Nat.lt_trichotomy d (c + n) with z | z | z
          · have d3' : t.place.toList[i1]? = some (nth t.mask (nth t.mask (pr0 t (hT kn k)) c) (d - c)).j := by
              rw [shj, Nat.add_sub_cancel' d1]; exact d3
            exact absurd (eqh e1 e2) (before (d - c) i1 (by omega) d3')
          · rw [z] at d3
            have l1 := slot_live R.tab.ris d3
            rw [here] at l1
            injection l1 with l1
            rw [← l1, eq] at e1
            cases e1
            exact absurd e2 same
          · omega
      by_cases led : t.led = true
      · refine wp_if_neg (by simp [led]) ?_
        try refine wpAny_bind (wpAny_pure ?_)
        exact next
      · refine wp_if_pos (by simp [led]) <| wpAny_bind <| unseen_t fl x (fun y hy => ?_) ?_
        · obtain ⟨z, hz, rfl⟩ := List.mem_map.mp hy
          have hz : z ∈ es.toList := by
            have : z ∈ es ∧ z.1 = hT kn k := by simpa using hz
            simpa using this.1
          rw [R.ent] at hz
          obtain ⟨q1, m1, rfl⟩ := List.mem_map.mp hz
          exact ⟨_, _, rfl, R.key q1 m1⟩
        · refine wp_if_neg (by decide) ?_
          try refine wpAny_bind (wpAny_pure ?_)
          exact next
    · have ep : t.probe (fun i => (es[i]?.map (·.1)).getD 0) (hT kn k) (st.getD (t.probeStart (hT kn k))) = some (.empty (way t.mask (hT kn k) K) none) := by
        have : way t.mask (hT kn k) K = (nth t.mask (nth t.mask (pr0 t (hT kn k)) c) (K - c)).j := by rw [shj, toK]
        rw [est, this]; exact ep
      rw [ep]
      dsimp only
      refine wpAny_pure <| no fun m => ?_
      obtain ⟨q1, m1, e2⟩ := List.mem_map.mp m
      obtain ⟨i1, e1⟩ := List.mem_iff_getElem?.mp m1
      obtain ⟨d, d1, d2, d3⟩ := lies i1 q1 e1 e2
      have d3' : t.place.toList[i1]? = some (nth t.mask (nth t.mask (pr0 t (hT kn k)) c) (d - c)).j := by
        rw [shj, Nat.add_sub_cancel' d1]; exact d3
      exact before (d - c) i1 (by omega) d3' (eqh e1 e2)
end
end DL

namespace DL
open L2 PyProof.Rows PySem PySem.Spec

/-! ### each once -/
section
variable {α : Type} [DecidableEq α]
def addG (l : List α) (k : α) : List α := if k ∈ l then l else k :: l
def onceG (l xs : List α) : List α := xs.foldl addG l
theorem addG_mem {l : List α} {k y : α} : y ∈ addG l k ↔ y ∈ l ∨ y = k := by
  unfold addG
  split
  · exact ⟨.inl, fun o => o.elim id fun e => by rw [e]; assumption⟩
  · rw [List.mem_cons]; exact Or.comm
theorem addG_nd {l : List α} {k : α} (h : l.Nodup) : (addG l k).Nodup := by
  unfold addG
  split
  · exact h
  · rename_i m; exact List.nodup_cons.mpr ⟨m, h⟩
theorem addG_len (l : List α) (k : α) : (addG l k).length ≤ l.length + 1 := by
  unfold addG; split <;> simp
theorem addG_perm {l m : List α} {k : α} (p : l.Perm m) : (addG l k).Perm (addG m k) := by
  unfold addG
  by_cases q : k ∈ l
  · rw [if_pos q, if_pos (p.mem_iff.mp q)]; exact p
  · rw [if_neg q, if_neg fun z => q (p.mem_iff.mpr z)]; exact p.cons k
theorem onceG_len : ∀ (xs l : List α), (onceG l xs).length ≤ l.length + xs.length
  | [], _ => Nat.le_refl _
  | x :: xs, l => by
    have h := onceG_len xs (addG l x)
    have g := addG_len l x
    show (onceG (addG l x) xs).length ≤ l.length + (xs.length + 1)
    omega
/-- as many as before: no two alike -/
theorem onceG_nodup : ∀ (xs l : List α), l.Nodup → ((onceG l xs).length = l.length + xs.length ↔ xs.Nodup ∧ ∀ x ∈ xs, x ∉ l)
  | [], l, _ => by simp [onceG]
  | x :: xs, l, h => by
    have ih := onceG_nodup xs (addG l x) (addG_nd h)
    show (onceG (addG l x) xs).length = l.length + (xs.length + 1) ↔ _
    by_cases m : x ∈ l
    · have le := onceG_len xs (addG l x)
      have e : addG l x = l := if_pos m
      rw [e] at le ⊢
      refine ⟨fun z => by omega, fun z => absurd m (z.2 x List.mem_cons_self)⟩
    · have e : addG l x = x :: l := if_neg m
      rw [e] at ih ⊢
      rw [List.length_cons] at ih
      have ih2 : (onceG (x :: l) xs).length = l.length + (xs.length + 1) ↔ xs.Nodup ∧ ∀ y ∈ xs, y ∉ x :: l := by rw [← ih]; omega
      rw [ih2, List.nodup_cons]
      constructor
      · rintro ⟨a, b⟩
        refine ⟨⟨fun z => b x z List.mem_cons_self, a⟩, fun y hy => ?_⟩
        rcases List.mem_cons.mp hy with rfl | hy
        · exact m
        · exact fun z => b y hy (List.mem_cons_of_mem _ z)
      · rintro ⟨⟨a, b⟩, d⟩
        refine ⟨b, fun y hy z => ?_⟩
        rcases List.mem_cons.mp z with rfl | z
        · exact a hy
        · exact d y (List.mem_cons_of_mem _ hy) z
theorem onceG_eq {xs : List α} : (onceG [] xs).length = xs.length ↔ xs.Nodup := by
  have h := onceG_nodup xs [] List.nodup_nil
  simpa using h
end

/-! ### order -/
theorem range_get {α : Type} : ∀ l : List α, (List.range l.length).filterMap (fun i => l[i]?) = l
  | [] => rfl
  | x :: l => by
    rw [List.length_cons, List.range_succ_eq_map, List.filterMap_cons, List.filterMap_map]
    exact congrArg (x :: ·) (range_get l)
theorem fm_all {α β : Type} (g : α → Option β) (f : α → β) : ∀ l : List α, (∀ i ∈ l, g i = some (f i)) → l.filterMap g = l.map f
  | [], _ => rfl
  | i :: l, h => by
    rw [List.filterMap_cons, h i List.mem_cons_self, List.map_cons, fm_all g f l fun j m => h j (List.mem_cons_of_mem _ m)]

section
variable {P : Program} {w : World} {κ : Type} [DecidableEq κ] {kn : KeyKind P w κ} {A : Around} {E : Value → Shared → Prop} {s : Shared} {k : List κ} {a b : Addr} {L : List (Addr × List κ)} {es : Array (Int × Value)} {ep : Nat} {t : SetTable}
theorem ent_get {es : Array (Int × Value)} (h : es.toList = entL kn L) (i : Nat) : es[i]? = (L[i]?).map fun q => (hT kn q.2, Value.ref q.1) := by
  rw [← Array.getElem?_toList, h, entL, List.getElem?_map]
theorem reorder {es : Array (Int × Value)} {od : Array Nat} (h : es.toList = entL kn L) (p : od.toList.Perm (List.range L.length)) :
    ∃ M : List (Addr × List κ), (od.filterMap (es[·]?)).toList = entL kn M ∧ M.Perm L ∧ (M.map fun q => hT kn q.2) = od.toList.map fun i => (es.map (·.1)).getD i 0 := by
  have inl : ∀ i ∈ od.toList, i < L.length := fun i m => List.mem_range.mp (p.mem_iff.mp m)
  refine ⟨od.toList.filterMap fun i => L[i]?, ?_, ?_, ?_⟩
  · rw [Array.toList_filterMap, entL, List.map_filterMap]
    exact congrArg (List.filterMap · od.toList) (funext fun i => ent_get h i)
  · have q := p.filterMap fun i => L[i]?
    rwa [range_get] at q
  · rw [List.map_filterMap]
    refine fm_all _ _ _ fun i m => ?_
    have il := inl i m
    have e1 := ent_get h i
    rw [List.getElem?_eq_getElem il] at e1 ⊢
    simp [Array.getD_eq_getD_getElem?, e1]
theorem key_keep {h h' : Heap} {o : Obj} (x : IsTupleKey kn h k b) (g : h.get? a = some o) (d : o.data = .set es ep t) (sb : Heap.SameBut a h h') : IsTupleKey kn h' k b := by
  obtain ⟨u, its, m, y1, y2, y3, y4⟩ := x
  refine ⟨u, its, m, (sb.2 b fun z => ?_).trans y1, y2, y3, y4⟩
  rw [z, g] at y1
  cases y1
  rw [d] at y3
  cases y3

/-- the table laid anew -/
theorem relay_t {o : Obj} (g : s.heap.get? a = some o) (gx : o.ExactSet) (gd : o.data = .set es ep t) (he : es.toList = entL kn L) (tf : t.fits es.size = true) (nd : (L.map (·.2)).Nodup) (key : ∀ q ∈ L, IsTupleKey kn s.heap q.2 q.1)
    (few : L.length ≤ 13) {wanted : Nat} (hw : SetTable.sizeAbove wanted = 32) {Q : Unit → Shared → Prop}
    (c : ∀ h' L' es' ep' t', Heap.SameBut a s.heap h' → PSt kn h' a L' es' ep' t' → L'.Perm L → Q () { s with heap := h' }) : wpAny (model P w) A (setRelay a wanted) Q E s := by
  have z := ent_len he
  obtain ⟨t', od, e, p, T, m, _, _, _⟩ := relaid_ok t (hs := es.map (·.1)) (wanted := wanted) (M := 31) (by rw [hw]) (.inr (.inl rfl)) (by rw [Array.size_map, z]; omega)
  rw [Array.size_map, z] at p
  obtain ⟨M, h1, h2, h3⟩ := reorder he p
  rw [← h3] at T
  have zM : (od.filterMap (es[·]?)).size = es.size := (ent_len h1).trans (h2.length_eq.trans z.symm)
  rw [setRelay_eq]
  refine wpAny_bind <| wpAny_setState_of g gd tf ?_
  dsimp only
  refine wp_if_neg (by rw [hw, sizeLine_eq]; omega) ?_
  try refine wpAny_bind (wpAny_pure ?_)
  rw [e]
  dsimp only
  refine wpAny_bind <| wp_if_neg (by rw [zM]; simp) ?_
  try refine wpAny_bind (wpAny_pure ?_)
  refine wpAny_pure ?_
  dsimp only
  refine wpAny_storeSet_of g gd (c _ M _ (ep + 1) t' (.update ..) ⟨⟨_, store_at g gd, ⟨gx.1, gx.2.1, gx.2.2⟩, rfl⟩, h1, T, (h2.map (·.2)).nodup_iff.mpr nd, fun q m => key_keep (key q (h2.mem_iff.mp m)) g gd (.update ..), ?_⟩ h2) (by rw [zM, z, sizeLine_eq]; omega)
  rw [h2.length_eq, m]; omega

set_option maxHeartbeats 1000000 in
/-- one tuple more -/
theorem PSt.add (fl : Flat kn) (R : PSt kn s.heap a L es ep t) (x : IsTupleKey kn s.heap k b) (hu : A.units < cLine) (few : L.length < 13) {Q : Bool → Shared → Prop}
    (c : ∀ bb h' L' es' ep' t', Heap.SameBut a s.heap h' → PSt kn h' a L' es' ep' t' → (L'.map (·.2)).Perm (addG (L.map (·.2)) k) → (∀ q ∈ L', q ∈ L ∨ q = (b, k)) → Q bb { s with heap := h' }) :
    wpAny (model P w) A (setAddHashed a (.ref b) (hT kn k)) Q E s := by
  obtain ⟨o, g, gx, gd⟩ := R.at_
  have z := ent_len R.ent
  have sp := R.sp
  obtain ⟨K, lim, free, full⟩ := R.tab.first (by rw [List.length_map]; omega) (hT kn k)
  have K5 : K < 100000 := by
    unfold SetTable.turns at lim
    rcases R.tab.mok with e | e | e <;> omega
  unfold setAddHashed
  refine wpAny_holding ?_
  rw [show (100000 : Nat) = 99999 + 1 from rfl, setAddHashedIn_succ]
  refine wpAny_bind <| wpAny_setState_of g gd R.fit ?_
  dsimp only
  refine wp_if_neg (by simp [byScan, Value.scannable]) ?_
  try refine wpAny_bind (wpAny_pure ?_)
  refine wpAny_bind (m := setSearch a (.ref b) (hT kn k) true) ?_
  unfold setSearch
  refine seek fl R x hu lim free full (fun m => ?_) (fun m => ?_) 100000 0 none rfl (Nat.zero_le _) (by omega) fun i q e1 e2 => ?_
  · dsimp only
    refine wpAny_pure (c false s.heap L es ep t (.refl ..) R ?_ fun q m => .inl m)
    rw [addG, if_pos m]
  · dsimp only
    refine wpAny_bind <| wpAny_setState_of g gd R.fit ?_
    dsimp only
    obtain ⟨p1, p2, p3, p4, p5, p6, p7, p8, p9⟩ := R.tab.put free full
    generalize t.put (way t.mask (hT kn k) K) = tp at p1 p3 p4 p5 p6 p7 p8 p9 ⊢
    obtain ⟨t1, i⟩ := tp
    dsimp only at p1 p3 p4 p5 p6 p7 p8 p9 ⊢
    rw [← p1] at p2 p3
    rw [List.length_map] at p9
    have rest : ∀ t2 : SetTable, TabOk t2 ((L.map fun q => hT kn q.2).take i ++ hT kn k :: (L.map fun q => hT kn q.2).drop i) → t2.mask = t.mask → t2.fill = L.length + 1 → wpAny (model P w) A (do
        storeSet a (SetTable.insertAt es i (hT kn k, Value.ref b)) t2
        if (!false && t2.tooFull) = true then do
          setRelay a (SetTable.grown (es.size + 1))
          pure true
        else pure true) Q E s := fun t2 T2 m2 f2 => by
      have il : i ≤ L.length := by rwa [List.length_map] at p2
      have pm : (L.take i ++ (b, k) :: L.drop i).Perm ((b, k) :: L) := by
        have := List.perm_middle (a := (b, k)) (l₁ := L.take i) (l₂ := L.drop i)
        rwa [List.take_append_drop] at this
      have hent : (SetTable.insertAt es i (hT kn k, Value.ref b)).toList = entL kn (L.take i ++ (b, k) :: L.drop i) := by
        rw [SetTable.toList_insertAt, R.ent]
        simp only [entL, List.map_append, List.map_cons, List.map_take, List.map_drop]
      have hhs : (L.map fun q => hT kn q.2).take i ++ hT kn k :: (L.map fun q => hT kn q.2).drop i = (L.take i ++ (b, k) :: L.drop i).map fun q => hT kn q.2 := by
        simp only [List.map_append, List.map_cons, List.map_take, List.map_drop]
      rw [hhs] at T2
      generalize SetTable.insertAt es i (hT kn k, Value.ref b) = es1 at hent ⊢
      generalize L.take i ++ (b, k) :: L.drop i = L1 at pm hent T2
      have z1 := ent_len hent
      have l1 : L1.length = L.length + 1 := pm.length_eq
      have pk : (L1.map (·.2)).Perm (addG (L.map (·.2)) k) := by
        rw [addG, if_neg m]; exact pm.map (·.2)
      have sub1 : ∀ q ∈ L1, q ∈ L ∨ q = (b, k) := fun q hq => (List.mem_cons.mp (pm.mem_iff.mp hq)).symm
      have nd1 : (L1.map (·.2)).Nodup := pk.nodup_iff.mpr (addG_nd R.nd)
      refine wpAny_bind <| wpAny_storeSet_of g gd ?_ (by rw [z1, l1, sizeLine_eq]; omega)
      have sb : Heap.SameBut a s.heap (s.heap.update a (Obj.putSet es1 t2)) := .update ..
      have g1 := store_at (es' := es1) (t' := t2) g gd
      generalize s.heap.update a (Obj.putSet es1 t2) = h1 at sb g1 ⊢
      have key1 : ∀ q ∈ L1, IsTupleKey kn h1 q.2 q.1 := fun q hq => by
        rcases sub1 q hq with e | rfl
        · exact key_keep (R.key q e) g gd sb
        · exact key_keep x g gd sb
      have sz2 : t2.place.size = L1.length := by
        have := T2.sz; rwa [List.length_map] at this
      by_cases tf : t2.tooFull = true
      · refine wp_if_pos (by simp [tf]) <| wpAny_bind ?_
        have full : (L.length + 1) * 5 ≥ t2.mask * 3 := by
          unfold SetTable.tooFull at tf
          rw [decide_eq_true_eq, f2] at tf
          exact tf
        have m7 : t.mask = 7 ∧ L.length = 4 := by
          rcases R.tab.mok with e | e | e <;> rw [m2, e] at full <;> rw [e] at sp
          · exact ⟨e, by omega⟩
          · omega
          · omega
        have sa : SetTable.sizeAbove (SetTable.grown (es.size + 1)) = 32 := by rw [z, m7.2]; exact size_20
        refine relay_t (s := { s with heap := h1 }) g1 ⟨gx.1, gx.2.1, gx.2.2⟩ rfl hent (fits_by T2.dm (sz2.trans z1.symm) (by rw [z1, l1, m2, m7.1, m7.2]; decide)) nd1 key1 (by omega) sa fun h2 L2 es2 ep2 t2' sb2 R2 pm2 => ?_
        exact wpAny_pure (c true h2 L2 es2 ep2 t2' (sb.trans sb2) R2 ((pm2.map (·.2)).trans pk) fun q hq => sub1 q (pm2.mem_iff.mp hq))
      · first
          | refine wp_if_neg (by simp [tf]) ?_
          | refine wpAny_bind <| wp_if_neg (by simp [tf]) <| wpAny_pure ?_
        refine wpAny_pure (c true h1 L1 es1 (ep + 1) t2 sb ⟨⟨_, g1, ⟨gx.1, gx.2.1, gx.2.2⟩, rfl⟩, hent, T2, nd1, key1, ?_⟩ pk sub1)
        unfold SetTable.tooFull at tf
        rw [decide_eq_true_eq, f2] at tf
        rw [l1]; omega
    by_cases pl : t1.plain = true
    · refine wp_if_pos pl <| wpAny_bind <| hby_t fl x fun bb => ?_
      cases bb
      · exact rest { t1 with plain := false } ⟨p3.ris, p3.dm, p3.sz, p3.mok, p3.bd, p3.reach⟩ p4 p9
      · exact rest t1 p3 p4 p9
    · exact wp_if_neg pl <| wpAny_bind <| wpAny_pure <| rest t1 p3 p4 p9
  · obtain ⟨il, _⟩ := List.getElem?_eq_some_iff.mp e1
    have hi : (L.map fun q => hT kn q.2)[i]? = some (hT kn k) := by rw [List.getElem?_map, e1, ← e2]; rfl
    have pl : i < t.place.toList.length := by rw [Array.length_toList, R.psz]; exact il
    obtain ⟨d, d1, d2⟩ := R.tab.before free hi (List.getElem?_eq_getElem pl)
    exact ⟨d, Nat.zero_le _, d1, by rw [d2]; exact List.getElem?_eq_getElem pl⟩
end
end DL

namespace DL
open L2 PyProof.Rows PySem PySem.Spec

abbrev OldIn (h0 h : Heap) : Prop := ∀ b o, h0.get? b = some o → h.get? b = some o
/-- at a: a set of just these tuples -/
def PSet {P : Program} {w : World} {κ : Type} [DecidableEq κ] (kn : KeyKind P w κ) (h : Heap) (a : Addr) (l : List (List κ)) : Prop := ∃ L es ep t, PSt kn h a L es ep t ∧ (L.map (·.2)).Perm l
section
variable {P : Program} {w : World} {κ : Type} [DecidableEq κ] {kn : KeyKind P w κ} {A : Around} {E : Value → Shared → Prop} {s : Shared} {R : Result → Shared → Prop}
theorem key_old {h h' : Heap} {k : List κ} {b : Addr} (x : IsTupleKey kn h k b) (o : OldIn h h') : IsTupleKey kn h' k b := by
  obtain ⟨u, its, m, y1, y2⟩ := x
  exact ⟨u, its, m, o b u y1, y2⟩
theorem onceG_snoc {α : Type} [DecidableEq α] (xs : List α) (x : α) : onceG [] (xs ++ [x]) = addG (onceG [] xs) x := by
  unfold onceG; rw [List.foldl_append]; rfl
set_option maxHeartbeats 1000000 in
theorem updP_loop (fl : Flat kn) {it S : Addr} {fp wr : List Addr} {G : Array GenState → Array GenState → Prop} {n : Nat} {Pv : Nat → Value → Prop} {St : Nat → Shared → Prop} (W : WalksS P w A.in1 it fp wr G n Pv St) (hS : S ∉ fp) (hu : A.in1.units < cLine)
    (ks : List (Addr × List κ)) (hn : n = ks.length) (few : ks.length < 13) (hv : ∀ i v, Pv i v → ∃ q, ks[i]? = some q ∧ v = .ref q.1) {h0 : Heap} (key : ∀ q ∈ ks, IsTupleKey kn h0 q.2 q.1) (S0 : h0.get? S = none) (w0 : ∀ z ∈ wr, h0.get? z = none) (m : Nat) :
    ∀ (i : Nat) (s : Shared), i + m = n → St i s → OldIn h0 s.heap → (∃ L es ep t, PSt kn s.heap S L es ep t ∧ (L.map (·.2)).Perm (onceG [] ((ks.take i).map (·.2))) ∧ ∀ q ∈ L, q ∈ ks) →
      (∀ s', Moved (S :: wr) G s s' → OldIn h0 s'.heap → PSet kn s'.heap S (onceG [] (ks.map (·.2))) → R (.ok (.ret .none)) s') →
      codeAny (model P w) A (.builtin "set.update.loop" ⟨[.ref S, .ref it], []⟩) R s := by
  have nw : S ∉ wr := fun z => hS (W.sub _ z)
  have more : ∀ z ∈ wr, z ∈ S :: wr := fun z y => List.mem_cons_of_mem _ y
  have old : ∀ {s1 s2 : Shared}, Moved wr G s1 s2 → OldIn h0 s1.heap → OldIn h0 s2.heap := fun mv o b u e => mv.heap b u (fun z => by rw [w0 b z] at e; cases e) (o b u e)
  have hold : ∀ {h1 h2 : Heap} {L es ep t}, PSt kn h1 S L es ep t → (∀ o, h1.get? S = some o → h2.get? S = some o) → (∀ q ∈ L, q ∈ ks) → OldIn h0 h2 → PSt kn h2 S L es ep t := fun R e sub o2 =>
    let ⟨o, g, gx⟩ := R.at_
    ⟨⟨o, e o g, gx⟩, R.ent, R.tab, R.nd, fun q hq => key_old (key q (sub q hq)) o2, R.sp⟩
  induction m with
  | zero =>
    intro i s e st ol ⟨L, es, ep, t, T, pm, sub⟩ c
    obtain rfl : i = n := e
    refine codeAny_builtin PyProof.Rows.F.entry_set_update_loop ?_
    rw [Around.under_plainId PyProof.Rows.F.plain_set_update_loop]
    refine wpAny_bind (m := pyNext (.ref it)) <| W.done s _ _ st fun s' v => wpAny_pure (c s' (v.mono more) (old v ol) ⟨L, es, ep, t, hold T (fun o q => v.heap S o nw q) sub (old v ol), ?_⟩)
    rwa [List.take_of_length_le (Nat.le_of_eq hn.symm)] at pm
  | succ m ih =>
    intro i s e st ol ⟨L, es, ep, t, T, pm, sub⟩ c
    refine codeAny_builtin PyProof.Rows.F.entry_set_update_loop ?_
    rw [Around.under_plainId PyProof.Rows.F.plain_set_update_loop]
    refine wpAny_bind (m := pyNext (.ref it)) <| W.item i s _ _ (by omega) st fun v s1 hp st1 mv => ?_
    obtain ⟨q, hq, rfl⟩ := hv i v hp
    have ol1 := old mv ol
    have T1 := hold T (fun o y => mv.heap S o nw y) sub ol1
    have x := key_old (key q (List.mem_of_getElem? hq)) ol1
    have lL : L.length ≤ i := by
      have e1 := pm.length_eq
      have e2 := onceG_len ((ks.take i).map (·.2)) []
      rw [List.length_map] at e1
      rw [List.length_map, List.length_take, List.length_nil] at e2
      omega
    refine wpAny_bind (m := holding _ (setAdd S (.ref q.1))) <| wpAny_holding ?_
    unfold setAdd
    refine wpAny_holding <| wpAny_bind <| wpAny_pyHash_tuple hu x ?_
    refine PSt.add (s := { s1 with toks := s1.toks + (q.2.length + 1) }) fl T1 x hu (by omega) fun bb h' L' es' ep' t' sb T2 pm2 sub2 => ?_
    have ol2 : OldIn h0 h' := fun b o y => (sb.2 b fun z => by rw [z, S0] at y; cases y).trans (ol1 b o y)
    have tk : (ks.take (i + 1)).map (·.2) = (ks.take i).map (·.2) ++ [q.2] := by
      rw [List.take_succ, hq, List.map_append]; rfl
    refine wpAny_pure ⟨plainId_quiet PyProof.Rows.F.plain_set_update_loop _, ih (i + 1) _ (by omega) (W.frame _ s1 _ _ st1 (Nat.le_add_right _ _) fun z hz o y => ?_) ol2 ⟨L', es', ep', t', T2, ?_, fun r hr => ?_⟩ fun s2 mv2 ol3 T3 => ?_⟩
    · exact (sb.2 z fun (u : z = S) => hS (u ▸ hz)).trans y
    · rw [tk, onceG_snoc]; exact pm2.trans (addG_perm pm)
    · rcases sub2 r hr with y | y
      · exact sub r y
      · rw [y]; exact List.mem_of_getElem? hq
    · refine c s2 (Moved.trans W.gtrans ((mv.mono more).then_heap (Nat.le_add_right _ _) fun z o hz y => ?_) mv2) ol3 T3
      exact (sb.2 z fun (u : z = S) => hz (by rw [u]; exact List.mem_cons_self)).trans y
theorem PSt.new {h : Heap} {a : Addr} (e : h.get? a = some (nS w)) : PSt kn h a [] #[] 0 (.fresh 0 0 (!w.params.followText "set-order")) where
  at_ := ⟨_, e, ⟨rfl, rfl, rfl⟩, rfl⟩
  ent := rfl
  tab := ⟨List.Pairwise.nil, rfl, rfl, .inl rfl, fun _ z => (nomatch z), fun i _ _ z => (by simp at z)⟩
  nd := List.nodup_nil
  key := fun _ z => (nomatch z)
  sp := (by decide : 0 * 5 < 7 * 3)
theorem none_from {h : Heap} {b : Addr} (z : h.objs.size ≤ b) : h.get? b = none := by
  cases q : h.get? b with
  | none => rfl
  | some o => exact absurd (Heap.lt_size q) (Nat.not_lt.mpr z)

set_option maxHeartbeats 3200000 in
theorem set_list_k (fl : Flat kn) {p : Addr} {its : Array Value} {ks : List (Addr × List κ)} {Q : Value → Shared → Prop} (no : A.handled = none) (isl : s.heap.IsList p its) (val : its.toList = ks.map fun q => .ref q.1) (key : ∀ q ∈ ks, IsTupleKey kn s.heap q.2 q.1) (few : ks.length < 13) (hu : A.units + 4 < cLine)
    (c : ∀ (h' : Heap) (k : Nat), PSet kn h' s.heap.objs.size (onceG [] (ks.map (·.2))) → OldIn s.heap h' → Q (.ref s.heap.objs.size) { s with heap := h', toks := k }) :
    wpAny (model P w) A (call (.type "set") [.ref p]) Q E s := by
  have x1 := PySem.F.called_set.notType
  have x2 := PySem.F.called_set.canCreate
  have x3 := PySem.F.typeCall_set_1 (.ref p)
  have x4 := PySem.F.called_set.made
  have x5 := PySem.F.called_set.sub
  obtain ⟨c0, tl, x6⟩ := PySem.F.called_set.mro
  refine wpAny_call <| codeAny_of_tree ?_
  show wpAny (model P w) _ (callAny (.type "set") ⟨[.ref p], []⟩) _ _ s
  refine wpAny_pure ⟨Code.quiet_builtin _ (by decide +kernel), ?_⟩
  refine codeAny_builtin PySem.F.entry_type_call ?_
  rw [Around.under_plain (weight_type_call_type "set" [.ref p] []) (by rfl)]
  repeat (any_goals (first | assumption | wp_step))
  refine codeAny_mono (code_set_led1 (P := P) (w := w) (.ref p) (E := E) (Q₁ := fun v t => v = .ref s.heap.objs.size ∧ t = { s with heap := s.heap.push (nS w) }) ⟨rfl, rfl⟩) fun r t y => ?_
  cases r with
  | error e => exact y
  | ok fw =>
    cases fw with
    | ret v =>
      obtain ⟨rfl, rfl⟩ := y
      have g0 : (s.heap.push (nS w)).get? s.heap.objs.size = some (nS w) := Heap.get?_push_size _ rfl
      have ty : Shared.TypeIs { s with heap := s.heap.push (nS w) } (.ref s.heap.objs.size) "set" := ⟨_, g0, rfl⟩
      have x7 := PySem.F.called_set.init.lookup
      have x8 := PySem.F.called_set.init.bind (.ref s.heap.objs.size)
      repeat (any_goals (first | assumption | wp_step))
      let Rr : Value → Shared → Prop := fun r t => r = .none ∧ ∃ h' k, t = { s with heap := h', toks := k } ∧ PSet kn h' s.heap.objs.size (onceG [] (ks.map (·.2))) ∧ OldIn s.heap h'
      refine codeAny_mono (codeAny_call_builtin (R := wants Rr E) PySem.F.called_set.init.plain PySem.F.entry_set_init (check_set_init_1 ty ?_)) fun r2 t2 y2 => ?_
      · obtain ⟨⟨oc, od, oa, os⟩, ge, rfl, nl, rfl⟩ := isl
        have ge2 : (s.heap.push (nS w)).get? p = some ⟨.type "list", od, .seq its nl, os⟩ := Heap.get?_push_of_some _ ge
        have lst : (s.heap.push (nS w)).IsList p its := ⟨_, ge2, rfl, nl, rfl⟩
        have y1 := PySem.F.sub_list_set
        have y2 := PySem.F.sub_list_frozenset
        have y3 : (Value.type "list" == Value.type "dict") = false := by decide
        unfold Builtin.«set.__init__» noKeywords Builtin.Frozenset.updateFrom
        generalize ei : pyIter = pI
        wp_walk
        subst ei
        refine wpAny_pyIter_list lst <| wpAny_bind <| wpAny_runValue ?_
        have lt : p < s.heap.objs.size := Heap.lt_size ge
        have z1 : (s.heap.push (nS w)).objs.size = s.heap.objs.size + 1 := Heap.size_push ..
        have n1 : p ≠ (s.heap.push (nS w)).objs.size := z1 ▸ Nat.ne_of_lt (Nat.lt_succ_of_lt lt)
        have n2 : s.heap.objs.size ∉ [(s.heap.push (nS w)).objs.size, p] := by
          rw [z1]
          intro m
          rcases List.mem_cons.mp m with m | m
          · exact Nat.ne_of_lt (Nat.lt_succ_self _) m
          · exact Nat.ne_of_gt lt (List.mem_singleton.mp m)
        have len : its.size = ks.length := by rw [← Array.length_toList, val, List.length_map]
        have no3 : A.in1.in1.in1.handled = none := no
        have vv : ∀ (i : Nat) (v : Value), its[i]? = some v → ∃ q, ks[i]? = some q ∧ v = .ref q.1 := fun i v hv => by
          have hv := (Array.getElem?_toList ..).trans hv
          rw [val, List.getElem?_map] at hv
          obtain ⟨q, e1, e2⟩ := Option.map_eq_some_iff.mp hv
          exact ⟨q, e1, e2.symm⟩
        have g1 : ∀ o, ((s.heap.push (nS w)).push o).get? s.heap.objs.size = some (nS w) := fun o => Heap.get?_push_of_some _ g0
        have ol : ∀ o, OldIn s.heap ((s.heap.push (nS w)).push o) := fun o b u q => Heap.get?_push_of_some _ (Heap.get?_push_of_some _ q)
        refine updP_loop fl (S := s.heap.objs.size) ((Walks.list no3 _ p n1 its).toS) n2 (by simp only [Around.units, Around.in1] at hu ⊢; omega) ks len few vv key (none_from (Nat.le_refl _)) (fun z hz => none_from (by rw [List.mem_singleton.mp hz, z1]; exact Nat.le_succ _)) its.size 0 _ (Nat.zero_add _) ⟨⟨_, Heap.get?_push_size _ rfl, rfl, rfl⟩, lst.push _⟩ (ol _) ⟨[], _, _, _, PSt.new (g1 _), .refl _, fun _ z => (nomatch z)⟩ fun s1 mv o1 ts => ?_
        obtain ⟨h1, g1, d1, k1, o1'⟩ := s1
        obtain rfl : g1 = s.gens := mv.gens
        obtain rfl : d1 = s.drawn := mv.drawn
        obtain rfl : o1' = s.os := mv.os
        exact wpAny_pure (wpAny_pure ⟨rfl, h1, k1, rfl, ts, o1⟩)
      · cases r2 with
        | error e => exact y2
        | ok fw2 =>
          cases fw2 with
          | ret r =>
            obtain ⟨rfl, h', k, rfl, ts, kp⟩ := y2
            repeat (any_goals (first | assumption | wp_step))
            exact c _ _ ts kp
          | _ => exact y2.elim
    | _ => exact y.elim

set_option maxHeartbeats 3200000 in
theorem set_tuple_k (fl : Flat kn) {p : Addr} {its : Array Value} {ks : List (Addr × List κ)} {Q : Value → Shared → Prop} (no : A.handled = none) (isl : s.heap.IsTuple p its) (val : its.toList = ks.map fun q => .ref q.1) (key : ∀ q ∈ ks, IsTupleKey kn s.heap q.2 q.1) (few : ks.length < 13) (hu : A.units + 4 < cLine)
    (c : ∀ (h' : Heap) (k : Nat), PSet kn h' s.heap.objs.size (onceG [] (ks.map (·.2))) → OldIn s.heap h' → Q (.ref s.heap.objs.size) { s with heap := h', toks := k }) :
    wpAny (model P w) A (call (.type "set") [.ref p]) Q E s := by
  have x1 := PySem.F.called_set.notType
  have x2 := PySem.F.called_set.canCreate
  have x3 := PySem.F.typeCall_set_1 (.ref p)
  have x4 := PySem.F.called_set.made
  have x5 := PySem.F.called_set.sub
  obtain ⟨c0, tl, x6⟩ := PySem.F.called_set.mro
  refine wpAny_call <| codeAny_of_tree ?_
  show wpAny (model P w) _ (callAny (.type "set") ⟨[.ref p], []⟩) _ _ s
  refine wpAny_pure ⟨Code.quiet_builtin _ (by decide +kernel), ?_⟩
  refine codeAny_builtin PySem.F.entry_type_call ?_
  rw [Around.under_plain (weight_type_call_type "set" [.ref p] []) (by rfl)]
  repeat (any_goals (first | assumption | wp_step))
  refine codeAny_mono (code_set_led1 (P := P) (w := w) (.ref p) (E := E) (Q₁ := fun v t => v = .ref s.heap.objs.size ∧ t = { s with heap := s.heap.push (nS w) }) ⟨rfl, rfl⟩) fun r t y => ?_
  cases r with
  | error e => exact y
  | ok fw =>
    cases fw with
    | ret v =>
      obtain ⟨rfl, rfl⟩ := y
      have g0 : (s.heap.push (nS w)).get? s.heap.objs.size = some (nS w) := Heap.get?_push_size _ rfl
      have ty : Shared.TypeIs { s with heap := s.heap.push (nS w) } (.ref s.heap.objs.size) "set" := ⟨_, g0, rfl⟩
      have x7 := PySem.F.called_set.init.lookup
      have x8 := PySem.F.called_set.init.bind (.ref s.heap.objs.size)
      repeat (any_goals (first | assumption | wp_step))
      let Rr : Value → Shared → Prop := fun r t => r = .none ∧ ∃ h' k, t = { s with heap := h', toks := k } ∧ PSet kn h' s.heap.objs.size (onceG [] (ks.map (·.2))) ∧ OldIn s.heap h'
      refine codeAny_mono (codeAny_call_builtin (R := wants Rr E) PySem.F.called_set.init.plain PySem.F.entry_set_init (check_set_init_1 ty ?_)) fun r2 t2 y2 => ?_
      · obtain ⟨⟨oc, od, oa, os⟩, ge, rfl, nl, rfl⟩ := isl
        have ge2 : (s.heap.push (nS w)).get? p = some ⟨.type "tuple", od, .seq its nl, os⟩ := Heap.get?_push_of_some _ ge
        have lst : (s.heap.push (nS w)).IsTuple p its := ⟨_, ge2, rfl, nl, rfl⟩
        have y1 := PySem.F.sub_tuple_set
        have y2 := PySem.F.sub_tuple_frozenset
        have y3 : (Value.type "tuple" == Value.type "dict") = false := by decide
        unfold Builtin.«set.__init__» noKeywords Builtin.Frozenset.updateFrom
        generalize ei : pyIter = pI
        wp_walk
        subst ei
        refine wpAny_pyIter_tuple lst <| wpAny_bind <| wpAny_runValue ?_
        have lt : p < s.heap.objs.size := Heap.lt_size ge
        have z1 : (s.heap.push (nS w)).objs.size = s.heap.objs.size + 1 := Heap.size_push ..
        have n1 : p ≠ (s.heap.push (nS w)).objs.size := z1 ▸ Nat.ne_of_lt (Nat.lt_succ_of_lt lt)
        have n2 : s.heap.objs.size ∉ [(s.heap.push (nS w)).objs.size, p] := by
          rw [z1]
          intro m
          rcases List.mem_cons.mp m with m | m
          · exact Nat.ne_of_lt (Nat.lt_succ_self _) m
          · exact Nat.ne_of_gt lt (List.mem_singleton.mp m)
        have len : its.size = ks.length := by rw [← Array.length_toList, val, List.length_map]
        have no3 : A.in1.in1.in1.handled = none := no
        have vv : ∀ (i : Nat) (v : Value), its[i]? = some v → ∃ q, ks[i]? = some q ∧ v = .ref q.1 := fun i v hv => by
          have hv := (Array.getElem?_toList ..).trans hv
          rw [val, List.getElem?_map] at hv
          obtain ⟨q, e1, e2⟩ := Option.map_eq_some_iff.mp hv
          exact ⟨q, e1, e2.symm⟩
        have g1 : ∀ o, ((s.heap.push (nS w)).push o).get? s.heap.objs.size = some (nS w) := fun o => Heap.get?_push_of_some _ g0
        have ol : ∀ o, OldIn s.heap ((s.heap.push (nS w)).push o) := fun o b u q => Heap.get?_push_of_some _ (Heap.get?_push_of_some _ q)
        refine updP_loop fl (S := s.heap.objs.size) ((Walks.tuple no3 _ p n1 its).toS) n2 (by simp only [Around.units, Around.in1] at hu ⊢; omega) ks len few vv key (none_from (Nat.le_refl _)) (fun z hz => none_from (by rw [List.mem_singleton.mp hz, z1]; exact Nat.le_succ _)) its.size 0 _ (Nat.zero_add _) ⟨⟨_, Heap.get?_push_size _ rfl, rfl, rfl⟩, lst.push _⟩ (ol _) ⟨[], _, _, _, PSt.new (g1 _), .refl _, fun _ z => (nomatch z)⟩ fun s1 mv o1 ts => ?_
        obtain ⟨h1, g1, d1, k1, o1'⟩ := s1
        obtain rfl : g1 = s.gens := mv.gens
        obtain rfl : d1 = s.drawn := mv.drawn
        obtain rfl : o1' = s.os := mv.os
        exact wpAny_pure (wpAny_pure ⟨rfl, h1, k1, rfl, ts, o1⟩)
      · cases r2 with
        | error e => exact y2
        | ok fw2 =>
          cases fw2 with
          | ret r =>
            obtain ⟨rfl, h', k, rfl, ts, kp⟩ := y2
            repeat (any_goals (first | assumption | wp_step))
            exact c _ _ ts kp
          | _ => exact y2.elim
    | _ => exact y.elim
end
end DL

namespace DL
open L2 PyProof.Rows PySem PySem.Spec

/-! ### len(set(..)) of texts and of tuples of texts -/
def textsD : List D → Option (List (List Str))
  | [] => some []
  | .tuple ds :: r => (strsD ds).bind fun k => (textsD r).map (k :: ·)
  | _ => none
def lenU (ds : List D) : Option Nat := match strsD ds with
  | some ks => if ks.length < 4000 then some (onceG [] ks).length else none
  | none => match textsD ds with
    | some kks => if kks.length < 13 then some (onceG [] kks).length else none
    | none => none
def lenSetD (κ : Kap) (xs : List DV) : Option DV := match xs with
  | [x] => (seqD κ x).bind fun ds => match ds, x with
    | ds, .d (.tuple _) => (textsD ds).bind fun kks => if kks.length < 13 then some (.d (.int (onceG [] kks).length)) else none
    | ds, _ => (lenU ds).map fun n => .d (.int n)
  | _ => none
theorem onceL_G : ∀ (xs l : List Str), onceL l xs = onceG l xs := fun _ _ => rfl
/-- a sequence of tuples of texts -/
def SqK (K : PySem.W.Frag) (H : Hp) (vs : List V) (kks : List (List Str)) : Prop := ∃ ks : List (Addr × List Str), vs = ks.map (fun q => V.ref q.1) ∧ kks = ks.map (·.2) ∧ ∀ q ∈ ks, SqT K H q.1 (q.2.map V.str)
theorem texts_ok {K : PySem.W.Frag} {F : List Addr} {B : Hp} {ι : List Addr} {H : Hp} {κ : Kap} (s : HSt K F B ι H κ) : ∀ {vs : List V} {ds : List D} {kks : List (List Str)}, RpAll K B vs ds → textsD ds = some kks → SqK K H vs kks
  | _, _, _, .nil, e => by cases e; exact ⟨[], rfl, rfl, fun _ z => (nomatch z)⟩
  | _, _, kks, .cons (v := v) (d := d) (ds := ds) h r, e => by
    cases h with
    | tup st ra =>
      rename_i a xs ds0
      simp only [textsD] at e
      cases e1 : strsD ds0 with
      | none => rw [e1] at e; cases e
      | some k =>
        rw [e1] at e
        simp only [Option.bind_some] at e
        cases e2 : textsD ds with
        | none => rw [e2] at e; cases e
        | some rest =>
          rw [e2] at e
          cases e
          obtain ⟨ks, h1, h2, h3⟩ := texts_ok s r e2
          rw [strs_ok ra e1] at st
          refine ⟨(a, k) :: ks, by rw [h1]; rfl, by rw [h2]; rfl, fun q hq => ?_⟩
          rcases List.mem_cons.mp hq with rfl | hq
          · exact same_t s.ex st
          · exact h3 q hq
    | _ => cases e
def rLenSet (K : PySem.W.Frag) : V → Hp → VK → Prop := fun x H Q => ∃ a, x = .ref a ∧
  ((∃ xs : List Str, SqL K H a (xs.map V.str) ∧ xs.length + 1 < scanBound ∧ Q (.int (onceG [] xs).length) H) ∨
   ∃ (vs : List V) (kks : List (List Str)), (SqL K H a vs ∨ SqT K H a vs) ∧ SqK K H vs kks ∧ kks.length < 13 ∧ Q (.int (onceG [] kks).length) H)
section
variable {X : Cx} {E : XK} {e : Expr} {ta : TE} {ma : MA} {p p2 q pos : Pos}
theorem items_of {P : Program} {w : World} : ∀ {k : List Str} {us : List Value}, Vals (k.map V.str) us → ItemsAre (PySem.strKind P w) k us
  | [], _, .nil => .nil
  | x :: k, _, .cons r t => by
    obtain ⟨u, rfl⟩ := r
    exact .cons (Froz.is_str x u) (items_of t)
theorem pe_lenSetG (hc : X.calm = true) (hu : X.A.units + 64 < cLine) (hg : Gl X "len") (hm : X.mg "len" = none) (hg2 : Gl X "set") (hm2 : X.mg "set" = none) (ha : PE X e ta)
    (na : starEach [e] X.env = (false, eval e X.env) :: starEach [] X.env := by rfl) : PE X (.Call (.Name "len" p) [.Call (.Name "set" p2) [e] [] q] [] pos) (fun σ H Q => ta σ H fun x H1 => rLenSet X.K x H1 Q) := by
  refine ⟨fun pins s σ H Q I h => ?_⟩
  refine Call_ (ld_blt I hg hm boot_len ?_)
  refine PyProof.Rows.callWith_builtin1 (PyProof.Rows.args_cons ?_ rfl) rfl rfl
  refine Call_ (ld_blt I hg2 hm2 boot_set ?_)
  refine PyProof.Rows.callWith_type1 (PyProof.Rows.args_cons (thn (ha.run pins s σ H _ I h) fun v s1 ⟨x, H1, I1, r1, q1⟩ => PyProof.Rows.args_nil ?_) na) na rfl
  obtain ⟨l, rfl, q1⟩ := q1
  cases r1
  have fin : ∀ {o : Obj} {es : Array (Int × Value)} {ep : Nat} {t : SetTable} (n : Nat) (h' : Heap) (tk : Nat), h'.get? s1.heap.objs.size = some o → o.ExactSet → o.data = .set es ep t → t.fits es.size = true → es.size = n → n ≤ 5000 → OldIn s1.heap h' → Q (.int n) H1 →
      wpAny (model X.prog X.w) X.A (spliced (backTo pos (starEach [] X.env))) (fun vs s₂ => wpAny (model X.prog X.w) X.A (call (.builtin "len") (Value.ref s1.heap.objs.size :: vs)) (EP X pins σ Q) X.xe s₂) X.xe { s1 with heap := h', toks := tk } := fun n h' tk g gx gd gf en nb ol qn => by
    refine PyProof.Rows.args_nil ?_
    have I2 : Inv X pins σ H1 { s1 with heap := h', toks := tk } := I1.kept ol
    exact call_len_set g gx gd gf (by rw [en]; omega) ⟨.int n, H1, I2.tok _, ⟨_, by rw [en]⟩, qn⟩
  rcases q1 with ⟨xs, hl, few, qn⟩ | ⟨vs, kks, hl, ⟨ks, rfl, rfl, key⟩, few, qn⟩
  · obtain ⟨its, rv, pl, _⟩ := I1.list hl
    have sv : StrsAre its.toArray.toList xs := by simpa using strsAre_of rv
    refine set_list (I1.ok.hd hc) pl.isList sv few fun h' k ts kp => ?_
    obtain ⟨Dd, g, T, _⟩ := ts
    have := onceG_len xs []
    exact fin _ h' k g ⟨rfl, rfl, rfl⟩ rfl T.fit T.sz (by unfold scanBound at few; rw [onceL_G]; simp only [List.length_nil, Nat.zero_add] at this; omega) kp (by rw [onceL_G]; exact qn)
  · have keyC : ∀ q ∈ ks, IsTupleKey (PySem.strKind X.prog X.w) s1.heap q.2 q.1 := fun r hr => by
      obtain ⟨its, rv, pl, _⟩ := I1.tuple (key r hr)
      obtain ⟨o, y1, y2, n, y3⟩ := pl
      exact ⟨o, its.toArray, n, y1, y2, y3, by rw [List.toList_toArray]; exact items_of rv⟩
    have vals : ∀ {its : List Value}, Vals (ks.map fun q => V.ref q.1) its → its = ks.map fun q => Value.ref q.1 := by
      clear qn few keyC key hl
      induction ks with
      | nil => intro its r; cases r; rfl
      | cons k ks ih => 
        intro its r
        cases r with
        | cons r1 r2 => cases r1; rw [ih r2]; rfl
    have few2 : ks.length < 13 := by rwa [List.length_map] at few
    have le := onceG_len (ks.map (·.2)) []
    rw [List.length_map] at le
    have fin2 : ∀ (h' : Heap) (k : Nat), PSet (PySem.strKind X.prog X.w) h' s1.heap.objs.size (onceG [] (ks.map (·.2))) → OldIn s1.heap h' → wpAny (model X.prog X.w) X.A (spliced (backTo pos (starEach [] X.env))) (fun vs s₂ => wpAny (model X.prog X.w) X.A (call (.builtin "len") (Value.ref s1.heap.objs.size :: vs)) (EP X pins σ Q) X.xe s₂) X.xe { s1 with heap := h', toks := k } := fun h' k ts kp => by
      obtain ⟨L, es, ep, t, T, pm⟩ := ts
      obtain ⟨o, g, gx, gd⟩ := T.at_
      have z : es.size = (onceG [] (ks.map (·.2))).length := by rw [ent_len T.ent, ← pm.length_eq, List.length_map]
      have ft : t.fits es.size = true := fits_by T.tab.dm (by have := T.tab.sz; rw [List.length_map] at this; rw [this, ent_len T.ent]) (by have := T.sp; have := ent_len T.ent; omega)
      exact fin _ h' k g gx gd ft z (by simp only [List.length_nil, Nat.zero_add] at le; omega) kp qn
    rcases hl with hl | hl
    · obtain ⟨its, rv, pl, _⟩ := I1.list hl
      exact set_list_k flat_str (I1.ok.hd hc) pl.isList (by rw [List.toList_toArray]; exact vals rv) keyC few2 (by omega) fin2
    · obtain ⟨its, rv, pl, _⟩ := I1.tuple hl
      exact set_tuple_k flat_str (I1.ok.hd hc) pl (by rw [List.toList_toArray]; exact vals rv) keyC few2 (by omega) fin2
def mLenSet (a : ME) : ME := fun ρ κ => (a ρ κ).bind fun x κ1 => opt κ1 (lenSetD κ1 [x])
theorem lenSet_ok {K : PySem.W.Frag} {F : List Addr} {B : Hp} {ι : List Addr} {H : Hp} {κ : Kap} {v : V} {x z : DV} (s : HSt K F B ι H κ) (w : VOk K F B ι H v x) (e : lenSetD κ [x] = some z) (Q : VK) (q : ∀ v' B' ι' H', Grow F B ι H B' ι' H' → HSt K F B' ι' H' κ → VOk K F B' ι' H' v' z → Q v' H') : rLenSet K v H Q := by
  unfold lenSetD at e
  dsimp only at e
  cases e1 : seqD κ x with
  | none => rw [e1] at e; cases e
  | some ds =>
    rw [e1] at e
    simp only [Option.bind_some] at e
    obtain ⟨a, vs, rfl, h1, r⟩ := seqD_ok s w e1
    have two : ∀ {kks : List (List Str)}, textsD ds = some kks → kks.length < 13 → Q (.int (onceG [] kks).length) H → rLenSet K (.ref a) H Q := fun {kks} e2 few qn => ⟨a, rfl, .inr ⟨vs, kks, h1, texts_ok s r e2, few, qn⟩⟩
    split at e
    · cases e2 : textsD ds with
      | none => rw [e2] at e; cases e
      | some kks =>
        rw [e2] at e
        simp only [Option.bind_some] at e
        split at e
        · rename_i few
          cases e
          exact two e2 few (keepQ s (.int _) q)
        · cases e
    · rename_i nt
      unfold lenU at e
      split at e
      · rename_i ks e2
        split at e
        · rename_i few
          cases e
          have hl : SqL K H a vs := by
            have e1' := e1
            unfold seqD at e1'
            split at e1'
            · exact absurd rfl (nt _)
            · obtain ⟨p, vs', e3, h3, r3⟩ := lv_ok s w e1'
              cases e3
              rw [strs_ok r3 e2] at h3
              rw [strs_ok r e2]
              exact lst1 h3
          rw [strs_ok r e2] at hl
          exact ⟨a, rfl, .inl ⟨ks, hl, by unfold scanBound; omega, keepQ s (.int _) q⟩⟩
        · cases e
      · split at e
        · rename_i kks e2
          split at e
          · rename_i few
            cases e
            exact two e2 few (keepQ s (.int _) q)
          · cases e
        · cases e
theorem je_lenset {me : ME} (hc : X.calm = true) (hu : X.A.units + 64 < cLine) (hg : Gl X "len") (hm : X.mg "len" = none) (hg2 : Gl X "set") (hm2 : X.mg "set" = none) (ha : JE X E e me)
    (na : starEach [e] X.env = (false, eval e X.env) :: starEach [] X.env := by rfl) : JE X E (.Call (.Name "len" p) [.Call (.Name "set" p2) [e] [] q] [] pos) (mLenSet me) :=
  pe_imp (pe_lenSetG hc hu hg hm hg2 hm2 ha na) fun σ H Q ⟨F, B, ι, ρ, κ, s, h⟩ => by
    unfold mLenSet at h
    refine evE s (fun x κ1 e1 v B1 ι1 H1 g1 s1 w1 => ?_) (fun n fs κ1 e1 => by rw [e1] at h; exact h) (fun e => by rw [e] at h; exact h)
    rw [e1] at h
    have h : PostE X.K X.mg E F B ι H Q (opt κ1 (lenSetD κ1 [x])) := h
    cases e2 : lenSetD κ1 [x] with
    | none => rw [e2] at h; exact h.elim
    | some z =>
      rw [e2] at h
      exact lenSet_ok s1 w1 e2 Q fun v' B' ι' H' g s' w' => h v' B' ι' H' (g1.trans g) s' w'
end
end DL

namespace DL
open L2 PyProof.Rows PySem PySem.Spec PySem.W

/-! ### sorted(..) of a list or a tuple of texts -/
section
variable {P : Program} {w : World} {A : Around} {E : Value → Shared → Prop} {s : Shared}
theorem collect_seq {T : String} (hT : T = "list" ∨ T = "tuple") {l n : Nat} {o : Obj} {vs : List Value} {Q : List Value → Shared → Prop} (g : s.heap.get? l = some o) (gc : o.cls = .type T) (gd : o.data = .seq vs.toArray n)
    (c : Q vs { s with heap := (s.heap.push (seqObj "list" #[] 0)).update s.heap.objs.size (Obj.mapSeq (· ++ vs.toArray)) }) (z : vs.length ≤ sizeLine := by size_fits) : wpAny (model P w) A (collect (.ref l)) Q E s := by
  have g2 := Heap.get?_push_of_some (seqObj "list" #[] 0) g
  have new : (s.heap.push (seqObj "list" #[] 0)).get? s.heap.objs.size = some (seqObj "list" #[] 0) := Heap.get?_push_size _ rfl
  unfold collect
  refine wpAny_bind <| wpAny_runValue <| codeAny_builtin entry_proto_collect' ?_
  show wpAny (model P w) _ (do again (.builtin "list.__iadd__" ⟨[← newList [], .ref l], []⟩)) _ _ s
  refine wpAny_bind <| wpAny_newList <| wpAny_pure ⟨Code.quiet_builtin _ (by decide +kernel), codeAny_builtin entry_list_iadd' ?_⟩
  show wpAny (model P w) _ (Builtin.List.listExtendWith (.ref s.heap.objs.size) (.ref l) (.ref s.heap.objs.size)) _ _ { s with heap := s.heap.push (seqObj "list" #[] 0) }
  unfold Builtin.List.listExtendWith
  refine wpAny_bind <| wpAny_typeOf (T := T) ⟨o, g2, gc⟩ ?_
  rw [if_pos (by rcases hT with rfl | rfl <;> simp)]
  refine wpAny_bind <| listItems_at g2 gd <| wpAny_bind <| listItems_at (xs := #[]) (n := 0) new rfl ?_
  rw [if_neg (by simp)]
  refine wpAny_bind <| listUpdate_at (xs := #[]) (n := 0) new rfl ?_ (Nat.zero_le _) (by rw [Array.size_append, List.size_toArray, List.size_toArray, List.length_nil]; omega)
  refine wpAny_pure ?_
  refine wpAny_bind (m := load s.heap.objs.size) <| wpAny_load (get?_update_seq new _) ?_
  show wpAny (model P w) A (pure ((#[] : Array Value) ++ vs.toArray).toList) Q E _
  have e : ((#[] : Array Value) ++ vs.toArray).toList = vs := by simp
  rw [e]
  exact wpAny_pure c
theorem sorted_txts {T : String} (hT : T = "list" ∨ T = "tuple") {l n : Nat} {o : Obj} {vs : List Value} {xs : List Str} {Q : Value → Shared → Prop} (g : s.heap.get? l = some o) (gc : o.cls = .type T) (gd : o.data = .seq vs.toArray n) (val : StrsAre vs xs) (z : xs.length ≤ 4000) (room : A.units + 64 < cLine)
    (c : ∀ (t : Shared) (p : Addr) (out : List Value) (m : Nat), (∀ b o, s.heap.get? b = some o → t.heap.get? b = some o) → t.gens = s.gens → t.os = s.os → s.heap.objs.size ≤ p → t.heap.get? p = some (seqObj "list" out.toArray m) → EachIs IsTxt out (sortS xs) → Q (.ref p) t) :
    wpAny (model P w) A (call (.builtin "sorted") [.ref l]) Q E s := by
  have zv : vs.length = xs.length := StrsAre.len_eq val
  have zl : vs.length ≤ sizeLine := by rw [zv, sizeLine_eq]; omega
  have vk : ∀ v ∈ vs, v = .str (txtOf v) (match v with | .str _ t => t | _ => 0) := fun v hv => by
    obtain ⟨i, hi⟩ := List.mem_iff_getElem?.mp hv
    obtain ⟨t, e⟩ := SS.strs_at val i v hi
    rw [e]; rfl
  have ev := each_txt vs vk
  have ex : vs.map txtOf = xs := by
    refine List.ext_getElem? fun i => ?_
    rw [List.getElem?_map]
    cases q : vs[i]? with
    | none =>
      rw [List.getElem?_eq_none_iff, zv] at q
      rw [List.getElem?_eq_none_iff.mpr q]; rfl
    | some v =>
      obtain ⟨t, e⟩ := SS.strs_at val i v q
      have il : i < xs.length := by rw [← zv]; exact (List.getElem?_eq_some_iff.mp q).1
      rw [e, List.getElem?_eq_getElem il, List.getD_eq_getElem?_getD, List.getElem?_eq_getElem il]; rfl
  rw [ex] at ev
  refine Calls.call_function_entry kind_sorted plain_sorted entry_sorted (args_sorted1 _) ?_
  unfold Builtin.«sorted»
  refine wpAny_bind (m := checkCount "sorted" 1 1 _) <| wpAny_pure ?_
  refine wpAny_bind <| collect_seq (A := A.in1) hT g gc gd ?_ zl
  have old1 : ∀ b u, s.heap.get? b = some u → ((s.heap.push (seqObj "list" #[] 0)).update s.heap.objs.size (Obj.mapSeq (· ++ vs.toArray))).get? b = some u := fun b u q =>
    (Heap.get?_update_ne _ _ _ _ (Nat.ne_of_lt (Heap.lt_size q))).trans (Heap.get?_push_of_some _ q)
  have size1 : ((s.heap.push (seqObj "list" #[] 0)).update s.heap.objs.size (Obj.mapSeq (· ++ vs.toArray))).objs.size = s.heap.objs.size + 1 := by rw [Heap.size_update, size_push']
  generalize (s.heap.push (seqObj "list" #[] 0)).update s.heap.objs.size (Obj.mapSeq (· ++ vs.toArray)) = h1 at old1 size1 ⊢
  refine wpAny_bind <| wpAny_newList ?_ zl
  have nl : (h1.push (seqObj "list" vs.toArray 0)).get? h1.objs.size = some (seqObj "list" vs.toArray 0) := Heap.get?_push_size _ rfl
  refine wpAny_bind <| wpAny_holding <| list_sort_data (enc := PyData.str) (R := IsTxt) nl ev (each_imp (fun v k ⟨u, e⟩ => ⟨[], by rw [e]; exact ⟨.str k u, List.not_mem_nil⟩⟩) ev) (.of fun _ _ => by simp [alike]) (.others fun _ => ⟨by simp, by simp⟩) (by rw [← zv]; exact zl) (fun b _ => ?_) fun out lo eo => ?_
  · have h1 : (A.in1).units ≤ A.units + 1 := by simp [Around.units, Around.in1]
    have h2 : (PyData.str b).depth = 0 := by simp [PyData.depth]
    rw [h2]; omega
  · obtain ⟨m, gm⟩ := sortedHeap_at (vs := vs) (out := out.toArray) nl
    rw [dataLe_str fun x => x] at eo
    refine wpAny_pure ⟨_, rfl, c _ h1.objs.size out m (fun b u q => ?_) rfl rfl (by rw [size1]; omega) gm eo⟩
    have q2 := old1 b u q
    have lt := Heap.lt_size q2
    exact (sortedHeap_old (vs := vs) (out := out.toArray) (Nat.ne_of_lt lt) (by rw [size_push']; exact Nat.lt_succ_of_lt lt)).trans (Heap.get?_push_of_some _ q2)
end
def rSortTx (K : PySem.W.Frag) : List V → Hp → VK → Prop := fun vs H Q => ∃ (a : Addr) (xs : List Str), vs = [.ref a] ∧ (SqL K H a (xs.map V.str) ∨ SqT K H a (xs.map V.str)) ∧ xs.length ≤ 4000 ∧ ∀ p, H p = none → Q (.ref p) (upd H p (.lst ((sortS xs).map V.str)))
theorem cr_sortTx {X : Cx} (hu : X.A.units + 64 < cLine) : CallR X (.builtin "sorted") (rSortTx X.K) := by
  intro pins s σ H vs us Q I r h
  obtain ⟨a, xs, rfl, hs, few, q⟩ := h
  rw [Vals.ref1 r]
  have go : ∀ (T : String) (its : List Value) (o : Obj) (n : Nat), T = "list" ∨ T = "tuple" → Vals (xs.map V.str) its → s.heap.get? a = some o → o.cls = .type T → o.data = .seq its.toArray n → wpAny (model X.prog X.w) X.A (call (.builtin "sorted") [.ref a]) (EP X pins σ Q) X.xe s := fun T its o n hT rv g gc gd => by
    have sv : StrsAre its xs := by simpa using strsAre_of rv
    refine sorted_txts hT g gc gd sv few hu fun t p out m kp gg oo lp gp eo => ?_
    have lo : ((sortS xs).map V.str).length ≤ sizeLine := by
      rw [List.length_map, sortS, List.length_mergeSort, sizeLine_eq]; omega
    have fresh : H p = none := I.hok.fresh lp
    have J : Inv X pins σ (upd H p (.lst ((sortS xs).map V.str))) t := I.call' (ch := []) oo (Un.laid kp lp fresh) (I.hok.laid kp lp ⟨lo, out, m, each_vals eo, gp⟩) (by rw [gg]; exact I.bare) fun _ z => nomatch z
    exact ⟨.ref p, _, J, rfl, q p fresh⟩
  rcases hs with hs | hs
  · obtain ⟨its, rv, pl, _⟩ := I.list hs
    obtain ⟨o, g, gc, n, gd⟩ := pl.isList
    exact go "list" its o n (.inl rfl) rv g gc gd
  · obtain ⟨its, rv, pl, _⟩ := I.tuple hs
    obtain ⟨o, g, gc, n, gd⟩ := pl
    exact go "tuple" its o n (.inr rfl) rv g gc gd
def sortTxD (κ : Kap) (xs : List DV) : Option DV := match xs with
  | [x] => (seqD κ x).bind fun ys => (strsD ys).bind fun ks => if ks.length ≤ 4000 then some (.n ((sortS ks).map .str)) else none
  | _ => none
theorem sortTxI {K : PySem.W.Frag} : CalI K (rSortTx K) sortTxD := fun F B ι H κ vs xs z s w e Q q => by
  unfold sortTxD at e
  split at e
  · rename_i x
    cases e1 : seqD κ x with
    | none => rw [e1] at e; cases e
    | some ys =>
      rw [e1] at e
      simp only [Option.bind_some] at e
      cases e2 : strsD ys with
      | none => rw [e2] at e; cases e
      | some ks =>
        rw [e2] at e
        simp only [Option.bind_some] at e
        split at e
        · rename_i few
          cases e
          cases w with
          | cons w1 w2 =>
            cases w2
            obtain ⟨a, us, rfl, h1, r⟩ := seqD_ok (F := F) s w1.toV e1
            rw [strs_ok r e2] at h1
            exact ⟨a, ks, rfl, h1, few, newQ s (strs_all _) q⟩
        · cases e
  · cases e

/-! ### a module's tuple of texts, and its index -/
def Txts : List Value → List Str → Prop
  | [], [] => True
  | v :: r, k :: s => (∃ t, v = .str k t) ∧ Txts r s
  | _, _ => False
theorem txts_vals : ∀ {l : List Value} {ks : List Str}, Txts l ks → Vals (ks.map V.str) l
  | [], [], _ => .nil
  | _ :: _, _ :: _, h => .cons h.1 (txts_vals h.2)
structure MTup (K : PySem.W.Frag) (mg : Str → Option Value) (x : Str) (ks : List Str) : Prop where
  ex : ∃ a, mg x = some (.ref a) ∧ (∃ o, K.lookup a = some o ∧ o.cls = .type "tuple" ∧ o.dict = none) ∧ ∀ B : Hp, SqT K B a (ks.map V.str)
theorem mtup_mk {K : PySem.W.Frag} {mg : Str → Option Value} {x : Str} {ks : List Str} {a : Addr} {its : Array Value} {n : Nat} {sl : Array (Option Value)} (hm : mg x = some (.ref a)) (hl : K.lookup a = some ⟨.type "tuple", none, .seq its n, sl⟩) (ht : Txts its.toList ks) (hz : ks.length ≤ 1000) : MTup K mg x ks :=
  ⟨a, hm, ⟨_, hl, rfl, rfl⟩, fun B => .inr ⟨_, its, n, hl, rfl, rfl, by
    have e := (txts_vals ht).length
    rw [List.length_map, Array.length_toList] at e
    have e : ks.length = its.size := e
    rw [← e, sizeLine_eq]; omega, txts_vals ht⟩⟩
theorem je_gtup {X : Cx} {E : XK} {x : Str} {ks : List Str} {pos : Pos} (M : MTup X.K X.mg x ks) (hg : Gl X x) (hd : (x == ("__debug__" : Str)) = false := by decide) : JE X E (.Name x pos) (mC (.tuple (ks.map .str))) := by
  obtain ⟨a, h1, _, h2⟩ := M.ex
  exact je_gl (v := .ref a) hg h1 rfl (fun B => .tup (h2 B) (strs_all ks)) hd
def tidxF : List Str → Str → Option Nat
  | [], _ => none
  | y :: r, x => if y = x then some 0 else (tidxF r x).map (· + 1)
theorem tidx_ok : ∀ {ys : List Str} {x : Str} {j : Nat}, tidxF ys x = some j → ys[j]? = some x ∧ ∀ m, m < j → ys[m]? ≠ some x
  | [], _, _, e => by cases e
  | y :: r, x, j, e => by
    rw [tidxF] at e
    split at e
    · rename_i h; cases e; exact ⟨by rw [List.getElem?_cons_zero, h], fun m z => absurd z (Nat.not_lt_zero _)⟩
    · rename_i h
      cases q : tidxF r x with
      | none => rw [q] at e; cases e
      | some i =>
        rw [q] at e; cases e
        obtain ⟨h1, h2⟩ := tidx_ok q
        refine ⟨by rw [List.getElem?_cons_succ]; exact h1, fun m z => ?_⟩
        cases m with
        | zero => rw [List.getElem?_cons_zero]; exact fun z => h (Option.some.inj z)
        | succ m => rw [List.getElem?_cons_succ]; exact h2 m (Nat.lt_of_succ_lt_succ z)
/-- X.index(y) of a module's tuple of texts that has y -/
def mTidx (ks : List Str) (ma : MA) : ME := fun ρ κ => (ma ρ κ).bind fun xs κ2 => match xs with
    | [.d (.str a)] => (match tidxF ks a with
      | some i => .ok (.d (.int i)) κ2
      | none => .bad)
    | _ => .bad
abbrev rTidx (K : PySem.W.Frag) : V → List V → Hp → VK → Prop := fun x xs H Q => ∃ p, ∃ ys : List Str, ∃ z j, x = .ref p ∧ xs = [.str z] ∧ SqT K H p (ys.map V.str) ∧ ys[j]? = some z ∧ (∀ m, m < j → ys[m]? ≠ some z) ∧ Q (.int (j : Nat)) H
theorem je_tidx {X : Cx} {E : XK} {x : Str} {ks : List Str} {e : Expr} {es : List Expr} {ma : MA} {opos apos cpos : Pos} (M : MTup X.K X.mg x ks) (hg : Gl X x) (ha : JA X E (e :: es) ma) (hd : (x == ("__debug__" : Str)) = false := by decide)
    (hbase : attributeBase (.Name x opos) "index" X.env (eval (.Name x opos) X.env) = eval (.Name x opos) X.env := by rfl)
    (hfew : ((backTo cpos (starEach (e :: es) X.env)).all (fun x => !x.1) && (backToKw cpos (keywordEach [] X.env)).all (fun x => x.1.isSome)
      && decide ((e :: es).length + ([] : List Keyword).length + (if ([] : List Keyword).isEmpty then 0 else 1) < 30)) = true := by rfl)
    (hline : (apos.endLine == cpos.line) = true := by rfl) (hs : starEach (e :: es) X.env = (false, eval e X.env) :: starEach es X.env := by rfl) (hplain : (backTo cpos (starEach es X.env)).any (·.1) = false := by rfl) :
    JE X E (.Call (.Attribute (.Name x opos) "index" apos) (e :: es) [] cpos) (mTidx ks ma) := by
  obtain ⟨a, h1, ⟨o, h2, h3, h4⟩, h5⟩ := M.ex
  refine pe_imp (pe_bm PySem.F.plainAttrs_tuple PySem.F.slot_tuple_index PySem.F.type_tuple_index mt_tup_index (pe_glob hg h1 (show RelV (.ref a) (.ref a) from rfl) hd) ha hbase hfew hline hs hplain) fun σ H Q ⟨F, B, ι, ρ, κ, s, h⟩ => ?_
  refine ⟨.inr (.inl ⟨rfl, o, h2, h3, h4⟩), ?_⟩
  unfold mTidx at h
  refine evA s (fun xs κ2 e2 ws B2 ι2 H2 g2 s2 w2 => ?_) (fun n fs κ2 e2 => by rw [e2] at h; exact h) (fun e => by rw [e] at h; exact h)
  rw [e2] at h
  dsimp only [Out.bind] at h
  split at h
  · rename_i b
    split at h
    · rename_i i ei
      cases w2 with
      | cons wa wr =>
        cases wr
        have wa : Rp X.K B2 _ (.str b) := wa
        cases wa
        obtain ⟨i1, i2⟩ := tidx_ok ei
        exact ⟨a, ks, b, i, rfl, rfl, h5 _, i1, i2, h _ B2 ι2 H2 g2 s2 (Rp.int _)⟩
    · exact h.elim
  · exact h.elim
end DL

namespace DL
open L2 PyProof.Rows PySem PySem.Spec
/-! ### a number less a truth -/
theorem op_iSubB {X : Cx} : OpR X (binaryOp .Sub) (fun x y H Q => ∃ i k, x = .int i ∧ y = .bl k ∧ Q (.int (i - bz k)) H) := by
  intro pins s σ H x y v u Q I rx ry h
  obtain ⟨i, k, rfl, rfl, q⟩ := h
  obtain ⟨t, rfl⟩ := rx
  cases ry
  exact PySem.IntBool.sub_int_bool ⟨.int (i - bz k), H, I.tok _, ⟨_, rfl⟩, q⟩
def rSubC : R2 := fun x y H Q => (∃ i k, x = .int i ∧ y = .bl k ∧ Q (.int (i - bz k)) H) ∨ rSubB x y H Q
theorem op_subC {X : Cx} : OpR X (binaryOp .Sub) rSubC := op_iSubB.or op_subB
def subC (κ : Kap) (x y : DV) : Option DV := match x, y with
  | .d (.int a), .d (.bool b) => some (.d (.int (a - bz b)))
  | x, y => subB κ x y
theorem subCI {K : PySem.W.Frag} : BinI K rSubC subC := fun F B ι H κ v w x y z s wx wy e Q q => by
  unfold subC at e
  split at e
  · cases e; cases wx; cases wy
    exact .inl ⟨_, _, rfl, rfl, keepQ s (.int _) q⟩
  · exact .inr (subBI F B ι H κ v w x y z s wx wy e Q q)
end DL

namespace DL
open L2 PyProof.Rows PySem PySem.Spec
/-! ### what a mirror comes to -/
theorem fz_d {x : PyData} : fz (.d x) = .d x := rfl
theorem fz_n {x : List PyData} : fz (.n x) = .d (.list x) := rfl
theorem fz_c {x : Nat} : fz (.c x) = .c x := rfl
def wO {α : Type} (o : Out α) (Q : α → Kap → Prop) : Prop := match o with
  | .ok x κ => Q x κ
  | _ => False
structure Po where
  nx : Rho → Kap → Prop
  bk : Rho → Kap → Prop := fun _ _ => False
  ct : Rho → Kap → Prop := fun _ _ => False
  rt : DV → Kap → Prop
def wP (o : OutS) (Z : Po) : Prop := match o with
  | .nx ρ κ => Z.nx ρ κ
  | .bk ρ κ => Z.bk ρ κ
  | .ct ρ κ => Z.ct ρ κ
  | .rt x κ => Z.rt x κ
  | _ => False
section
variable {α β : Type} {Q R : α → Kap → Prop} {o : Out α} {ρ : Rho} {κ : Kap} {Z Z' : Po} {m a b c : ME} {f g : Kap → DV → DV → Option DV} {q : DV → Kap → Prop} {t u : MT} {qt : Bool → Kap → Prop} {s s1 s2 : MS} {ma : MA} {qa : List DV → Kap → Prop}
theorem wO.mono (h : wO o Q) (i : ∀ x κ, Q x κ → R x κ) : wO o R := by
  cases o with
  | ok x κ => exact i x κ h
  | _ => exact h
theorem wP.mono {o : OutS} (h : wP o Z) (i1 : ∀ ρ κ, Z.nx ρ κ → Z'.nx ρ κ) (i2 : ∀ ρ κ, Z.bk ρ κ → Z'.bk ρ κ) (i3 : ∀ ρ κ, Z.ct ρ κ → Z'.ct ρ κ) (i4 : ∀ x κ, Z.rt x κ → Z'.rt x κ) : wP o Z' := by
  cases o with
  | nx ρ κ => exact i1 ρ κ h
  | bk ρ κ => exact i2 ρ κ h
  | ct ρ κ => exact i3 ρ κ h
  | rt x κ => exact i4 x κ h
  | _ => exact h
theorem wO_ok {x : α} : wO (.ok x κ) Q = Q x κ := propext Iff.rfl
theorem wO_of (h : wO o Q) : ∃ x κ, o = .ok x κ ∧ Q x κ := by
  cases o with
  | ok x κ => exact ⟨x, κ, rfl, h⟩
  | _ => exact h.elim
theorem wO_bind {o : Out β} {k : β → Kap → Out α} : wO (o.bind k) Q = wO o fun x κ => wO (k x κ) Q := by cases o <;> rfl
theorem wP_bind {o : Out β} {k : β → Kap → OutS} : wP (o.bindS k) Z = wO o fun x κ => wP (k x κ) Z := by cases o <;> rfl
theorem wC {d : PyData} : wO (mC d ρ κ) q = q (.d d) κ := propext Iff.rfl
theorem wVar {i : Nat} : wO (mVar i ρ κ) q = match ρ[i]? with
  | some (some x) => q x κ
  | _ => False := by
  unfold mVar
  cases ρ[i]? with
  | none => rfl
  | some o => cases o <;> rfl
theorem wOpt {z : DV} : wO (opt κ (some z)) q = q z κ := propext Iff.rfl
theorem wBin : wO (mBin f a b ρ κ) q = wO (a ρ κ) fun x κ1 => wO (b ρ κ1) fun y κ2 => wO (opt κ2 (f κ2 x y)) q := by
  unfold mBin; simp only [wO_bind]
theorem wUn {f : Kap → DV → Option DV} : wO (mUn f a ρ κ) q = wO (a ρ κ) fun x κ1 => wO (opt κ1 (f κ1 x)) q := by
  unfold mUn; simp only [wO_bind]
theorem wCal {f : Kap → List DV → Option DV} : wO (mCal f ma ρ κ) q = wO (ma ρ κ) fun xs κ1 => wO (opt κ1 (f κ1 xs)) q := by
  unfold mCal; simp only [wO_bind]
theorem wNil : wO (mNil ρ κ) qa = qa [] κ := propext Iff.rfl
theorem wCons : wO (mCons a ma ρ κ) qa = wO (a ρ κ) fun x κ1 => wO (ma ρ κ1) fun xs κ2 => qa (fz x :: xs) κ2 := by
  unfold mCons; simp only [wO_bind]; rfl
theorem wConsC : wO (mConsC a ma ρ κ) qa = wO (a ρ κ) fun x κ1 => match x with
    | .n xs => wO (ma ρ (κ1 ++ [.lst (xs.map .d)])) fun ys κ2 => qa (.c κ1.length :: ys) κ2
    | x => wO (ma ρ κ1) fun ys κ2 => qa (fz x :: ys) κ2 := by
  unfold mConsC; simp only [wO_bind]
  congr 1; funext x κ1
  cases x <;> simp only [wO_bind] <;> rfl
theorem wLst : wO (mLst ma ρ κ) q = wO (ma ρ κ) fun xs κ1 => match allD xs with
    | some ds => ds.length ≤ 1000 ∧ q (.n ds) κ1
    | none => False := by
  unfold mLst; simp only [wO_bind]
  congr 1; funext xs κ1
  cases allD xs with
  | none => rfl
  | some ds => by_cases h : ds.length ≤ 1000 <;> simp [h, wO]
theorem wTup : wO (mTup ma ρ κ) q = wO (ma ρ κ) fun xs κ1 => match allD xs with
    | some ds => ds.length ≤ 1000 ∧ q (.d (.tuple ds)) κ1
    | none => False := by
  unfold mTup; simp only [wO_bind]
  congr 1; funext xs κ1
  cases allD xs with
  | none => rfl
  | some ds => by_cases h : ds.length ≤ 1000 <;> simp [h, wO]
theorem wCall {m : MF} : wO (mCall m ma ρ κ) q = wO (ma ρ κ) fun xs κ1 => wO (m xs κ1) q := by
  unfold mCall; simp only [wO_bind]
theorem wTr : wO (mTr m ρ κ) qt = wO (m ρ κ) fun x κ1 => match truD κ1 x with
    | some b => qt b κ1
    | none => False := by
  unfold mTr; simp only [wO_bind]
  congr 1; funext x κ1
  cases truD κ1 x <;> rfl
theorem wTb : wO (mTb m ρ κ) qt = wO (m ρ κ) fun x κ1 => match x with
    | .d (.bool b) => qt b κ1
    | _ => False := by
  unfold mTb; simp only [wO_bind]
  congr 1; funext x κ1
  cases x with
  | d y => cases y <;> rfl
  | c i => rfl
  | n xs => rfl
theorem wNotT : wO (mNotT t ρ κ) qt = wO (t ρ κ) fun b κ1 => qt (!b) κ1 := by unfold mNotT; simp only [wO_bind]; rfl
theorem wAndT : wO (mAndT t u ρ κ) qt = wO (t ρ κ) fun b κ1 => if b = true then wO (u ρ κ1) qt else qt false κ1 := by
  unfold mAndT; simp only [wO_bind]; congr 1; funext b κ1; split <;> rfl
theorem wOrT : wO (mOrT t u ρ κ) qt = wO (t ρ κ) fun b κ1 => if b = true then qt true κ1 else wO (u ρ κ1) qt := by
  unfold mOrT; simp only [wO_bind]; congr 1; funext b κ1; split <;> rfl
def tK (o : Option Bool) (A B : Prop) : Prop := match o with
  | some true => A
  | some false => B
  | none => False
theorem tK_some {b : Bool} {A B : Prop} : tK (some b) A B = if b = true then A else B := by cases b <;> rfl
def bK (o : Option DV) (A B : Prop) : Prop := match o with
  | some (.d (.bool true)) => A
  | some (.d (.bool false)) => B
  | _ => False
theorem bK_some {b : Bool} {A B : Prop} : bK (some (.d (.bool b))) A B = if b = true then A else B := by cases b <;> rfl
theorem bK_le {x y : Int} {A B : Prop} : bK (DL.intD leF κ (.d (.int x)) (.d (.int y))) A B = if x ≤ y then A else B := by
  show bK (some (.d (.bool (decide (x ≤ y))))) A B = _
  rw [bK_some]; simp
theorem bK_lt {x y : Int} {A B : Prop} : bK (DL.intD ltF κ (.d (.int x)) (.d (.int y))) A B = if x < y then A else B := by
  show bK (some (.d (.bool (decide (x < y))))) A B = _
  rw [bK_some]; simp
theorem wAnd : wO (mAnd a b ρ κ) q = wO (a ρ κ) fun x κ1 => tK (truD κ1 x) (wO (b ρ κ1) q) (q x κ1) := by
  unfold mAnd; simp only [wO_bind]; congr 1; funext x κ1
  cases truD κ1 x with
  | none => rfl
  | some b => cases b <;> rfl
theorem wOr : wO (mOr a b ρ κ) q = wO (a ρ κ) fun x κ1 => tK (truD κ1 x) (q x κ1) (wO (b ρ κ1) q) := by
  unfold mOr; simp only [wO_bind]; congr 1; funext x κ1
  cases truD κ1 x with
  | none => rfl
  | some b => cases b <;> rfl
theorem wNotE : wO (mNot a ρ κ) q = wO (a ρ κ) fun x κ1 => match truD κ1 x with
    | some b => q (.d (.bool (!b))) κ1
    | none => False := by
  unfold mNot; simp only [wO_bind]; congr 1; funext x κ1
  cases truD κ1 x <;> rfl
theorem wIfE : wO (mIfE t a b ρ κ) q = wO (t ρ κ) fun z κ1 => if z = true then wO (a ρ κ1) q else wO (b ρ κ1) q := by
  unfold mIfE; simp only [wO_bind]; congr 1; funext b κ1; split <;> rfl
theorem wChain : wO (mChain f g a b c ρ κ) q = wO (a ρ κ) fun x κ1 => wO (b ρ κ1) fun y κ2 => bK (f κ2 x (fz y)) (wO (c ρ κ2) fun z κ3 => wO (opt κ3 (g κ3 (fz y) z)) q) (q (.d (.bool false)) κ2) := by
  unfold mChain; simp only [wO_bind]; congr 1; funext x κ1; congr 1; funext y κ2
  cases f κ2 x (fz y) with
  | none => rfl
  | some z => cases z with
    | c i => rfl
    | n xs => rfl
    | d d => cases d with
      | bool b => cases b <;> simp only [bK, wO_bind] <;> rfl
      | _ => rfl
/-! ### statements -/
theorem wNext : wP (mNext ρ κ) Z = Z.nx ρ κ := propext Iff.rfl
theorem wSeq : wP (mSeq s1 s2 ρ κ) Z = wP (s1 ρ κ) { Z with nx := fun ρ κ => wP (s2 ρ κ) Z } := by
  unfold mSeq
  cases s1 ρ κ <;> rfl
theorem wIf : wP (mIf t s1 s2 ρ κ) Z = wO (t ρ κ) fun z κ1 => if z = true then wP (s1 ρ κ1) Z else wP (s2 ρ κ1) Z := by
  unfold mIf; simp only [wP_bind]; congr 1; funext b κ1; split <;> rfl
theorem wSet {i : Nat} : wP (mSet i m ρ κ) Z = wO (m ρ κ) fun x κ1 => Z.nx (ρ.set i (some (fz x))) κ1 := by unfold mSet; simp only [wP_bind]; rfl
theorem wSetC {i : Nat} : wP (mSetC i m ρ κ) Z = wO (m ρ κ) fun x κ1 => match x with
    | .n xs => Z.nx (ρ.set i (some (.c κ1.length))) (κ1 ++ [.lst (xs.map .d)])
    | _ => False := by
  unfold mSetC; simp only [wP_bind]; congr 1; funext x κ1; cases x <;> rfl
theorem wRet : wP (mRet m ρ κ) Z = wO (m ρ κ) Z.rt := by unfold mRet; simp only [wP_bind]; rfl
theorem wDrop : wP (mDrop m ρ κ) Z = wO (m ρ κ) fun _ κ1 => Z.nx ρ κ1 := by unfold mDrop; simp only [wP_bind]; rfl
theorem wAsg {G : MG} : wP (mAsg G m ρ κ) Z = wO (m ρ κ) fun x κ1 => match G (fz x) ρ κ1 with
    | some p => Z.nx p.1 p.2
    | none => False := by
  unfold mAsg; simp only [wP_bind]; congr 1; funext x κ1
  cases G (fz x) ρ κ1 <;> rfl
theorem wPar {i j : Nat} {f1 f2 : Bool} : wP (mPar i j f1 f2 a b ρ κ) Z = wO (a ρ κ) fun x κ1 => wO (b ρ κ1) fun y κ2 => match put f1 x κ2 with
    | some (x', κ3) => match put f2 y κ3 with
      | some (y', κ4) => Z.nx ((ρ.set i (some x')).set j (some y')) κ4
      | none => False
    | none => False := by
  unfold mPar; simp only [wP_bind]; congr 1; funext x κ1; congr 1; funext y κ2
  cases put f1 x κ2 with
  | none => rfl
  | some p =>
    cases p with | mk x' κ3 =>
    dsimp only
    cases put f2 y κ3 with
    | none => rfl
    | some p => rfl
/-! ### loops -/
theorem wFor {src : MI} {G : MG} : wP (mFor src G s ρ κ) Z = wO (src ρ κ) fun ds κ1 => wP (forGo G s ds ρ κ1) Z := by unfold mFor; simp only [wP_bind]
theorem wForNil {G : MG} : wP (forGo G s [] ρ κ) Z = Z.nx ρ κ := propext Iff.rfl
theorem wForCons {G : MG} {d : PyData} {r : List PyData} : wP (forGo G s (d :: r) ρ κ) Z = match G (.d d) ρ κ with
    | none => False
    | some p => wP (s p.1 p.2) { nx := fun ρ κ => wP (forGo G s r ρ κ) Z, ct := fun ρ κ => wP (forGo G s r ρ κ) Z, bk := Z.nx, rt := Z.rt } := by
  rw [forGo]
  cases G (.d d) ρ κ with
  | none => rfl
  | some p =>
    cases p with | mk ρ1 κ1 =>
    dsimp only
    cases s ρ1 κ1 <;> rfl
/-- a loop by an invariant over the elements still to come -/
theorem wForI {G : MG} (I : List PyData → Rho → Kap → Prop) : ∀ (ds : List PyData) (ρ : Rho) (κ : Kap), I ds ρ κ → (∀ ρ κ, I [] ρ κ → Z.nx ρ κ) →
    (∀ d r ρ κ, I (d :: r) ρ κ → match G (.d d) ρ κ with
      | none => False
      | some p => wP (s p.1 p.2) { nx := fun ρ κ => I r ρ κ, ct := fun ρ κ => I r ρ κ, bk := Z.nx, rt := Z.rt }) → wP (forGo G s ds ρ κ) Z
  | [], ρ, κ, h, h0, _ => h0 ρ κ h
  | d :: r, ρ, κ, h, h0, h1 => by
    rw [wForCons]
    have h2 := h1 d r ρ κ h
    split at h2
    · exact h2
    · rename_i p e
      exact wP.mono h2 (fun ρ κ i => wForI I r ρ κ i h0 h1) (fun _ _ h => h) (fun ρ κ i => wForI I r ρ κ i h0 h1) (fun _ _ h => h)
theorem wStl {i : Nat} : wP (mStl i s ρ κ) Z = match ρ[i]? with
    | some (some (.c j)) => (match κ[j]? with
      | some (.lst ys) => (match allD ys with
        | some xs => wP (s (ρ.set i (some (.d (.list xs)))) (κ.set j .dead)) Z
        | none => False)
      | _ => False)
    | some (some (.d _)) => wP (s ρ κ) Z
    | _ => False := by
  unfold mStl
  cases h : ρ[i]? with
  | none => rfl
  | some o => cases o with
    | none => rfl
    | some x => cases x with
      | d y => rfl
      | n y => rfl
      | c j =>
        dsimp only
        cases κ[j]? with
        | none => rfl
        | some cl => cases cl with
          | lst ys => dsimp only; cases allD ys <;> rfl
          | _ => rfl
/-! ### comprehensions -/
theorem wLc {src : MI} {G : MG} {vs : List Nat} : wO (mLc src G t m vs ρ κ) q = wO (src ρ κ) fun ds κ1 => wO (lcGo G t m (wipeR ρ vs) ds [] κ1) q := by unfold mLc; simp only [wO_bind]
theorem wYes : wO (mYes ρ κ) qt = qt true κ := propext Iff.rfl
theorem wO_noex : wO (noex o) Q = wO o Q := by cases o <;> rfl
theorem wLcNil {G : MG} {acc : List PyData} : wO (lcGo G t m ρ [] acc κ) q = q (.n acc) κ := propext Iff.rfl
theorem wLcCons {G : MG} {d : PyData} {r acc : List PyData} : wO (lcGo G t m ρ (d :: r) acc κ) q = match G (.d d) ρ κ with
    | none => False
    | some p => wO (t p.1 p.2) fun b κ2 => if b = true then wO (m p.1 κ2) fun y κ3 => match fz y with
        | .d e => acc.length < 1000000 ∧ wO (lcGo G t m ρ r (acc ++ [e]) κ3) q
        | _ => False
      else wO (lcGo G t m ρ r acc κ2) q := by
  rw [lcGo]
  cases G (.d d) ρ κ with
  | none => rfl
  | some p =>
    cases p with | mk ρ1 κ1 =>
    dsimp only
    rw [wO_bind, wO_noex]
    congr 1; funext b κ2
    cases b with
    | false => rfl
    | true =>
      simp only [if_true]
      rw [wO_bind, wO_noex]
      congr 1; funext y κ3
      cases fz y with
      | d e => by_cases h : acc.length < 1000000 <;> simp [h, wO]
      | _ => rfl
/-- a comprehension by an invariant -/
theorem wLcI {G : MG} (I : List PyData → List PyData → Kap → Prop) : ∀ (ds acc : List PyData) (κ : Kap), I ds acc κ → (∀ acc κ, I [] acc κ → q (.n acc) κ) →
    (∀ d r acc κ, I (d :: r) acc κ → match G (.d d) ρ κ with
      | none => False
      | some p => wO (t p.1 p.2) fun b κ2 => if b = true then wO (m p.1 κ2) fun y κ3 => match fz y with
          | .d e => acc.length < 1000000 ∧ I r (acc ++ [e]) κ3
          | _ => False
        else I r acc κ2) → wO (lcGo G t m ρ ds acc κ) q
  | [], acc, κ, h, h0, _ => h0 acc κ h
  | d :: r, acc, κ, h, h0, h1 => by
    rw [wLcCons]
    have h2 := h1 d r acc κ h
    split at h2
    · exact h2
    · rename_i p e
      refine h2.mono fun b κ2 h3 => ?_
      split at h3
      · rename_i hb
        rw [if_pos hb]
        refine h3.mono fun y κ3 h4 => ?_
        split at h4
        · rename_i z ez
          exact ⟨h4.1, wLcI I r _ κ3 h4.2 h0 h1⟩
        · exact h4.elim
      · rename_i hb
        rw [if_neg hb]
        exact wLcI I r _ κ2 h3 h0 h1
/-! ### defs -/
theorem wDef {np nl : Nat} {xs : List DV} (h : xs.length = np) : wO (mDef np nl s xs κ) q = wP (s (rho0 nl xs) κ) { nx := fun ρ κ' => wO (fin κ.length (.nx ρ κ')) q, rt := fun x κ' => wO (fin κ.length (.rt x κ')) q } := by
  unfold mDef
  rw [if_pos h]
  cases s (rho0 nl xs) κ <;> first | rfl | (simp only [fin, wP]; first | rfl | (split <;> rfl))
theorem wDef0 {nl : Nat} : wO (mDef 0 nl s [] κ) q = wP (s (List.replicate nl none) κ) { nx := fun ρ κ' => wO (fin κ.length (.nx ρ κ')) q, rt := fun x κ' => wO (fin κ.length (.rt x κ')) q } := wDef rfl
theorem wDef1 {nl : Nat} {x : DV} : wO (mDef 1 nl s [x] κ) q = wP (s (some x :: List.replicate (nl - 1) none) κ) { nx := fun ρ κ' => wO (fin κ.length (.nx ρ κ')) q, rt := fun x κ' => wO (fin κ.length (.rt x κ')) q } := wDef rfl
theorem wDef2 {nl : Nat} {x y : DV} : wO (mDef 2 nl s [x, y] κ) q = wP (s (some x :: some y :: List.replicate (nl - 2) none) κ) { nx := fun ρ κ' => wO (fin κ.length (.nx ρ κ')) q, rt := fun x κ' => wO (fin κ.length (.rt x κ')) q } := wDef rfl
theorem wDef3 {nl : Nat} {x y z : DV} : wO (mDef 3 nl s [x, y, z] κ) q = wP (s (some x :: some y :: some z :: List.replicate (nl - 3) none) κ) { nx := fun ρ κ' => wO (fin κ.length (.nx ρ κ')) q, rt := fun x κ' => wO (fin κ.length (.rt x κ')) q } := wDef rfl
/-- the cells refer to those below alone -/
def KOk (κ : Kap) : Prop := κ.all (Cell.below κ.length) = true
theorem kok_nil : KOk [] := rfl
theorem allD_map (ds : List PyData) : allD (ds.map .d) = some ds := by
  induction ds with
  | nil => rfl
  | cons d r ih => rw [List.map_cons, allD, ih]; rfl
theorem finX {n : Nat} {x : DV} {κ0 : Kap} {l : Kap} (h : KOk κ0) (hn : n = κ0.length) (hx : ∀ i, x ≠ .c i) : wO (fin n (.rt x (κ0 ++ l))) q = q x κ0 := by
  subst hn
  show wO (if ((κ0 ++ l).take κ0.length).all (Cell.below κ0.length) = true then _ else _) q = _
  rw [List.take_left, if_pos (show κ0.all (Cell.below κ0.length) = true from h)]
  cases x with
  | c i => exact absurd rfl (hx i)
  | _ => rfl
theorem finD {n : Nat} {d : PyData} {κ0 : Kap} {l : Kap} (h : KOk κ0) (hn : n = κ0.length) : wO (fin n (.rt (.d d) (κ0 ++ l))) q = q (.d d) κ0 := finX h hn (by simp)
theorem finN {n : Nat} {d : List PyData} {κ0 : Kap} {l : Kap} (h : KOk κ0) (hn : n = κ0.length) : wO (fin n (.rt (.n d) (κ0 ++ l))) q = q (.n d) κ0 := finX h hn (by simp)
theorem finD0 {n : Nat} {d : PyData} {κ0 : Kap} (h : KOk κ0) (hn : n = κ0.length) : wO (fin n (.rt (.d d) κ0)) q = q (.d d) κ0 := by
  have := finD (q := q) (d := d) (l := []) h hn
  rw [List.append_nil] at this; exact this
theorem finN0 {n : Nat} {d : List PyData} {κ0 : Kap} (h : KOk κ0) (hn : n = κ0.length) : wO (fin n (.rt (.n d) κ0)) q = q (.n d) κ0 := by
  have := finN (q := q) (d := d) (l := []) h hn
  rw [List.append_nil] at this; exact this
theorem finC {n i : Nat} {ds : List PyData} {κ0 l : Kap} (h : KOk κ0) (hn : n = κ0.length) (hi : n ≤ i) (hl : lv (κ0 ++ l) (.c i) = some ds) : wO (fin n (.rt (.c i) (κ0 ++ l))) q = q (.n ds) κ0 := by
  subst hn
  show wO (if ((κ0 ++ l).take κ0.length).all (Cell.below κ0.length) = true then _ else _) q = _
  rw [List.take_left, if_pos (show κ0.all (Cell.below κ0.length) = true from h)]
  rw [if_neg (Nat.not_lt.mpr hi), hl]
  rfl
/-! ### operations on known kinds -/
theorem wAddI {x y : Int} : wO (opt κ (addB κ (.d (.int x)) (.d (.int y)))) q = q (.d (.int (x + y))) κ := propext Iff.rfl
theorem wIf2 {p : Prop} [Decidable p] {z : DV} : wO (opt κ (if p then some z else none)) q = (p ∧ q z κ) := by by_cases h : p <;> simp [h, opt, wO]
theorem wMulI {x y : Int} : wO (opt κ (mulD κ (.d (.int x)) (.d (.int y)))) q = (((-(2 ^ 64) < x ∧ x < 2 ^ 64) ∨ (-(2 ^ 64) < y ∧ y < 2 ^ 64)) ∧ q (.d (.int (x * y))) κ) := wIf2
theorem wIntI {F : Int → Int → Option PyData} {x y : Int} : wO (opt κ (DL.intD F κ (.d (.int x)) (.d (.int y)))) q = match F x y with
    | some d => q (.d d) κ
    | none => False := by
  show wO (opt κ ((F x y).map DV.d)) q = _
  cases F x y <;> rfl
theorem wSubI {x y : Int} : wO (opt κ (subB κ (.d (.int x)) (.d (.int y)))) q = q (.d (.int (x - y))) κ := propext Iff.rfl
theorem wModI {x y : Int} : wO (opt κ (DL.intD modF κ (.d (.int x)) (.d (.int y)))) q = (0 < y ∧ q (.d (.int (x % y))) κ) := by
  rw [wIntI]; unfold modF; by_cases h : 0 < y <;> simp [h]
theorem wFdivI {x y : Int} : wO (opt κ (DL.intD fdivF κ (.d (.int x)) (.d (.int y)))) q = ((0 < y ∧ y < 18446744073709551616) ∧ q (.d (.int (x / y))) κ) := by
  rw [wIntI]; unfold fdivF; by_cases h : 0 < y ∧ y < 18446744073709551616 <;> simp [h]
theorem wPowI {x y : Int} : wO (opt κ (DL.intD powF κ (.d (.int x)) (.d (.int y)))) q = ((0 ≤ y ∧ y ≤ 1000000 ∧ x.natAbs < 2 ^ 64) ∧ q (.d (.int (x ^ y.toNat))) κ) := by
  rw [wIntI]; unfold powF; by_cases h : 0 ≤ y ∧ y ≤ 1000000 ∧ x.natAbs < 2 ^ 64 <;> simp [h]
theorem wLtI {x y : Int} : wO (opt κ (DL.intD ltF κ (.d (.int x)) (.d (.int y)))) q = q (.d (.bool (decide (x < y)))) κ := propext Iff.rfl
theorem wLeI {x y : Int} : wO (opt κ (DL.intD leF κ (.d (.int x)) (.d (.int y)))) q = q (.d (.bool (decide (x ≤ y)))) κ := propext Iff.rfl
theorem wGtI {x y : Int} : wO (opt κ (DL.intD gtF κ (.d (.int x)) (.d (.int y)))) q = q (.d (.bool (decide (y < x)))) κ := propext Iff.rfl
theorem wGeI {x y : Int} : wO (opt κ (DL.intD geF κ (.d (.int x)) (.d (.int y)))) q = q (.d (.bool (decide (y ≤ x)))) κ := propext Iff.rfl
/-! ### the box -/
abbrev bx (a b c : Int) : Cell := .lst [.d (.int a), .d (.int b), .d (.int c)]
theorem ixB0 {j : Nat} {a b c : Int} (hj : j < κ.length) : ixD (κ.set j (bx a b c)) (.c j) (.d (.int 0)) = some (.d (.int a)) := by
  unfold ixD
  simp only [List.getElem?_set_self hj]
  rfl
theorem ixB1 {j : Nat} {a b c : Int} (hj : j < κ.length) : ixD (κ.set j (bx a b c)) (.c j) (.d (.int 1)) = some (.d (.int b)) := by
  unfold ixD
  simp only [List.getElem?_set_self hj]
  rfl
theorem ixB2 {j : Nat} {a b c : Int} (hj : j < κ.length) : ixD (κ.set j (bx a b c)) (.c j) (.d (.int 2)) = some (.d (.int c)) := by
  unfold ixD
  simp only [List.getElem?_set_self hj]
  rfl
theorem subB0 {j : Nat} {a b c z : Int} (hj : j < κ.length) : bSub (mVar 0) (mC (.int 0)) (.d (.int z)) (some (.c j) :: ρ) (κ.set j (bx a b c)) = some (some (.c j) :: ρ, κ.set j (bx z b c)) := by
  unfold bSub
  simp only [mVar, mC, List.getElem?_cons_zero, List.getElem?_set_self hj]
  show some (some (DV.c j) :: ρ, (κ.set j (bx a b c)).set j (bx z b c)) = _
  rw [List.set_set]
theorem subB2 {j : Nat} {a b c z : Int} (hj : j < κ.length) : bSub (mVar 0) (mC (.int 2)) (.d (.int z)) (some (.c j) :: ρ) (κ.set j (bx a b c)) = some (some (.c j) :: ρ, κ.set j (bx a b z)) := by
  unfold bSub
  simp only [mVar, mC, List.getElem?_cons_zero, List.getElem?_set_self hj]
  show some (some (DV.c j) :: ρ, (κ.set j (bx a b c)).set j (bx a b z)) = _
  rw [List.set_set]
theorem KOk.set {j : Nat} {a b c : Int} (h : KOk κ) : KOk (κ.set j (bx a b c)) := by
  unfold KOk at *
  rw [List.length_set, List.all_eq_true] at *
  intro cl m
  rcases List.mem_or_eq_of_mem_set m with m | rfl
  · exact h cl m
  · rfl
end
end DL

namespace DL
open L2 PyProof.Rows PySem PySem.Spec
section
variable {α β : Type} {Q R : α → Kap → Prop} {o : Out α} {ρ : Rho} {κ : Kap} {Z Z' : Po} {m a b c : ME} {f g : Kap → DV → DV → Option DV} {q : DV → Kap → Prop} {t u : MT} {qt : Bool → Kap → Prop} {s s1 s2 : MS} {ma : MA} {qa : List DV → Kap → Prop} {qi : List PyData → Kap → Prop} {qo : Option Int → Kap → Prop}
theorem wOpt0 : wO (opt κ none) q = False := propext Iff.rfl
theorem wSl {f : Kap → DV → Option Int → Option Int → Option DV} {l h : MO} : wO (mSl f a l h ρ κ) q = wO (a ρ κ) fun x κ1 => wO (l ρ κ1) fun lo κ2 => wO (h ρ κ2) fun hi κ3 => wO (opt κ3 (f κ3 x lo hi)) q := by
  unfold mSl; simp only [wO_bind]
theorem wNoP : wO (mNoP ρ κ) qo = qo none κ := propext Iff.rfl
theorem wPt : wO (mPt m ρ κ) qo = wO (m ρ κ) fun x κ1 => match x with
    | .d (.int i) => qo (some i) κ1
    | _ => False := by
  unfold mPt; simp only [wO_bind]; congr 1; funext x κ1
  cases x with
  | d y => cases y <;> rfl
  | c i => rfl
  | n xs => rfl
theorem wSlL {ds : List PyData} {lo hi : Option Int} : wO (opt κ (slD κ (.d (.list ds)) lo hi)) q = q (.n (cutD ds lo hi)) κ := propext Iff.rfl
theorem wSlN {ds : List PyData} {lo hi : Option Int} : wO (opt κ (slD κ (.n ds) lo hi)) q = q (.n (cutD ds lo hi)) κ := propext Iff.rfl
theorem wSlT {ds : List PyData} {lo hi : Option Int} : wO (opt κ (slD κ (.d (.tuple ds)) lo hi)) q = q (.d (.tuple (cutD ds lo hi))) κ := propext Iff.rfl
theorem wSlS {x : Str} {lo hi : Option Int} : wO (opt κ (slD κ (.d (.str x)) lo hi)) q = (x.length ≤ 16000000 ∧ q (.d (.str (cutS x lo hi))) κ) := wIf2
theorem wRng1 : wO (mRng1 ma ρ κ) qi = wO (ma ρ κ) fun xs κ1 => match xs with
    | [.d (.int j)] => (-(2 ^ 62) ≤ j ∧ j < 2 ^ 62) ∧ qi (rngD 0 j.toNat) κ1
    | _ => False := by
  unfold mRng1; simp only [wO_bind]; congr 1; funext x κ1
  rcases x with _ | ⟨x, _ | ⟨y, r⟩⟩
  · rfl
  · cases x with
    | d y =>
      cases y with
      | int j =>
        dsimp only
        by_cases h : -(2 ^ 62) ≤ j ∧ j < 2 ^ 62
        · rw [if_pos h]; exact propext ⟨fun z => ⟨h, z⟩, fun z => z.2⟩
        · rw [if_neg h]; exact propext ⟨fun z => z.elim, fun z => h z.1⟩
      | _ => rfl
    | c i => rfl
    | n xs => rfl
  · cases x with
    | d y => cases y <;> rfl
    | c i => rfl
    | n xs => rfl
theorem wSrcA : wO (mSrcA m ρ κ) qi = wO (m ρ κ) fun x κ1 => match x with
    | .d (.list xs) => qi xs κ1
    | .n xs => qi xs κ1
    | .d (.tuple xs) => qi xs κ1
    | _ => False := by
  unfold mSrcA; simp only [wO_bind]; congr 1; funext x κ1
  cases x with
  | d y => cases y <;> rfl
  | c i => rfl
  | n xs => rfl
theorem wSrcS : wO (mSrcS m ρ κ) qi = wO (m ρ κ) fun x κ1 => match x with
    | .d (.str x) => qi (chars x) κ1
    | _ => False := by
  unfold mSrcS; simp only [wO_bind]; congr 1; funext x κ1
  cases x with
  | d y => cases y <;> rfl
  | c i => rfl
  | n xs => rfl
theorem wIsI {T : String} : wO (mIsI T m ρ κ) q = wO (m ρ κ) fun x κ1 => isCell κ1 x = true ∧ q (.d (.bool (isT T (dvD x)))) κ1 := by
  unfold mIsI; simp only [wO_bind]; congr 1; funext x κ1
  by_cases h : isCell κ1 x = true <;> simp [h, wO]
theorem wIsI2 {T U : String} : wO (mIsI2 T U m ρ κ) q = wO (m ρ κ) fun x κ1 => isCell κ1 x = true ∧ q (.d (.bool (isT T (dvD x) || isT U (dvD x)))) κ1 := by
  unfold mIsI2; simp only [wO_bind]; congr 1; funext x κ1
  by_cases h : isCell κ1 x = true <;> simp [h, wO]
theorem wCm {F : List DV → List DV → Option (DV × List DV)} : wO (mCm F m ma ρ κ) q = wO (m ρ κ) fun x κ1 => match x with
    | .c i => (match κ1[i]? with
      | some (.lst _) => wO (ma ρ κ1) fun xs κ2 => match κ2[i]? with
        | some (.lst ys) => (match F ys xs with
          | some p => q p.1 (κ2.set i (.lst p.2))
          | none => False)
        | _ => False
      | _ => False)
    | _ => False := by
  unfold mCm; simp only [wO_bind]; congr 1; funext x κ1
  cases x with
  | d y => rfl
  | n y => rfl
  | c i =>
    dsimp only
    cases κ1[i]? with
    | none => rfl
    | some cl => cases cl with
      | dead => rfl
      | dic _ => rfl
      | lst _ =>
        dsimp only
        simp only [wO_bind]
        congr 1; funext xs κ2
        cases κ2[i]? with
        | none => rfl
        | some cl => cases cl with
          | dead => rfl
          | dic _ => rfl
          | lst ys =>
            dsimp only
            cases F ys xs <;> rfl
theorem wMs {F : Kap → Str → List DV → Option DV} : wO (mMs F m ma ρ κ) q = wO (m ρ κ) fun x κ1 => match x with
    | .d (.str y) => wO (ma ρ κ1) fun xs κ2 => wO (opt κ2 (F κ2 y xs)) q
    | _ => False := by
  unfold mMs; simp only [wO_bind]; congr 1; funext x κ1
  cases x with
  | d y => cases y <;> first | (simp only [wO_bind]; done) | rfl
  | c i => rfl
  | n xs => rfl
theorem wRev : wO (mRev m ρ κ) q = wO (m ρ κ) fun x κ1 => match lvS κ1 x with
    | some xs => q (.n xs.reverse) κ1
    | none => False := by
  unfold mRev; simp only [wO_bind]; congr 1; funext x κ1
  cases lvS κ1 x <;> rfl
theorem wCallK {ix : List Nat} {n : Nat} {M : MF} : wO (mCallK ix n M ma ρ κ) q = wO (ma ρ κ) fun xs κ1 => xs.length = n ∧ wO (M (perm ix xs) κ1) q := by
  unfold mCallK; simp only [wO_bind]; congr 1; funext x κ1
  by_cases h : x.length = n <;> simp [h, wO]
/-! ### lengths, items -/
theorem wLenL {ds : List PyData} : wO (opt κ (lenD κ [.d (.list ds)])) q = q (.d (.int ds.length)) κ := propext Iff.rfl
theorem wLenT {ds : List PyData} : wO (opt κ (lenD κ [.d (.tuple ds)])) q = q (.d (.int ds.length)) κ := propext Iff.rfl
theorem wLenS {x : Str} : wO (opt κ (lenD κ [.d (.str x)])) q = (x.length ≤ 16000000 ∧ q (.d (.int x.length)) κ) := wIf2
theorem atI_mem {γ : Type} {xs : List γ} {i : Int} (h0 : 0 ≤ i) (h1 : i < xs.length) : ∃ x, atI xs i = some x ∧ xs[i.toNat]? = some x ∧ x ∈ xs := by
  have h2 : i.toNat < xs.length := by omega
  refine ⟨xs[i.toNat], ?_, List.getElem?_eq_getElem h2, List.getElem_mem h2⟩
  unfold atI ixN
  rw [if_pos h0, if_pos h1]
  exact List.getElem?_eq_getElem h2
theorem wIxL {ds : List PyData} {i : Int} (h0 : 0 ≤ i) (h1 : i < ds.length) (h : ∀ x ∈ ds, q (.d x) κ) : wO (opt κ (ixD κ (.d (.list ds)) (.d (.int i)))) q := by
  obtain ⟨x, e, _, hm⟩ := atI_mem h0 h1
  show wO (opt κ ((atI ds i).map DV.d)) q
  rw [e]; exact h x hm
theorem wIxN {ds : List PyData} {i : Int} (h0 : 0 ≤ i) (h1 : i < ds.length) (h : ∀ x ∈ ds, q (.d x) κ) : wO (opt κ (ixD κ (.n ds) (.d (.int i)))) q := by
  obtain ⟨x, e, _, hm⟩ := atI_mem h0 h1
  show wO (opt κ ((atI ds i).map DV.d)) q
  rw [e]; exact h x hm
theorem wIxT {ds : List PyData} {i : Int} (h0 : 0 ≤ i) (h1 : i < ds.length) (h : ∀ x ∈ ds, q (.d x) κ) : wO (opt κ (ixD κ (.d (.tuple ds)) (.d (.int i)))) q := by
  obtain ⟨x, e, _, hm⟩ := atI_mem h0 h1
  show wO (opt κ ((atI ds i).map DV.d)) q
  rw [e]; exact h x hm
theorem wIxS {x : Str} {i : Int} (hl : x.length ≤ 16000000) (h0 : 0 ≤ i) (h1 : i < x.length) (h : ∀ c ∈ x.cps.toList, q (.d (.str ⟨#[c]⟩)) κ) : wO (opt κ (ixD κ (.d (.str x)) (.d (.int i)))) q := by
  have h1 : i < x.cps.toList.length := by rw [Array.length_toList]; exact h1
  obtain ⟨c, e, _, hm⟩ := atI_mem h0 h1
  show wO (opt κ (if x.length ≤ 16000000 then (atI x.cps.toList i).map fun c => DV.d (.str ⟨#[c]⟩) else none)) q
  rw [if_pos hl, e]; exact h c hm
theorem cutD_mem {xs : List PyData} {lo hi : Option Int} : ∀ x ∈ cutD xs lo hi, x ∈ xs := fun x h => List.mem_of_mem_drop (List.mem_of_mem_take h)
theorem cutD_len {xs : List PyData} {lo hi : Option Int} : (cutD xs lo hi).length ≤ xs.length := by
  unfold cutD; rw [List.length_take, List.length_drop]; omega
theorem cutD_len2 {xs : List PyData} {lo : Option Int} {k : Int} (h : 0 ≤ k) : (cutD xs lo (some k)).length ≤ k.toNat := by
  unfold cutD; rw [List.length_take]
  have : HT.sIx xs.length xs.length (some k) ≤ k.toNat := by
    show (if k < 0 then _ else _) ≤ _
    rw [if_neg (by omega)]; exact Nat.min_le_left _ _
  omega
/-! ### equality of known kinds -/
theorem wEqI {x y : Int} : wO (opt κ (eqD κ (.d (.int x)) (.d (.int y)))) q = q (.d (.bool (x == y))) κ := by
  have : eqD κ (.d (.int x)) (.d (.int y)) = some (.d (.bool (x == y))) := by
    unfold eqD eqDV dat
    simp [PyData.hasDict, PyData.depth, PyData.eqv]
  rw [this]; exact propext Iff.rfl
theorem wNeI {x y : Int} : wO (opt κ (neD κ (.d (.int x)) (.d (.int y)))) q = q (.d (.bool (!(x == y)))) κ := by
  have : neD κ (.d (.int x)) (.d (.int y)) = some (.d (.bool (!(x == y)))) := by
    unfold neD eqDV dat
    simp [PyData.hasDict, PyData.depth, PyData.eqv]
  rw [this]; exact propext Iff.rfl
theorem wIntT {d : PyData} : wO (opt κ (cal1 intF κ [.d d])) q = match d with
    | .int i => q (.d (.int i)) κ
    | .bool b => q (.d (.int (if b then 1 else 0))) κ
    | _ => False := by
  cases d <;> exact propext Iff.rfl
theorem wTupleN {ds : List PyData} : wO (opt κ (tupleD κ [.d (.list ds)])) q = q (.d (.tuple ds)) κ := propext Iff.rfl
theorem wMin2 {x y : Int} : wO (opt κ (min2D κ [.d (.int x), .d (.int y)])) q = q (.d (.int (if y < x then y else x))) κ := propext Iff.rfl
theorem wAddNN {x y : List PyData} : wO (opt κ (addB κ (.n x) (.n y))) q = (x.length + y.length ≤ 16000000 ∧ q (.n (x ++ y)) κ) := wIf2
theorem wAddLN {x y : List PyData} : wO (opt κ (addB κ (.d (.list x)) (.n y))) q = (x.length + y.length ≤ 16000000 ∧ q (.n (x ++ y)) κ) := wIf2
theorem wAddNL {x y : List PyData} : wO (opt κ (addB κ (.n x) (.d (.list y)))) q = (x.length + y.length ≤ 16000000 ∧ q (.n (x ++ y)) κ) := wIf2
theorem wAddLL {x y : List PyData} : wO (opt κ (addB κ (.d (.list x)) (.d (.list y)))) q = (x.length + y.length ≤ 16000000 ∧ q (.n (x ++ y)) κ) := wIf2
theorem wAddTT {x y : List PyData} : wO (opt κ (addB κ (.d (.tuple x)) (.d (.tuple y)))) q = (x.length + y.length ≤ 16000000 ∧ q (.d (.tuple (x ++ y))) κ) := wIf2
theorem wAddSS {x y : Str} : wO (opt κ (addB κ (.d (.str x)) (.d (.str y)))) q = (x.length + y.length ≤ 16000000 ∧ q (.d (.str (x ++ y))) κ) := wIf2
theorem wMulN {x : List PyData} {k : Int} : wO (opt κ (mulD κ (.n x) (.d (.int k)))) q = ((-1000000 ≤ k ∧ k ≤ 1000000 ∧ x.length * k.toNat ≤ 16000000) ∧ q (.n (List.replicate k.toNat x).flatten) κ) := wIf2
theorem wMulT {x : List PyData} {k : Int} : wO (opt κ (mulD κ (.d (.tuple x)) (.d (.int k)))) q = ((-1000000 ≤ k ∧ k ≤ 1000 ∧ x.length ≤ 1000) ∧ q (.d (.tuple (List.replicate k.toNat x).flatten)) κ) := wIf2
theorem wMulS {x : Str} {k : Int} : wO (opt κ (mulD κ (.d (.str x)) (.d (.int k)))) q = ((-1000000 ≤ k ∧ k ≤ 1000000 ∧ x.length * k.toNat ≤ 16000000) ∧ q (.d (.str (repS x k.toNat))) κ) := wIf2
end
/-! ### the state of a function with a box and cells of its own -/
theorem set_app {κ l : Kap} {j : Nat} (hj : j < κ.length) (x : Cell) : κ.set j x ++ l = (κ ++ l).set j x := (List.set_append_left _ _ hj).symm
theorem KOk.app {κ : Kap} (h : KOk κ) (ds : List PyData) : KOk (κ ++ [.lst (ds.map .d)]) := by
  unfold KOk at *
  rw [List.all_append, Bool.and_eq_true]
  refine ⟨?_, ?_⟩
  · rw [List.all_eq_true] at *
    intro cl m
    have h1 := h cl m
    cases cl with
    | dead => rfl
    | lst xs =>
      have h1 : xs.all (DV.below κ.length) = true := h1
      show xs.all (DV.below (κ ++ _).length) = true
      rw [List.all_eq_true] at *
      intro x m
      have := h1 x m
      cases x with
      | d _ => rfl
      | n _ => exact this
      | c i =>
        have h2 : i < κ.length := of_decide_eq_true this
        exact decide_eq_true (by rw [List.length_append]; omega)
    | dic xs =>
      have h1 : (xs.all fun p => p.2.below κ.length) = true := h1
      show (xs.all fun p => p.2.below (κ ++ _).length) = true
      rw [List.all_eq_true] at *
      intro x m
      have := h1 x m
      cases e : x.2 with
      | d _ => rfl
      | n _ => rw [e] at this; exact this
      | c i =>
        rw [e] at this
        have h2 : i < κ.length := of_decide_eq_true this
        exact decide_eq_true (by rw [List.length_append]; omega)
  · rw [List.all_cons, List.all_nil, Bool.and_true]
    show (ds.map DV.d).all (DV.below _) = true
    rw [List.all_map, List.all_eq_true]
    intro x m
    rfl
theorem get_last {κ : Kap} {j : Nat} {x y : Cell} (hj : j < κ.length) : ((κ ++ [y]).set j x)[κ.length]? = some y := by
  rw [List.getElem?_set_ne (by omega), List.getElem?_append_right (Nat.le_refl _), Nat.sub_self]; rfl
theorem set_last {κ : Kap} {j : Nat} {x y z : Cell} (hj : j < κ.length) : ((κ ++ [y]).set j x).set κ.length z = (κ ++ [z]).set j x := by
  rw [← set_app hj, ← set_app hj]
  have : κ.length = (κ.set j x).length := by rw [List.length_set]
  rw [this, List.set_append_right _ _ (Nat.le_refl _), Nat.sub_self]; rfl
abbrev cl (ds : List PyData) : Cell := Cell.lst (ds.map .d)
theorem finL {κ : Kap} {j : Nat} {a b c : Int} {ds : List PyData} {q : DV → Kap → Prop} (hj : j < κ.length) (hk : KOk κ) : wO (fin κ.length (.rt (.c κ.length) ((κ ++ [cl ds]).set j (bx a b c)))) q = q (.n ds) (κ.set j (bx a b c)) := by
  rw [← set_app hj, finC (ds := ds) hk.set (by simp) (Nat.le_refl _) (by
      rw [set_app hj]
      unfold lv
      dsimp only
      rw [get_last hj]
      exact allD_map ds)]
theorem finDL {κ : Kap} {j : Nat} {a b c : Int} {l : Kap} {x : PyData} {q : DV → Kap → Prop} (hj : j < κ.length) (hk : KOk κ) : wO (fin κ.length (.rt (.d x) ((κ ++ l).set j (bx a b c)))) q = q (.d x) (κ.set j (bx a b c)) := by
  rw [← set_app hj, finD hk.set (by simp)]
theorem app_w {ds : List PyData} {x : PyData} (h : ds.length < 1000000) : appF (ds.map .d) [.d x] = some (.d .none, (ds ++ [x]).map .d) := by
  show (if (ds.map DV.d).length < 1000000 then some (DV.d PyData.none, ds.map DV.d ++ [DV.d x]) else none) = _
  rw [if_pos (by rw [List.length_map]; exact h), List.map_append]; rfl
/-- a comprehension of draws -/
theorem lcBox {κ : Kap} {j i : Nat} {P : PyData → Prop} {el : ME} {ρ : Rho} {ds : List PyData} {acc : List PyData} {a b c : Int} {Q : DV → Kap → Prop}
    (step : ∀ (d : PyData) (a b c : Int) (q : DV → Kap → Prop), d ∈ ds → (∀ (x : PyData) (a' b' c' : Int), P x → q (.d x) (κ.set j (bx a' b' c'))) → wO (el (ρ.set i (some (.d d))) (κ.set j (bx a b c))) q)
    (hl : acc.length + ds.length ≤ 1000000) (ha : ∀ x ∈ acc, P x) (h : ∀ (ys : List PyData) (a b c : Int), (∀ x ∈ ys, P x) → ys.length = acc.length + ds.length → Q (.n ys) (κ.set j (bx a b c))) :
    wO (lcGo (bName i) mYes el ρ ds acc (κ.set j (bx a b c))) Q := by
  refine wLcI (fun r ac κ1 => ∃ a b c, (∀ x ∈ ac, P x) ∧ ac.length + r.length = acc.length + ds.length ∧ (∀ d ∈ r, d ∈ ds) ∧ κ1 = κ.set j (bx a b c)) _ _ _ ⟨_, _, _, ha, rfl, fun _ m => m, rfl⟩ ?_ ?_
  · rintro ac κ1 ⟨a, b, c, h1, h2, _, rfl⟩
    exact h _ _ _ _ h1 (by simpa using h2)
  · rintro d r ac κ1 ⟨a, b, c, h1, h2, h4, rfl⟩
    rw [List.length_cons] at h2
    simp only [bName, wYes, if_true]
    refine step d a b c _ (h4 d (List.mem_cons_self ..)) fun x a' b' c' hx => ?_
    simp only [fz]
    refine ⟨by omega, a', b', c', fun y m => ?_, by rw [List.length_append, List.length_singleton]; omega, fun d m => h4 d (List.mem_cons_of_mem _ m), rfl⟩
    rcases List.mem_append.mp m with m | m
    · exact h1 y m
    · rw [List.mem_singleton.mp m]; exact hx
theorem rngD_len {lo : Int} {n : Nat} : (rngD lo n).length = n := by simp [rngD]
theorem flat_len {γ : Type} (l : List γ) (n : Nat) : (List.replicate n l).flatten.length = n * l.length := by simp
/-- a comprehension that reads alone -/
theorem lcPure {G : MG} {el : ME} {F : PyData → PyData} {κ : Kap} {ρ : Rho} {Q : DV → Kap → Prop} : ∀ {ds acc : List PyData}, (∀ d ∈ ds, ∃ ρ', G (.d d) ρ κ = some (ρ', κ) ∧ ∀ q : DV → Kap → Prop, q (.d (F d)) κ → wO (el ρ' κ) q) → acc.length + ds.length ≤ 1000000 →
    Q (.n (acc ++ ds.map F)) κ → wO (lcGo G mYes el ρ ds acc κ) Q
  | [], acc, _, _, h => by rw [List.map_nil, List.append_nil] at h; exact h
  | d :: r, acc, hs, hl, h => by
    obtain ⟨ρ', e, st⟩ := hs d (List.mem_cons_self ..)
    rw [List.length_cons] at hl
    rw [wLcCons, e]
    dsimp only
    rw [wYes, if_pos rfl]
    refine st _ ?_
    simp only [fz]
    refine ⟨by omega, lcPure (fun y m => hs y (List.mem_cons_of_mem _ m)) (by rw [List.length_append, List.length_singleton]; omega) ?_⟩
    rw [List.append_assoc]; exact h
end DL

namespace Law
open DL L2 PyProof.Rows PySem PySem.Spec
local macro_rules | `(tactic| walk_at "w") => `(tactic| simp only [wDef0, wDef1, wDef2, wDef3, List.replicate, Nat.reduceSub, wSeq, wIf, wTb, wTr, wBin, wUn, wVar, wC, wCal, wCall, wCallK, wNil, wCons, wConsC, wLst, wTup, wNotT, wAndT, wOrT, wAnd, wOr, wNotE, wIfE, wChain, wNext, wSet, wSetC, wRet, wDrop, wAsg, wPar, wFor, wLc, wYes, wSl, wNoP, wPt, wRng1, wSrcA, wSrcS, wIsI, wIsI2, wCm, wMs, wRev,
  wOpt, tK_some, bK_some, bK_le, bK_lt, wGtI, wLtI, wLeI, wGeI, wModI, wFdivI, wMulI, wAddI, wSubI, wEqI, wNeI, wSlL, wSlN, wSlT, wSlS, wLenL, wLenT, wLenS, wIntT, wTupleN, wMin2, wAddNN, wAddLN, wAddNL, wAddLL, wAddTT, wAddSS, wMulN, wMulT, wMulS, fz_d, fz_n, fz_c, allD, put, truD, bName, bTup, bCons, bNil, wipeR,
  List.getElem?_cons_zero, List.getElem?_cons_succ, List.set_cons_zero, List.set_cons_succ, List.length_set, List.length_cons, List.length_nil, Option.map_some, Option.map_none, if_true, Bool.false_eq_true, if_false, Bool.not_true, Bool.not_false, List.map_cons, List.map_nil, true_and, and_true, Nat.reduceAdd, Nat.reduceLeDiff])
section
variable {κ : Kap} {j N : Nat} {a b c : Int} {Q q : DV → Kap → Prop} {d : PyData}
theorem mb (x M : Int) (h : 0 < M) (h2 : M < 2 ^ 64) : -(2 ^ 64) < x % M ∧ x % M < 2 ^ 64 := by
  have h3 := Int.emod_nonneg x (show M ≠ 0 by omega)
  have h4 := Int.emod_lt_of_pos x h
  omega
/-- a sign's number -/
def isW : PyData → Bool
  | .int i => decide (0 ≤ i ∧ i < 65536)
  | _ => false
theorem isW_int {i : Int} (h0 : 0 ≤ i) (h1 : i < 65536) : isW (.int i) = true := decide_eq_true ⟨h0, h1⟩
abbrev AllW (ds : List PyData) : Prop := ds.all isW = true
theorem AllW.app {x y : List PyData} (h : AllW x) (g : AllW y) : AllW (x ++ y) := by
  unfold AllW at *
  rw [List.all_append, h, g]; rfl
theorem AllW.rep {x : List PyData} (h : AllW x) (n : Nat) : AllW (List.replicate n x).flatten := by
  unfold AllW at *
  rw [List.all_eq_true] at *
  intro y m
  obtain ⟨l, m1, m2⟩ := List.mem_flatten.mp m
  rw [(List.mem_replicate.mp m1).2] at m2
  exact h y m2
theorem AllW.cut {x : List PyData} (h : AllW x) {lo hi : Option Int} : AllW (DL.cutD x lo hi) := by
  unfold AllW at *
  rw [List.all_eq_true] at *
  exact fun y m => h y (cutD_mem y m)
def small (c : Nat) : Bool := decide (97 ≤ c ∧ c ≤ 122)
def plainC (c : Nat) : Bool := decide (32 ≤ c ∧ c ≤ 126 ∧ c ≠ 37)
theorem ofCs (ys : List PyData) (h : ∀ x ∈ ys, ∃ c, x = .str ⟨#[c]⟩ ∧ plainC c = true) : ∃ cs : List Nat, ys = cs.map (fun c => PyData.str ⟨#[c]⟩) ∧ cs.all plainC = true := by
  induction ys with
  | nil => exact ⟨[], rfl, rfl⟩
  | cons x r ih =>
    obtain ⟨cs, e, a⟩ := ih fun y m => h y (List.mem_cons_of_mem _ m)
    obtain ⟨c, e2, a2⟩ := h x (List.mem_cons_self ..)
    exact ⟨c :: cs, by rw [e, e2]; rfl, by rw [List.all_cons, a2, a]; rfl⟩
theorem strs_cs : ∀ cs : List Nat, strsD (cs.map fun c => PyData.str ⟨#[c]⟩) = some (cs.map fun c => (⟨#[c]⟩ : Str))
  | [] => rfl
  | c :: r => by rw [List.map_cons, strsD, strs_cs r]; rfl
theorem sum_cs : ∀ cs : List Nat, ((cs.map fun c => (⟨#[c]⟩ : Str)).map (·.length)).sum = cs.length
  | [] => rfl
  | c :: r => by
    rw [List.map_cons, List.map_cons, List.sum_cons, sum_cs r, List.length_cons]
    show 1 + r.length = r.length + 1
    omega
theorem join_cs (cs : List Nat) : (Txt.join "" (cs.map fun c => (⟨#[c]⟩ : Str))).cps.toList = cs := by
  rw [TL.join_eq]
  refine (TL.tl_join ("" : Str) (cs.map fun c => (⟨#[c]⟩ : Str))).trans ?_
  induction cs with
  | nil => rfl
  | cons c r ih =>
    cases r with
    | nil => rfl
    | cons d q =>
      show [c] ++ ([] ++ TL.joinL _ _) = c :: d :: q
      exact congrArg (c :: ·) ih
theorem join_w {cs : List Nat} {q : DV → Kap → Prop} (hl : cs.length ≤ 16000000) (h : ∀ x : Str, x.cps.toList = cs → q (.d (.str x)) κ) : wO (opt κ (joinF κ "" [.d (.list (cs.map fun c => PyData.str ⟨#[c]⟩))])) q := by
  unfold joinF
  show wO (opt κ (((some (cs.map fun c => PyData.str ⟨#[c]⟩)).bind strsD).bind _)) q
  rw [Option.bind_some, strs_cs, Option.bind_some, if_pos (by rw [sum_cs]; show cs.length + _ * 0 ≤ _; omega)]
  exact h _ (join_cs cs)
def isNm : PyData → Bool
  | .str x => decide (1 ≤ x.length ∧ x.length ≤ 8) && x.cps.toList.all small
  | _ => false
def isPT (n : Nat) : PyData → Bool
  | .str x => decide (x.length ≤ n) && x.cps.toList.all plainC
  | _ => false
mutual
def gd (N : Nat) : PyData → Bool
  | .none => true
  | .bool _ => true
  | .int i => decide (i.natAbs ≤ N)
  | .str x => x.cps.toList.all fun c => decide (c < 128)
  | .list xs => gdAll N xs
  | .tuple xs => gdAll N xs
  | .dict _ => false
def gdAll (N : Nat) : List PyData → Bool
  | [] => true
  | x :: r => gd N x && gdAll N r
end
theorem gdAll_iff {N : Nat} : ∀ {xs : List PyData}, gdAll N xs = true ↔ ∀ x ∈ xs, gd N x = true
  | [] => by simp [gdAll]
  | x :: r => by rw [gdAll, Bool.and_eq_true, gdAll_iff, List.forall_mem_cons]
structure Gd (N W D : Nat) (d : PyData) : Prop where
  g : gd N d = true
  w : d.bulk ≤ W
  p : d.depth ≤ D
theorem bulkAll_le {W : Nat} : ∀ {xs : List PyData}, (∀ x ∈ xs, x.bulk ≤ W) → PyData.bulkAll xs ≤ xs.length * (W + 1)
  | [], _ => Nat.zero_le _
  | x :: r, h => by
    have h1 := h x (List.mem_cons_self ..)
    have h2 := bulkAll_le (W := W) (xs := r) fun y m => h y (List.mem_cons_of_mem _ m)
    rw [PyData.bulkAll, List.length_cons, Nat.succ_mul]
    omega
theorem depthAll_le {D : Nat} : ∀ {xs : List PyData}, (∀ x ∈ xs, x.depth ≤ D) → PyData.depthAll xs ≤ D
  | [], _ => Nat.zero_le _
  | x :: r, h => by
    rw [PyData.depthAll]
    exact Nat.max_le.mpr ⟨h x (List.mem_cons_self ..), depthAll_le fun y m => h y (List.mem_cons_of_mem _ m)⟩
theorem Gd.tup {N W D n : Nat} {xs : List PyData} (h : ∀ x ∈ xs, Gd N W D x) (hn : xs.length ≤ n) : Gd N (n * (W + 1)) (D + 1) (.tuple xs) := by
  refine ⟨?_, ?_, ?_⟩
  · rw [gd]; exact gdAll_iff.mpr fun x m => (h x m).g
  · rw [PyData.bulk]; exact Nat.le_trans (bulkAll_le fun x m => (h x m).w) (Nat.mul_le_mul_right _ hn)
  · rw [PyData.depth]; exact Nat.succ_le_succ (depthAll_le fun x m => (h x m).p)
theorem Gd.more {N W D N' W' D' : Nat} {d : PyData} (h : Gd N W D d) (a : gd N' d = true) (b : W ≤ W') (c : D ≤ D') : Gd N' W' D' d := ⟨a, Nat.le_trans h.w b, Nat.le_trans h.p c⟩
theorem Gd.up {N W D W' D' : Nat} {d : PyData} (h : Gd N W D d) (b : W ≤ W') (c : D ≤ D') : Gd N W' D' d := ⟨h.g, Nat.le_trans h.w b, Nat.le_trans h.p c⟩
theorem Gd.pair {N W D W' D' : Nat} {x y : PyData} (h : Gd N W D x) (h' : Gd N W' D' y) : Gd N (W + 1 + (W' + 1)) (max D D' + 1) (.tuple [x, y]) := by
  refine ⟨?_, ?_, ?_⟩
  · simp [gd, gdAll, h.g, h'.g]
  · have := h.w; have := h'.w
    simp only [PyData.bulk, PyData.bulkAll]; omega
  · have := h.p; have := h'.p
    simp only [PyData.depth, PyData.depthAll]; omega
theorem gd_str {N n : Nat} {x : Str} (h : x.length ≤ n) (a : x.cps.toList.all (fun c => decide (c < 128)) = true) : Gd N n 0 (.str x) := ⟨by rw [gd]; exact a, h, Nat.le_refl _⟩
theorem asc_small {l : List Nat} (h : l.all small = true) : l.all (fun c => decide (c < 128)) = true := by
  rw [List.all_eq_true] at *
  intro c m
  have := of_decide_eq_true (h c m)
  exact decide_eq_true (by omega)
theorem asc_plain {l : List Nat} (h : l.all plainC = true) : l.all (fun c => decide (c < 128)) = true := by
  rw [List.all_eq_true] at *
  intro c m
  have := of_decide_eq_true (h c m)
  exact decide_eq_true (by omega)
theorem gd_nm {N : Nat} {d : PyData} (h : isNm d = true) : Gd N 8 0 d := by
  cases d with
  | str x =>
    rw [isNm, Bool.and_eq_true] at h
    exact gd_str (of_decide_eq_true h.1).2 (asc_small h.2)
  | _ => simp [isNm] at h
theorem gd_pt {N n : Nat} {d : PyData} (h : isPT n d = true) : Gd N n 0 d := by
  cases d with
  | str x =>
    rw [isPT, Bool.and_eq_true] at h
    exact gd_str (of_decide_eq_true h.1) (asc_plain h.2)
  | _ => simp [isPT] at h
theorem gd_w {N : Nat} (hN : 65536 ≤ N) {d : PyData} (h : isW d = true) : Gd N 0 0 d := by
  cases d with
  | int i =>
    have := of_decide_eq_true h
    exact ⟨by rw [gd]; exact decide_eq_true (by omega), Nat.le_refl _, Nat.le_refl _⟩
  | _ => simp [isW] at h
theorem isPT_mono {n m : Nat} (h : n ≤ m) {d : PyData} (e : isPT n d = true) : isPT m d = true := by
  cases d with
  | str x =>
    rw [isPT, Bool.and_eq_true] at *
    exact ⟨decide_eq_true (Nat.le_trans (of_decide_eq_true e.1) h), e.2⟩
  | _ => simp [isPT] at e
theorem tupC (hj : j < κ.length) {acc : List PyData} {x : Cell} : tupleD ((κ ++ [cl acc]).set j x) [.c κ.length] = some (.d (.tuple acc)) := by
  show (lvS _ (.c κ.length)).map _ = _
  have : lvS ((κ ++ [cl acc]).set j x) (.c κ.length) = some acc := by
    unfold lvS lv
    dsimp only
    rw [get_last hj]
    exact allD_map acc
  rw [this]; rfl
theorem cutS_mem {x : Str} {lo hi : Option Int} : ∀ c ∈ (cutS x lo hi).cps.toList, c ∈ x.cps.toList := fun c h => List.mem_of_mem_drop (List.mem_of_mem_take h)
theorem cutS_len {x : Str} {lo : Option Int} {k : Int} (h : 0 ≤ k) : (cutS x lo (some k)).length ≤ k.toNat := by
  show (cutS x lo (some k)).cps.size ≤ _
  rw [← Array.length_toList]
  show ((x.cps.toList.drop _).take _).length ≤ _
  rw [List.length_take]
  have : HT.sIx x.length x.length (some k) ≤ k.toNat := by
    show (if k < 0 then _ else _) ≤ _
    rw [if_neg (by omega)]; exact Nat.min_le_left _ _
  omega
theorem cutS_len2 {x : Str} {lo hi : Option Int} : (cutS x lo hi).length ≤ x.length := by
  show (cutS x lo hi).cps.size ≤ x.cps.size
  rw [← Array.length_toList, ← Array.length_toList]
  show ((x.cps.toList.drop _).take _).length ≤ _
  rw [List.length_take, List.length_drop]; omega
open PySem.Builtin PySem.Builtin.Str in
theorem strSub_len (x : Str) (lo hi : Nat) (h : hi ≤ x.length) : (strSub x lo hi).length = hi - lo := by
  show (x.cps.extract lo hi).size = _
  rw [Array.size_extract]
  have : hi ≤ x.cps.size := h
  omega
open PySem.Builtin PySem.Builtin.Str in
theorem strip_all (x y : Str) : (Txt.stripChars x y).length = 0 ↔ x.cps.toList.all y.cps.contains = true := by
  unfold Txt.stripChars
  rw [stripBy_eq]
  obtain ⟨l1, l2, l3⟩ := lo_facts y.cps.contains x
  obtain ⟨h1, h2, h3, h4⟩ := hi_facts y.cps.contains x _ l1
  rw [strSub_len _ _ _ h2, List.all_eq_true]
  have hn : x.cps.toList.length = x.length := by simp [Str.length]
  constructor
  · intro e c m
    obtain ⟨k, hk, rfl⟩ := List.getElem_of_mem m
    have ek : x.cps.toList[k] = x.cps.getD k 0 := by
      rw [← getD_list, List.getD_eq_getElem?_getD, List.getElem?_eq_getElem hk]; rfl
    rw [ek]
    by_cases g : k < stripLo y.cps.contains true x
    · exact l2 k g
    · exact h3 k (by omega) (by omega)
  · intro ha
    rcases l3 with l3 | l3
    · omega
    · by_cases g : stripLo y.cps.contains true x < x.length
      · exfalso
        have hk : stripLo y.cps.contains true x < x.cps.toList.length := by omega
        have := ha _ (List.getElem_mem hk)
        rw [← getD_list, List.getD_eq_getElem?_getD, List.getElem?_eq_getElem hk] at l3
        rw [show (some x.cps.toList[stripLo y.cps.contains true x]).getD 0 = x.cps.toList[stripLo y.cps.contains true x] from rfl] at l3
        rw [this] at l3; cases l3
      · omega
theorem wEqS {x y : Str} : wO (opt κ (eqD κ (.d (.str x)) (.d (.str y)))) q = q (.d (.bool (x == y))) κ := by
  have : eqD κ (.d (.str x)) (.d (.str y)) = some (.d (.bool (x == y))) := by
    unfold eqD eqDV dat
    simp [PyData.hasDict, PyData.depth, PyData.eqv]
  rw [this]; exact propext Iff.rfl
theorem all_w {ds : List PyData} {P : PyData → Bool} (h : q (.d (.bool (ds.all P))) κ) : wO (opt κ (lstD allF κ [.d (.list (ds.map fun d => PyData.bool (P d)))])) q := by
  have e : boolsD (ds.map fun d => PyData.bool (P d)) = some (ds.map P) := by
    induction ds with
    | nil => rfl
    | cons d r ih =>
      rw [List.map_cons, boolsD]
      have : boolsD (r.map fun d => PyData.bool (P d)) = some (r.map P) := by
        clear h ih
        induction r with
        | nil => rfl
        | cons d r ih => rw [List.map_cons, boolsD, ih]; rfl
      rw [this]; rfl
  show wO (opt κ ((allF (ds.map fun d => PyData.bool (P d))).map DV.d)) q
  unfold allF
  rw [e]
  show q (.d (.bool ((ds.map P).all id))) κ
  rw [List.all_map]
  exact h
theorem lcAll {G : MG} {el : ME} {ρ : Rho} {ds : List PyData} {P : PyData → Bool} (step : ∀ d ∈ ds, ∃ ρ', G (.d d) ρ κ = some (ρ', κ) ∧ ∀ q : DV → Kap → Prop, q (.d (.bool (P d))) κ → wO (el ρ' κ) q) (hl : ds.length ≤ 1000000)
    (h : q (.d (.bool (ds.all P))) κ) : wO (lcGo G mYes el ρ ds [] κ) fun x κ1 => wO (opt κ1 (lstD allF κ1 [fz x])) q := by
  refine lcPure (F := fun d => .bool (P d)) step (by rw [List.length_nil]; omega) ?_
  rw [List.nil_append]
  exact all_w h
theorem lcChars {i : Nat} {el : ME} {ρ : Rho} {x : Str} {P : Nat → Bool} (step : ∀ c ∈ x.cps.toList, ∀ q : DV → Kap → Prop, q (.d (.bool (P c))) κ → wO (el (ρ.set i (some (.d (.str ⟨#[c]⟩)))) κ) q) (hl : x.length ≤ 1000000)
    (h : q (.d (.bool (x.cps.toList.all P))) κ) : wO (lcGo (bName i) mYes el ρ (chars x) [] κ) fun x κ1 => wO (opt κ1 (lstD allF κ1 [fz x])) q := by
  refine lcAll (P := fun d => match d with | .str x => P (x.cps.getD 0 0) | _ => false) (fun d m => ?_) (by rw [chars, List.length_map, Array.length_toList]; exact hl) ?_
  · obtain ⟨c, mc, rfl⟩ := List.mem_map.mp m
    exact ⟨_, rfl, step c mc⟩
  · rw [chars, List.all_map]; exact h
theorem isCell_gd (h : gd N d = true) : isCell κ (.d d) = true := by
  cases d with
  | dict _ => simp [gd] at h
  | _ => rfl
def isNum : PyData → Bool
  | .int _ => true
  | _ => false
def isIn (lo hi : Int) : PyData → Bool
  | .int i => decide (lo ≤ i) && decide (i ≤ hi)
  | _ => false
def isTup (n : Nat) : PyData → Bool
  | .tuple ds => decide (ds.length = n)
  | _ => false
theorem beq_cast (a b : Nat) : ((a : Int) == (b : Int)) = decide (a = b) := by
  by_cases h : a = b
  · subst h; simp
  · rw [decide_eq_false h, beq_eq_false_iff_ne]; omega
def isSh (lo hi : Int) : PyData → Bool
  | .tuple ds => decide (lo ≤ (ds.length : Int)) && decide ((ds.length : Int) ≤ hi)
  | _ => false
theorem small_mem (c : Nat) : decide (c ∈ ("abcdefghijklmnopqrstuvwxyz" : Str).cps.toList) = small c := by
  rw [show ("abcdefghijklmnopqrstuvwxyz" : Str).cps.toList = (List.range 26).map (· + 97) by decide +kernel]
  unfold small
  refine decide_eq_decide.mpr ⟨fun m => ?_, fun m => ?_⟩
  · obtain ⟨i, hi, rfl⟩ := List.mem_map.mp m
    have := List.mem_range.mp hi
    omega
  · exact List.mem_map.mpr ⟨c - 97, List.mem_range.mpr (by omega), by omega⟩
theorem len_bulk {xs : List PyData} : xs.length ≤ PyData.bulkAll xs := by
  induction xs with
  | nil => exact Nat.zero_le _
  | cons x r ih => rw [List.length_cons, PyData.bulkAll]; omega
theorem mem_bulk {xs : List PyData} {x : PyData} (m : x ∈ xs) : x.bulk < PyData.bulkAll xs := by
  induction xs with
  | nil => cases m
  | cons y r ih =>
    rw [PyData.bulkAll]
    rcases List.mem_cons.mp m with rfl | m
    · omega
    · have := ih m; omega
theorem gd_mem {xs : List PyData} (h : gd N (.tuple xs) = true) {x : PyData} (m : x ∈ xs) : gd N x = true := by
  rw [gd] at h; exact gdAll_iff.mp h x m
theorem isIn_W {x : PyData} : isIn 0 65535 x = isW x := by
  cases x with
  | int i =>
    rw [isIn, isW, ← Bool.decide_and]
    exact decide_eq_decide.mpr ⟨fun h => by omega, fun h => by omega⟩
  | _ => rfl
theorem isTup_two {x : PyData} (h : isTup 2 x = true) : ∃ a b, x = .tuple [a, b] := by
  cases x with
  | tuple ds =>
    have h := of_decide_eq_true h
    match ds, h with
    | [a, b], _ => exact ⟨a, b, rfl⟩
  | _ => simp [isTup] at h
theorem ix0 {x y : PyData} : ixD κ (.d (.tuple [x, y])) (.d (.int 0)) = some (.d x) := rfl
theorem ix1 {x y : PyData} : ixD κ (.d (.tuple [x, y])) (.d (.int 1)) = some (.d y) := rfl
theorem asc_of {x : Str} (h : gd N (.str x) = true) : x.cps.toList.all (fun c => decide (c < 128)) = true := by rw [gd] at h; exact h
theorem pair_bulk {x y : PyData} (h : (PyData.tuple [x, y]).bulk ≤ 1000000) : x.bulk ≤ 1000000 ∧ y.bulk ≤ 1000000 := by
  simp only [PyData.bulk, PyData.bulkAll] at h; omega
theorem tup_bulk {xs : List PyData} (h : (PyData.tuple xs).bulk ≤ 1000000) {x : PyData} (m : x ∈ xs) : x.bulk ≤ 1000000 := by
  have := mem_bulk m
  have h : PyData.bulkAll xs ≤ 1000000 := h
  omega
theorem strip_mem (x y : Str) : ∀ c ∈ (Txt.stripChars x y).cps.toList, c ∈ x.cps.toList := by
  unfold Txt.stripChars
  rw [stripBy_eq]
  intro c m
  have m : c ∈ (x.cps.extract _ _).toList := m
  rw [Array.toList_extract] at m
  exact List.mem_of_mem_drop (List.mem_of_mem_take m)
theorem small_con (c : Nat) : ("abcdefghijklmnopqrstuvwxyz" : Str).cps.contains c = small c := by
  rw [← small_mem]
  by_cases h : c ∈ ("abcdefghijklmnopqrstuvwxyz" : Str).cps.toList
  · rw [decide_eq_true h]
    exact Array.contains_iff_mem.mpr (Array.mem_toList_iff.mp h)
  · rw [decide_eq_false h, Bool.eq_false_iff]
    exact fun z => h (Array.mem_toList_iff.mpr (Array.contains_iff_mem.mp z))
theorem empty_beq (z : Str) : (z == ("" : Str)) = decide (z.length = 0) := by
  by_cases h : z.length = 0
  · rw [decide_eq_true h]
    obtain ⟨a⟩ := z
    have : a = #[] := Array.eq_empty_of_size_eq_zero h
    subst this; decide +kernel
  · rw [decide_eq_false h, beq_eq_false_iff_ne]
    intro e; exact h (by rw [e]; decide +kernel)
theorem plain_mem (c : Nat) : decide (c ∈ (" !\"#$&'()*+,-./0123456789:;<=>?@ABCDEFGHIJKLMNOPQRSTUVWXYZ[\\]^_`abcdefghijklmnopqrstuvwxyz{|}~" : Str).cps.toList) = plainC c := by
  rw [show (" !\"#$&'()*+,-./0123456789:;<=>?@ABCDEFGHIJKLMNOPQRSTUVWXYZ[\\]^_`abcdefghijklmnopqrstuvwxyz{|}~" : Str).cps.toList = (List.range 127).filter plainC by decide +kernel]
  cases e : plainC c with
  | true =>
    have h : 32 ≤ c ∧ c ≤ 126 ∧ c ≠ 37 := of_decide_eq_true e
    exact decide_eq_true (List.mem_filter.mpr ⟨List.mem_range.mpr (by omega), e⟩)
  | false =>
    refine decide_eq_false fun m => ?_
    have := (List.mem_filter.mp m).2
    rw [e] at this; cases this
theorem lay_gd : ∀ d : PyData, gd N d = true → d.canLay0 = true
  | .none, _ => rfl
  | .bool _, _ => rfl
  | .int _, _ => rfl
  | .str x, h => by
    rw [PyData.canLay0]
    unfold PyData.strOk
    rw [← Array.all_toList, List.all_eq_true]
    intro c m
    have := of_decide_eq_true (List.all_eq_true.mp (asc_of h) c m)
    exact decide_eq_true (by omega)
  | .list xs, h => by rw [PyData.canLay0]; rw [gd] at h; exact all xs h
  | .tuple xs, h => by rw [PyData.canLay0]; rw [gd] at h; exact all xs h
  | .dict _, h => by simp [gd] at h
where all : ∀ xs : List PyData, gdAll N xs = true → PyData.canLayAll0 xs = true
  | [], _ => rfl
  | x :: r, h => by
    rw [gdAll, Bool.and_eq_true] at h
    rw [PyData.canLayAll0, lay_gd x h.1, all r h.2]; rfl
theorem short_gd (hN : N < 10 ^ 12) : ∀ d : PyData, gd N d = true → d.intsShort 13 = true
  | .none, _ => rfl
  | .bool _, _ => rfl
  | .str _, _ => rfl
  | .int i, h => by
    rw [gd] at h
    have h := of_decide_eq_true h
    have := PyData.intsShortAll_ints [i] (fun n m => by rw [List.mem_singleton.mp m]; omega)
    rw [List.map_cons, PyData.intsShortAll, Bool.and_eq_true] at this
    exact this.1
  | .list xs, h => by rw [PyData.intsShort]; rw [gd] at h; exact all xs h
  | .tuple xs, h => by rw [PyData.intsShort]; rw [gd] at h; exact all xs h
  | .dict _, h => by simp [gd] at h
where all : ∀ xs : List PyData, gdAll N xs = true → PyData.intsShortAll 13 xs = true
  | [], _ => rfl
  | x :: r, h => by
    rw [gdAll, Bool.and_eq_true] at h
    rw [PyData.intsShortAll, short_gd hN x h.1, all r h.2]; rfl
theorem show_gd (hN : N < 10 ^ 12) : ∀ d : PyData, gd N d = true → d.showable = true
  | .none, _ => rfl
  | .bool _, _ => rfl
  | .str _, _ => rfl
  | .int i, h => by
    rw [gd] at h
    have h := of_decide_eq_true h
    rw [PyData.showable]
    refine decide_eq_true ?_
    by_cases z : i.natAbs = 0
    · rw [z]; decide
    · refine (Nat.log2_lt z).mpr (Nat.lt_of_lt_of_le (show i.natAbs < 2 ^ 40 by omega) (Nat.pow_le_pow_right (by decide) (by decide)))
  | .list xs, h => by rw [PyData.showable]; rw [gd] at h; exact all xs h
  | .tuple xs, h => by rw [PyData.showable]; rw [gd] at h; exact all xs h
  | .dict _, h => by simp [gd] at h
where all : ∀ xs : List PyData, gdAll N xs = true → PyData.showableAll xs = true
  | [], _ => rfl
  | x :: r, h => by
    rw [gdAll, Bool.and_eq_true] at h
    rw [PyData.showableAll, show_gd hN x h.1, all r h.2]; rfl
theorem repr_w {W D : Nat} (hN : N < 10 ^ 12) (hW : W ≤ 1000000) (hD : D ≤ 40) (hd : Gd N W D d) : wO (opt κ (reprD κ [.d d])) q = q (.d (.str d.shown)) κ := by
  have hl := lay_gd d hd.g
  have h1 := PyData.shown_le_bulk 13 (by decide) d (PyData.leavesShort_of_canLay0 13 d hl (short_gd hN d hd.g))
  have h2 := hd.w
  have h3 := hd.p
  have : reprD κ [.d d] = some (.d (.str d.shown)) := by
    show ((if d.hasDict = false then some d else none).bind _) = _
    rw [if_pos (PyData.hasDict_of_canLay d hl), Option.bind_some, if_pos ⟨show_gd hN d hd.g, by omega, by omega⟩]
  rw [this]; exact propext Iff.rfl
theorem reprB_w {x y : Bool} : wO (opt κ (reprD κ [.d (.list [.bool x, .bool y])])) q = q (.d (.str (PyData.list [.bool x, .bool y]).shown)) κ := by
  refine repr_w (N := 0) (W := 1000000) (D := 40) (by decide) (Nat.le_refl _) (Nat.le_refl _) ⟨?_, ?_, ?_⟩
  · simp [gd, gdAll]
  · simp [PyData.bulk, PyData.bulkAll]
  · simp [PyData.depth, PyData.depthAll]
theorem gd_mono {N' : Nat} (h : N ≤ N') : ∀ d : PyData, gd N d = true → gd N' d = true
  | .none, _ => rfl
  | .bool _, _ => rfl
  | .str _, e => e
  | .int i, e => by rw [gd] at *; exact decide_eq_true (Nat.le_trans (of_decide_eq_true e) h)
  | .list xs, e => by rw [gd] at *; exact all xs e
  | .tuple xs, e => by rw [gd] at *; exact all xs e
  | .dict _, e => by simp [gd] at e
where all : ∀ xs : List PyData, gdAll N xs = true → gdAll N' xs = true
  | [], _ => rfl
  | x :: r, e => by
    rw [gdAll, Bool.and_eq_true] at *
    exact ⟨gd_mono h x e.1, all r e.2⟩
/-- what may stand in a thing's place -/
structure Bn (N : Nat) (d y : PyData) : Prop where
  g : gd (N + 1) y = true
  w : y.bulk ≤ 9 * d.bulk + 1000
  p : y.depth ≤ d.depth + 4
def okC (d : PyData) : Bool := gd 65536 d && decide (d.bulk ≤ 1000) && decide (d.depth ≤ 4)
theorem Bn.of (hN : 65536 ≤ N) {y : PyData} (h : okC y = true) : Bn N d y := by
  unfold okC at h
  rw [Bool.and_eq_true, Bool.and_eq_true] at h
  have h1 := of_decide_eq_true h.1.2
  have h2 := of_decide_eq_true h.2
  exact ⟨gd_mono (by omega) y h.1.1, by omega, by omega⟩
theorem asc_int (i : Int) : ((toString i : String) : Str).cps.toList.all (fun c => decide (c < 128)) = true := by
  rw [show ((toString i : String) : Str) = Str.ofString (toString i) from rfl, Str.ofString_eq_toList, List.all_eq_true]
  intro c m
  obtain ⟨x, hx, rfl⟩ := List.mem_map.mp m
  exact decide_eq_true (PySem.int_ascii i x hx)
theorem len_int (hN : N < 10 ^ 12) {i : Int} (h : gd N (.int i) = true) : ((toString i : String) : Str).length ≤ 13 := by
  have := short_gd hN _ h
  rw [PyData.intsShort] at this
  exact of_decide_eq_true this
theorem asc_app {x y : Str} (h : x.cps.toList.all (fun c => decide (c < 128)) = true) (g : y.cps.toList.all (fun c => decide (c < 128)) = true) : (x ++ y).cps.toList.all (fun c => decide (c < 128)) = true := by
  show (x.cps ++ y.cps).toList.all _ = true
  rw [Array.toList_append, List.all_append, h, g]; rfl
theorem asc_upper {x : Str} (h : x.cps.toList.all (fun c => decide (c < 128)) = true) : (Txt.upper x).cps.toList.all (fun c => decide (c < 128)) = true := by
  have tab : ∀ c < 128, (Unicode.upperOf c).all (fun c => decide (c < 128)) = true := by decide +kernel
  rw [List.all_eq_true]
  intro c m
  have m : c ∈ (placed x fun _ c => Unicode.upperOf c).toList := m
  unfold placed at m
  rw [Array.mem_toList_iff, Array.mem_flatten] at m
  obtain ⟨l, ml, mc⟩ := m
  rw [Array.mem_mapIdx] at ml
  obtain ⟨i, hi, rfl⟩ := ml
  have h1 := of_decide_eq_true (List.all_eq_true.mp h x.cps[i] (Array.mem_toList_iff.mpr (Array.getElem_mem hi)))
  exact List.all_eq_true.mp (tab _ h1) c (by simpa using mc)
theorem asc_rep {x : Str} (n : Nat) (h : x.cps.toList.all (fun c => decide (c < 128)) = true) : (repS x n).cps.toList.all (fun c => decide (c < 128)) = true := by
  show ((List.replicate n x.cps.toList).flatten.toArray).toList.all _ = true
  rw [List.all_eq_true] at *
  intro c m
  obtain ⟨l, m1, m2⟩ := List.mem_flatten.mp m
  rw [(List.mem_replicate.mp m1).2] at m2
  exact h c m2
theorem len_rep (x : Str) (n : Nat) : (repS x n).length = n * x.length := by
  show ((List.replicate n x.cps.toList).flatten.toArray).size = _
  rw [List.size_toArray, flat_len, Array.length_toList]; rfl
theorem bt_str {s y : Str} (hy : y.cps.toList.all (fun c => decide (c < 128)) = true) (hl : y.length ≤ 9 * s.length + 900) : Bn N (.str s) (.str y) :=
  ⟨by rw [gd]; exact hy, by show y.length ≤ 9 * s.length + 1000; omega, Nat.zero_le _⟩
theorem wUpper {x : Str} : wO (opt κ (upperF κ x [])) q = (x.length ≤ 5000000 ∧ q (.d (.str (Txt.upper x))) κ) := wIf2
theorem wStrI {i : Int} : wO (opt κ (cal1 strB κ [.d (.int i)])) q = (i.natAbs.log2 < 1920 ∧ q (.d (.str (toString i))) κ) := by
  show wO (opt κ ((if i.natAbs.log2 < 1920 then some (PyData.str (toString i)) else none).map DV.d)) q = _
  by_cases h : i.natAbs.log2 < 1920
  · rw [if_pos h]; exact propext ⟨fun z => ⟨h, z⟩, fun z => z.2⟩
  · rw [if_neg h]; exact propext ⟨fun z => z.elim, fun z => h z.1⟩
theorem wStrBl {k : Bool} : wO (opt κ (cal1 strB κ [.d (.bool k)])) q = q (.d (.str (if k = true then "True" else "False"))) κ := propext Iff.rfl
theorem wNegI {i : Int} : wO (opt κ (negB κ (.d (.int i)))) q = q (.d (.int (-i))) κ := propext Iff.rfl
theorem wNegBl {k : Bool} : wO (opt κ (negB κ (.d (.bool k)))) q = q (.d (.int (-bz k))) κ := propext Iff.rfl
theorem wAddBl {k : Bool} {i : Int} : wO (opt κ (addB κ (.d (.bool k)) (.d (.int i)))) q = q (.d (.int (bz k + i))) κ := propext Iff.rfl
theorem wSubBl {k : Bool} {i : Int} : wO (opt κ (subB κ (.d (.bool k)) (.d (.int i)))) q = q (.d (.int (bz k - i))) κ := propext Iff.rfl
theorem mem_rep {n : Nat} {l : List PyData} {y : PyData} (m : y ∈ (List.replicate n l).flatten) : y ∈ l := by
  obtain ⟨t, m1, m2⟩ := List.mem_flatten.mp m
  rw [(List.mem_replicate.mp m1).2] at m2
  exact m2
theorem gd_cons {x : PyData} {r : List PyData} : gdAll N (x :: r) = (gd N x && gdAll N r) := rfl
theorem bulk_split {xs : List PyData} {i : Nat} {x : PyData} (e : xs[i]? = some x) (y : PyData) : PyData.bulkAll (xs.set i y) + x.bulk = PyData.bulkAll xs + y.bulk ∧ PyData.bulkAll (xs.eraseIdx i) ≤ PyData.bulkAll xs ∧ PyData.bulkAll (xs.take i ++ [y] ++ xs.drop i) = PyData.bulkAll xs + y.bulk + 1 ∧ x.bulk + 1 ≤ PyData.bulkAll xs := by
  induction xs generalizing i with
  | nil => simp at e
  | cons z r ih =>
    cases i with
    | zero =>
      simp only [List.getElem?_cons_zero, Option.some.injEq] at e
      subst e
      simp only [List.set_cons_zero, List.eraseIdx_cons_zero, List.take_zero, List.drop_zero, List.nil_append, List.cons_append, PyData.bulkAll]
      omega
    | succ i =>
      rw [List.getElem?_cons_succ] at e
      obtain ⟨h1, h2, h3, h4⟩ := ih e
      simp only [List.set_cons_succ, List.eraseIdx_cons_succ, List.take_succ_cons, List.drop_succ_cons, List.cons_append, PyData.bulkAll] at h3 ⊢
      omega
theorem bulk_rev (xs : List PyData) : PyData.bulkAll xs.reverse = PyData.bulkAll xs := by
  have app : ∀ a b : List PyData, PyData.bulkAll (a ++ b) = PyData.bulkAll a + PyData.bulkAll b := fun a b => by
    induction a with
    | nil => simp [PyData.bulkAll]
    | cons x r ih => rw [List.cons_append, PyData.bulkAll, PyData.bulkAll, ih]; omega
  induction xs with
  | nil => rfl
  | cons x r ih => rw [List.reverse_cons, app, ih]; simp only [PyData.bulkAll]; omega
/-- a row of things in the place of another row -/
structure Br (N : Nat) (xs ys : List PyData) : Prop where
  g : ∀ y ∈ ys, gd (N + 1) y = true
  w : PyData.bulkAll ys ≤ 9 * PyData.bulkAll xs + 1000
  p : ∀ y ∈ ys, y.depth ≤ PyData.depthAll xs + 4
theorem dep_mem {xs : List PyData} {x : PyData} (m : x ∈ xs) : x.depth ≤ PyData.depthAll xs := by
  induction xs with
  | nil => cases m
  | cons y r ih =>
    rw [PyData.depthAll]
    rcases List.mem_cons.mp m with rfl | m
    · exact Nat.le_max_left _ _
    · exact Nat.le_trans (ih m) (Nat.le_max_right _ _)
theorem Br.own {xs ys : List PyData} (hg : ∀ x ∈ xs, gd N x = true) (hm : ∀ y ∈ ys, y ∈ xs) (hw : PyData.bulkAll ys ≤ 9 * PyData.bulkAll xs + 1000) : Br N xs ys :=
  ⟨fun y m => gd_mono (Nat.le_succ _) y (hg y (hm y m)), hw, fun y m => Nat.le_trans (dep_mem (hm y m)) (Nat.le_add_right _ _)⟩
theorem Br.tup {xs ys : List PyData} (h : Br N xs ys) : Bn N (.tuple xs) (.tuple ys) ∧ Bn N (.tuple xs) (.list ys) ∧ Bn N (.list xs) (.tuple ys) ∧ Bn N (.list xs) (.list ys) := by
  have g : gdAll (N + 1) ys = true := gdAll_iff.mpr h.g
  have w := h.w
  have p : PyData.depthAll ys ≤ PyData.depthAll xs + 4 := depthAll_le h.p
  refine ⟨⟨?_, ?_, ?_⟩, ⟨?_, ?_, ?_⟩, ⟨?_, ?_, ?_⟩, ⟨?_, ?_, ?_⟩⟩ <;> first | (rw [gd]; exact g) | (simp only [PyData.bulk]; omega) | (simp only [PyData.depth]; omega)
/-- the cell of a bent row -/
theorem cell_ret {κF l : Kap} {i : Nat} {ys : List PyData} {n : Nat} (hj : j < κ.length) (hk : KOk κ) (hF : κF = κ.set j (bx a b c) ++ l) (hi : κ.length ≤ i) (hc : κF[i]? = some (cl ys)) (hn : n = κ.length) :
    (wO (fin n (OutS.rt (.c i) κF)) q = q (.n ys) (κ.set j (bx a b c))) ∧ (∀ q' : DV → Kap → Prop, wO (opt κF (tupleD κF [.c i])) q' = q' (.d (.tuple ys)) κF) ∧ ∀ x : PyData, wO (fin n (OutS.rt (.d x) κF)) q = q (.d x) (κ.set j (bx a b c)) := by
  have hl : lv κF (.c i) = some ys := by
    unfold lv
    dsimp only
    rw [hc]
    exact allD_map ys
  refine ⟨?_, fun q' => ?_, fun x => ?_⟩
  · rw [hF] at hl ⊢
    exact finC hk.set (by rw [hn, List.length_set]) (by rw [hn]; exact hi) hl
  · have : tupleD κF [.c i] = some (.d (.tuple ys)) := by
      show (lvS κF (.c i)).map _ = _
      have : lvS κF (.c i) = some ys := hl
      rw [this]; rfl
    rw [this]; exact propext Iff.rfl
  · rw [hF]
    exact finD hk.set (by rw [hn, List.length_set])
theorem erase_map {α β : Type} (f : α → β) : ∀ (l : List α) (i : Nat), (l.map f).eraseIdx i = (l.eraseIdx i).map f
  | [], _ => rfl
  | _ :: _, 0 => rfl
  | x :: r, i + 1 => by rw [List.map_cons, List.eraseIdx_cons_succ, List.eraseIdx_cons_succ, List.map_cons, erase_map f r i]
theorem popAt_w {ds : List PyData} {i : Int} (h0 : 0 ≤ i) (h1 : i < ds.length) (h2 : ds.length ≤ 1000000) : ∃ x, popAtF (ds.map .d) [.d (.int i)] = some (.d x, (ds.eraseIdx i.toNat).map .d) ∧ ds[i.toNat]? = some x := by
  obtain ⟨x, _, e, _⟩ := atI_mem h0 h1
  refine ⟨x, ?_, e⟩
  show (if 0 ≤ i ∧ i < 1000000 then ((ds.map DV.d)[i.toNat]?).map fun y => (y, (ds.map DV.d).eraseIdx i.toNat) else none) = _
  rw [if_pos ⟨h0, by omega⟩, List.getElem?_map, e, erase_map]; rfl
theorem ins_w {ds : List PyData} {i : Int} {x : PyData} (h0 : 0 ≤ i) (h1 : i < ds.length) (h2 : ds.length < 1000000) : insF (ds.map .d) [.d (.int i), .d x] = some (.d .none, (ds.take i.toNat ++ [x] ++ ds.drop i.toNat).map .d) := by
  show (if (ds.map DV.d).length < 1000000 ∧ 0 ≤ i ∧ i < 1000000 then some (DV.d PyData.none, (ds.map DV.d).take i.toNat ++ [DV.d x] ++ (ds.map DV.d).drop i.toNat) else none) = _
  rw [if_pos ⟨by rw [List.length_map]; exact h2, h0, by omega⟩]
  simp
theorem wIsnT : wO (opt κ (isnD κ (.d (.bool true)) (.d (.bool true)))) q = q (.d (.bool false)) κ := propext Iff.rfl
theorem Bn.lay {N W D : Nat} {m y : PyData} (h : Bn N m y) (w : m.bulk ≤ W) (p : m.depth ≤ D) : Gd (N + 1) (9 * W + 1000) (D + 4) y := ⟨h.g, by have := h.w; omega, by have := h.p; omega⟩
def isIt : PyData → Bool
  | .int _ => true
  | _ => false
theorem isIt_ex {x : PyData} (h : isIt x = true) : ∃ i, x = .int i := by
  cases x with
  | int i => exact ⟨i, rfl⟩
  | _ => cases h
theorem wAbs {i : Int} : wO (opt κ (cal1 absF κ [.d (.int i)])) q = q (.d (.int (if i < 0 then -i else i))) κ := propext Iff.rfl
theorem wSlC {xs : List PyData} {lo hi : Option Int} : wO (opt κ (slD κ (.d (scr xs)) lo hi)) q = q (.n (DL.cutD xs lo hi)) κ := propext Iff.rfl
theorem wListL {xs : List PyData} : wO (opt κ (listD κ [.d (.list xs)])) q = q (.n xs) κ := propext Iff.rfl
theorem lvN {xs : List PyData} : lv κ (.n xs) = some xs := rfl
theorem wEnumE {ma : MA} {ρ : Rho} {qi : List PyData → Kap → Prop} : wO (mEnum ma ρ κ) qi = wO (ma ρ κ) fun xs κ1 => match xs with
    | [.d (.list ds)] => qi (enumD 0 ds) κ1
    | _ => False := by
  unfold mEnum; simp only [wO_bind]; congr 1; funext x κ1
  rcases x with _ | ⟨x, _ | ⟨y, r⟩⟩
  · rfl
  · cases x with
    | d y => cases y <;> rfl
    | c i => rfl
    | n xs => rfl
  · cases x with
    | d y => cases y <;> rfl
    | c i => rfl
    | n xs => rfl
theorem isIt_cut {xs : List PyData} (h : ∀ x ∈ xs, isIt x = true) {lo hi : Option Int} : ∀ x ∈ DL.cutD xs lo hi, isIt x = true := fun x m => h x (cutD_mem x m)
def isT0 : Out DV → Bool
  | .ok (.d (.bool true)) [] => true
  | _ => false
theorem isT0_ok {o : Out DV} (h : isT0 o = true) : o = .ok (.d (.bool true)) [] := by
  unfold isT0 at h
  split at h
  · rfl
  · cases h
end
end Law

namespace Law
open DL L2 PyProof.Rows PySem PySem.Spec
section
variable {κ : Kap} {ρ : Rho} {j N : Nat} {a b c : Int} {q : DV → Kap → Prop} {d : PyData} {m m1 m2 : ME} {qp : List (Key × DV) → Kap → Prop} {qi : List PyData → Kap → Prop} {ma : MA}
/-! ### dicts -/
theorem wDget : wO (mDget m1 m2 ρ κ) q = wO (m1 ρ κ) fun x κ1 => wO (m2 ρ κ1) fun y κ2 => match x, y with
    | .d (.dict kvs), .d k => (match dgetD kvs k with
      | some v => q (.d v) κ2
      | none => False)
    | _, _ => False := by
  unfold mDget; simp only [wO_bind]; congr 1; funext x κ1; congr 1; funext y κ2
  cases x with
  | d x =>
    cases x with
    | dict kvs =>
      cases y with
      | d k => dsimp only; cases dgetD kvs k <;> rfl
      | _ => rfl
    | _ => rfl
  | _ => rfl
def dinO (p : Bool) (y x : DV) (κ2 : Kap) : Out DV := match y, x with
  | .d k, .d (.dict kvs) => match keyOf k, kvs with
    | some _, [(.none, _)] => .bad
    | some _, [(.bool _, _)] => .bad
    | some _, kvs => .ok (.d (bool2 p (dgetD kvs k).isSome)) κ2
    | none, _ => .bad
  | _, _ => .bad
theorem wDin {p : Bool} : wO (mDin p m1 m2 ρ κ) q = wO (m1 ρ κ) fun y κ1 => wO (m2 ρ κ1) fun x κ2 => wO (dinO p y x κ2) q := by
  unfold mDin; simp only [wO_bind]; rfl
theorem wDinS {p : Bool} {x y : Str} {v : PyData} {r : List (PyData × PyData)} : wO (dinO p (.d (.str x)) (.d (.dict ((.str y, v) :: r))) κ) q = q (.d (bool2 p (dgetD ((.str y, v) :: r) (.str x)).isSome)) κ := by
  have : dinO p (.d (.str x)) (.d (.dict ((.str y, v) :: r))) κ = .ok (.d (bool2 p (dgetD ((.str y, v) :: r) (.str x)).isSome)) κ := by
    cases r <;> rfl
  rw [this]; exact propext Iff.rfl
theorem wPNil : wO (mPNil ρ κ) qp = qp [] κ := propext Iff.rfl
theorem wPCons {k : Key} {r : MP} : wO (mPCons k m r ρ κ) qp = wO (m ρ κ) fun x κ1 => wO (r ρ κ1) fun xs κ2 => qp ((k, fz x) :: xs) κ2 := by
  unfold mPCons; simp only [wO_bind]; rfl
theorem wDisp {r : MP} : wO (mDisp r ρ κ) q = wO (r ρ κ) fun xs κ1 => match allKD xs with
    | some ds => ((xs.map (·.1)).Nodup ∧ xs.length ≤ 15) ∧ q (.d (.dict ds)) κ1
    | none => False := by
  unfold mDisp; simp only [wO_bind]; congr 1; funext xs κ1
  cases allKD xs with
  | none => rfl
  | some ds =>
    dsimp only
    by_cases h : (xs.map (·.1)).Nodup ∧ xs.length ≤ 15
    · rw [if_pos h]; exact propext ⟨fun z => ⟨h, z⟩, fun z => z.2⟩
    · rw [if_neg h]; exact propext ⟨fun z => z.elim, fun z => h z.1⟩
theorem wCallV {i : Nat} {t : Str → Option MF} {x : Str} {f : MF} (e : ρ[i]? = some (some (.d (fnD x)))) (e2 : t x = some f) : wO (mCallV i t ma ρ κ) q = wO (ma ρ κ) fun xs κ1 => wO (f xs κ1) q := by
  unfold mCallV; rw [e]; simp only [e2]; exact wCall
theorem tblHit {x : Str} {f : MF} {l : List (Str × MF)} : tblOf ((x, f) :: l) x = some f := by rw [tblOf, beq_self_eq_true, if_pos rfl]
theorem tblMiss {x y : Str} {f : MF} {l : List (Str × MF)} (h : (y == x) = false) : tblOf ((y, f) :: l) x = tblOf l x := by rw [tblOf, h, if_neg Bool.false_ne_true]
theorem dgetHit {x : Str} {v : PyData} {r : List (PyData × PyData)} : dgetD ((.str x, v) :: r) (.str x) = some v := by rw [dgetD, keyD, beq_self_eq_true, if_pos rfl]
theorem dgetMiss {x y : Str} {v : PyData} {r : List (PyData × PyData)} (h : (x == y) = false) : dgetD ((.str x, v) :: r) (.str y) = dgetD r (.str y) := by rw [dgetD, keyD, h, if_neg Bool.false_ne_true]
theorem dgetCons {x y : Str} {v : PyData} {r : List (PyData × PyData)} : dgetD ((.str x, v) :: r) (.str y) = if (x == y) = true then some v else dgetD r (.str y) := by rw [dgetD, keyD]
theorem dgetNil {y : PyData} : dgetD [] y = none := rfl
/-! ### comparisons of known kinds -/
theorem wEqNS {x : Str} : wO (opt κ (eqD κ (.d .none) (.d (.str x)))) q = q (.d (.bool false)) κ := by
  have : eqD κ (.d .none) (.d (.str x)) = some (.d (.bool false)) := by
    unfold eqD eqDV dat
    simp [PyData.hasDict, PyData.depth, PyData.eqv]
  rw [this]; exact propext Iff.rfl
theorem wEqB {x y : Bool} : wO (opt κ (eqD κ (.d (.bool x)) (.d (.bool y)))) q = q (.d (.bool (x == y))) κ := by
  have : eqD κ (.d (.bool x)) (.d (.bool y)) = some (.d (.bool (x == y))) := by
    unfold eqD eqDV dat
    cases x <;> cases y <;> simp [PyData.hasDict, PyData.depth, PyData.eqv]
  rw [this]; exact propext Iff.rfl
theorem wIsN : wO (opt κ (isD κ (.d d) (.d .none))) q = q (.d (.bool (isNone d))) κ := by
  cases d <;> exact propext Iff.rfl
theorem wIsnN : wO (opt κ (isnD κ (.d d) (.d .none))) q = q (.d (.bool (!isNone d))) κ := by
  cases d <;> exact propext Iff.rfl
/-- a text within texts -/
def strL (xs : List Str) : List PyData := xs.map .str
theorem flat_strL (xs : List Str) : (strL xs).all flatD = true := by
  rw [strL, List.all_map]; exact List.all_eq_true.mpr fun _ _ => rfl
theorem any_strL (xs : List Str) (x : Str) : ((strL xs).any fun y => PyData.eqv y (.str x)) = xs.any (· == x) := by
  rw [strL, List.any_map]; rfl
theorem wInT {x : Str} {xs : List Str} : wO (opt κ (inD κ (.d (.str x)) (.d (.tuple (strL xs))))) q = q (.d (.bool (xs.any (· == x)))) κ := by
  have : inD κ (.d (.str x)) (.d (.tuple (strL xs))) = some (.d (.bool (xs.any (· == x)))) := by
    unfold inD inDV
    dsimp only
    rw [if_pos ⟨rfl, flat_strL xs⟩, any_strL]; rfl
  rw [this]; exact propext Iff.rfl
theorem wNinT {x : Str} {xs : List Str} : wO (opt κ (ninD κ (.d (.str x)) (.d (.tuple (strL xs))))) q = q (.d (.bool (!xs.any (· == x)))) κ := by
  have : ninD κ (.d (.str x)) (.d (.tuple (strL xs))) = some (.d (.bool (!xs.any (· == x)))) := by
    unfold ninD inDV
    dsimp only
    rw [if_pos ⟨rfl, flat_strL xs⟩, any_strL]; rfl
  rw [this]; exact propext Iff.rfl
theorem wNinNT {xs : List Str} : wO (opt κ (ninD κ (.d .none) (.d (.tuple (strL xs))))) q = q (.d (.bool true)) κ := by
  have : ninD κ (.d .none) (.d (.tuple (strL xs))) = some (.d (.bool true)) := by
    unfold ninD inDV
    dsimp only
    rw [if_pos ⟨rfl, flat_strL xs⟩]
    have : ((strL xs).any fun y => PyData.eqv y .none) = false := by
      rw [strL, List.any_map, List.any_eq_false]
      intro x _
      simp [PyData.eqv]
    rw [this]; rfl
  rw [this]; exact propext Iff.rfl
theorem wInNT {xs : List Str} : wO (opt κ (inD κ (.d .none) (.d (.tuple (strL xs))))) q = q (.d (.bool false)) κ := by
  have : inD κ (.d .none) (.d (.tuple (strL xs))) = some (.d (.bool false)) := by
    unfold inD inDV
    dsimp only
    rw [if_pos ⟨rfl, flat_strL xs⟩]
    have : ((strL xs).any fun y => PyData.eqv y .none) = false := by
      rw [strL, List.any_map, List.any_eq_false]
      intro x _
      simp [PyData.eqv]
    rw [this]; rfl
  rw [this]; exact propext Iff.rfl
/-- a sign within a text -/
theorem wInC {x : Nat} {y : Str} : wO (opt κ (inD κ (.d (.str ⟨#[x]⟩)) (.d (.str y)))) q = q (.d (.bool (decide (x ∈ y.cps.toList)))) κ := propext Iff.rfl
theorem wOrdC {x : Nat} : wO (opt κ (cal1 ordF κ [.d (.str ⟨#[x]⟩)])) q = q (.d (.int x)) κ := propext Iff.rfl
theorem wNeL {x : Int} {n : Nat} : wO (opt κ (neD κ (.d (.int x)) (.d (.int n)))) q = q (.d (.bool (!(x == (n : Int))))) κ := wNeI
/-! ### divmod, split, zip -/
theorem wDivm {x y : Int} : wO (opt κ (divmodD κ [.d (.int x), .d (.int y)])) q = ((0 < y ∧ y < 1073741824) ∧ q (.d (.tuple [.int (x / y), .int (x % y)])) κ) := wIf2
theorem wDivmod {x y : Int} (h : 0 < y ∧ y < 1073741824) : wO (opt κ (divmodD κ [.d (.int x), .d (.int y)])) q = q (.d (.tuple [.int (x / y), .int (x % y)])) κ := by
  have : divmodD κ [.d (.int x), .d (.int y)] = some (.d (.tuple [.int (x / y), .int (x % y)])) := by
    unfold divmodD
    simp [h]
  rw [this]; exact propext Iff.rfl
/-! ### what a text is made of -/
def wordC (c : Nat) : Bool := decide (97 ≤ c ∧ c ≤ 122) || decide (48 ≤ c ∧ c ≤ 57)
def isS (lo hi : Int) (P : Nat → Bool) : PyData → Bool
  | .str x => decide (lo ≤ (x.length : Int)) && decide ((x.length : Int) ≤ hi) && x.cps.toList.all P
  | _ => false
abbrev isN : PyData → Bool := isS 1 8 small
abbrev isWd : PyData → Bool := isS 1 12 wordC
abbrev isTx : PyData → Bool := isS 1 40 plainC
def isAd : PyData → Bool
  | .tuple [x, y] => isN x && isN y
  | _ => false
theorem word_mem (c : Nat) : decide (c ∈ ("abcdefghijklmnopqrstuvwxyz0123456789" : Str).cps.toList) = wordC c := by
  rw [show ("abcdefghijklmnopqrstuvwxyz0123456789" : Str).cps.toList = (List.range 26).map (· + 97) ++ (List.range 10).map (· + 48) by decide +kernel]
  unfold wordC
  rw [← Bool.decide_or]
  refine decide_eq_decide.mpr ⟨fun m => ?_, fun m => ?_⟩
  · rcases List.mem_append.mp m with m | m
    · obtain ⟨i, hi, rfl⟩ := List.mem_map.mp m
      have := List.mem_range.mp hi
      omega
    · obtain ⟨i, hi, rfl⟩ := List.mem_map.mp m
      have := List.mem_range.mp hi
      omega
  · rcases m with m | m
    · exact List.mem_append_left _ (List.mem_map.mpr ⟨c - 97, List.mem_range.mpr (by omega), by omega⟩)
    · exact List.mem_append_right _ (List.mem_map.mpr ⟨c - 48, List.mem_range.mpr (by omega), by omega⟩)
/-- tests, by what those are that have no other one in them -/
def isTs (leaf : PyData → Bool) : Nat → PyData → Bool
  | 0, _ => false
  | k + 1, d => leaf d || (match d with
    | .tuple (.str w :: r) => if w == ("not" : Str) then decide (r.length = 1) && r.all (isTs leaf k) else ((w == ("both" : Str) || w == ("any" : Str)) && (decide (r.length = 2) && r.all (isTs leaf k)))
    | _ => false)
def formW (w : Str) (x : PyData) : Bool :=
  if w == ("from" : Str) || w == ("to" : Str) || w == ("on" : Str) then isAd x
  else if w == ("word" : Str) then isWd x
  else if w == ("about" : Str) || w == ("answer" : Str) then isTx x
  else if w == ("longer" : Str) then isIn 0 9999 x
  else if w == ("since" : Str) then isIn 0 400 x
  else isN x
/-- a pair of one of some words and what it has -/
def isForm (ws : List Str) : PyData → Bool
  | .tuple [.str w, x] => ws.any (· == w) && formW w x
  | _ => false
def isPl (ws : List Str) : PyData → Bool
  | .tuple [.str w] => w == ("auto" : Str)
  | d => isForm ws d
end
end Law

namespace Law
open DL L2 PyProof.Rows PySem PySem.Spec
local macro_rules | `(tactic| walk_at "w") => `(tactic| simp only [wDef0, wDef1, wDef2, wDef3, List.replicate, Nat.reduceSub, wSeq, wIf, wTb, wTr, wBin, wUn, wVar, wC, wCal, wCall, wCallK, wNil, wCons, wConsC, wLst, wTup, wNotT, wAndT, wOrT, wAnd, wOr, wNotE, wIfE, wChain, wNext, wSet, wSetC, wRet, wDrop, wAsg, wPar, wFor, wLc, wYes, wSl, wNoP, wPt, wRng1, wSrcA, wSrcS, wIsI, wIsI2, wCm, wMs, wRev, wPar3, wPar3k, wZipA, wZipLL, Option.bind_some, wDivm, wDget, wPNil, wPCons, wDisp, wDin, wDinS, wEqS, wEqB, wEqNS, wIsN, wInC, wOrdC, wInT, wInNT, wNinT, wNinNT, ix0, ix1,
  wOpt, tK_some, bK_some, bK_le, bK_lt, wGtI, wLtI, wLeI, wGeI, wModI, wFdivI, wMulI, wAddI, wSubI, wEqI, wNeI, wSlL, wSlN, wSlT, wSlS, wLenL, wLenT, wLenS, wIntT, wTupleN, wMin2, wAddNN, wAddLN, wAddNL, wAddLL, wAddTT, wAddSS, wMulN, wMulT, wMulS, fz_d, fz_n, fz_c, allD, put, truD, bName, bTup, bCons, bNil, wipeR,
  List.getElem?_cons_zero, List.getElem?_cons_succ, List.set_cons_zero, List.set_cons_succ, List.length_set, List.length_cons, List.length_nil, Option.map_some, Option.map_none, if_true, Bool.false_eq_true, if_false, Bool.not_true, Bool.not_false, List.map_cons, List.map_nil, true_and, and_true, Nat.reduceAdd, Nat.reduceLeDiff])
local macro_rules | `(tactic| walk_at "b") => `(tactic| simp (disch := assumption) only [ixB0, ixB1, ixB2, DL.subB0, DL.subB2, Option.bind_some, wDef0, wDef1, wDef2, wDef3, List.replicate, Nat.reduceSub, wSeq, wIf, wTb, wTr, wBin, wUn, wVar, wC, wCal, wCall, wCallK, wNil, wCons, wConsC, wLst, wTup, wNotT, wAndT, wOrT, wAnd, wOr, wNotE, wIfE, wChain, wNext, wSet, wSetC, wRet, wDrop, wAsg, wPar, wFor, wLc, wYes, wSl, wNoP, wPt, wRng1, wSrcA, wSrcS, wIsI, wIsI2, wCm, wMs, wRev, wPar3, wPar3k, wZipA, wZipLL, Option.bind_some, wDivm, wDget, wPNil, wPCons, wDisp, wDin, wDinS, wEqS, wEqB, wEqNS, wIsN, wInC, wOrdC, wInT, wInNT, wNinT, wNinNT, ix0, ix1,
  wOpt, tK_some, bK_some, bK_le, bK_lt, wGtI, wLtI, wLeI, wGeI, wModI, wFdivI, wMulI, wAddI, wSubI, wEqI, wNeI, wSlL, wSlN, wSlT, wSlS, wLenL, wLenT, wLenS, wIntT, wTupleN, wMin2, wAddNN, wAddLN, wAddNL, wAddLL, wAddTT, wAddSS, wMulN, wMulT, wMulS, fz_d, fz_n, fz_c, allD, put, truD, bName, bTup, bCons, bNil, wipeR,
  List.getElem?_cons_zero, List.getElem?_cons_succ, List.set_cons_zero, List.set_cons_succ, List.length_set, List.length_cons, List.length_nil, Option.map_some, Option.map_none, if_true, Bool.false_eq_true, if_false, Bool.not_true, Bool.not_false, List.map_cons, List.map_nil, true_and, and_true, Nat.reduceAdd, Nat.reduceLeDiff])
local macro_rules | `(tactic| walk_at "t") => `(tactic| (try walk_at "w"))
local macro_rules | `(tactic| walk_at "x") => `(tactic| simp (maxSteps := 4000000) only [wDef0, wDef1, wDef2, wDef3, List.replicate, Nat.reduceSub, wSeq, wIf, wTb, wTr, wBin, wUn, wVar, wC, wCal, wCall, wCallK, wNil, wCons, wConsC, wLst, wTup, wNotT, wAndT, wOrT, wAnd, wOr, wNotE, wIfE, wChain, wNext, wSet, wSetC, wRet, wDrop, wAsg, wPar, wFor, wLc, wYes, wSl, wNoP, wPt, wRng1, wSrcA, wSrcS, wIsI, wIsI2, wCm, wMs, wRev, wPar3, wPar3k, wZipA, wZipLL, Option.bind_some, wDivm, wDget, wPNil, wPCons, wDisp, wDin, wDinS, wEqS, wEqB, wEqNS, wIsN, wInC, wOrdC, wInT, wInNT, wNinT, wNinNT, ix0, ix1,
  wOpt, tK_some, bK_some, bK_le, bK_lt, wGtI, wLtI, wLeI, wGeI, wModI, wFdivI, wMulI, wAddI, wSubI, wEqI, wNeI, wSlL, wSlN, wSlT, wSlS, wLenL, wLenT, wLenS, wIntT, wTupleN, wMin2, wAddNN, wAddLN, wAddNL, wAddLL, wAddTT, wAddSS, wMulN, wMulT, wMulS, fz_d, fz_n, fz_c, allD, put, truD, bName, bTup, bCons, bNil, wipeR,
  List.getElem?_cons_zero, List.getElem?_cons_succ, List.set_cons_zero, List.set_cons_succ, List.length_set, List.length_cons, List.length_nil, Option.map_some, Option.map_none, if_true, Bool.false_eq_true, if_false, Bool.not_true, Bool.not_false, List.map_cons, List.map_nil, true_and, and_true, Nat.reduceAdd, Nat.reduceLeDiff])
section
variable {κ : Kap} {ρ : Rho} {j N : Nat} {a b c : Int} {q Q : DV → Kap → Prop} {d : PyData} {m m1 m2 : ME} {qi : List PyData → Kap → Prop} {ma : MA}
/-- a plain text of at most n signs, all of them below 128 -/
def isA (n : Nat) : PyData → Bool
  | .str x => decide (x.length ≤ n) && x.cps.toList.all fun c => decide (c < 128)
  | _ => false
theorem isA_ex {n : Nat} (h : isA n d = true) : ∃ x : Str, d = .str x ∧ x.length ≤ n ∧ x.cps.toList.all (fun c => decide (c < 128)) = true := by
  cases d with
  | str x => rw [isA, Bool.and_eq_true] at h; exact ⟨x, rfl, of_decide_eq_true h.1, h.2⟩
  | _ => cases h
theorem isA_mk {n : Nat} {x : Str} (h : x.length ≤ n) (g : x.cps.toList.all (fun c => decide (c < 128)) = true) : isA n (.str x) = true := by
  rw [isA, decide_eq_true h, g]; rfl
theorem isA_up {n m : Nat} (h : isA n d = true) (l : n ≤ m) : isA m d = true := by
  obtain ⟨x, rfl, h1, h2⟩ := isA_ex h
  exact isA_mk (Nat.le_trans h1 l) h2
theorem isA_gd {n : Nat} (h : isA n d = true) : Gd N n 0 d := by
  obtain ⟨x, rfl, h1, h2⟩ := isA_ex h
  exact gd_str h1 h2
theorem rng_mem {lo : Int} {n : Nat} {d : PyData} (m : d ∈ rngD lo n) : ∃ i : Int, d = .int i ∧ lo ≤ i ∧ i < lo + n := by
  unfold rngD at m
  obtain ⟨i, mi, rfl⟩ := List.mem_map.mp m
  have := List.mem_range.mp mi
  exact ⟨_, rfl, by omega, by omega⟩
theorem cutD_to {xs : List PyData} {k : Int} (h : 0 ≤ k) : (DL.cutD xs none (some k)).length = min k.toNat xs.length := by
  unfold DL.cutD
  rw [List.length_take, HT.sIx_none, List.drop_zero, show HT.sIx xs.length xs.length (some k) = min k.toNat xs.length by
    show (if k < 0 then _ else _) = _
    rw [if_neg (by omega)]]
  omega
theorem cutD_from {xs : List PyData} {k : Int} (h : 0 ≤ k) : (DL.cutD xs (some k) none).length = xs.length - k.toNat := by
  unfold DL.cutD
  rw [List.length_take, List.length_drop, HT.sIx_none, show HT.sIx xs.length 0 (some k) = min k.toNat xs.length by
    show (if k < 0 then _ else _) = _
    rw [if_neg (by omega)]]
  omega
theorem wSplit {x y : Str} (h : y.length ≠ 0 ∧ x.length ≤ 16000000) : wO (opt κ (splitF κ x [.d (.str y)])) q = q (.n ((Txt.split x y).map .str)) κ := by
  have : splitF κ x [.d (.str y)] = some (newStrs (Txt.split x y)) := by unfold splitF; simp only []; rw [if_pos h]
  rw [this]; exact propext Iff.rfl
def zipO (xs : List DV) (κ1 : Kap) : Out (List PyData) := match xs with
  | [.d (.list ds), .d (.list es)] => .ok (zipD ds es) κ1
  | [.d (.tuple ds), .d (.tuple es)] => .ok (zipD ds es) κ1
  | _ => .bad
theorem wZipA : wO (mZipA ma ρ κ) qi = wO (ma ρ κ) fun xs κ1 => wO (zipO xs κ1) qi := by
  unfold mZipA; simp only [wO_bind]; rfl
theorem wZipLL {ds es : List PyData} : wO (zipO [.d (.list ds), .d (.list es)] κ) qi = qi (zipD ds es) κ := propext Iff.rfl
theorem wZipTT {ds es : List PyData} : wO (zipO [.d (.tuple ds), .d (.tuple es)] κ) qi = qi (zipD ds es) κ := propext Iff.rfl
/-- the state behind a cell of one's own -/
theorem lvS_last {κ : Kap} {ds : List PyData} {x : Cell} (hj : j < κ.length) : lvS ((κ ++ [cl ds]).set j x) (.c κ.length) = some ds := by
  unfold lvS lv
  dsimp only
  rw [get_last hj]
  exact allD_map ds
theorem slCell {κ : Kap} {ds : List PyData} {x : Cell} {lo hi : Option Int} (hj : j < κ.length) : slD ((κ ++ [cl ds]).set j x) (.c κ.length) lo hi = some (.n (DL.cutD ds lo hi)) := by
  show (lvS _ (.c κ.length)).map _ = _
  rw [lvS_last hj]; rfl
theorem ixCell {κ : Kap} {ds : List PyData} {x : Cell} {i : Int} {y : PyData} (hj : j < κ.length) (h0 : 0 ≤ i) (h1 : i < ds.length) (e : ds[i.toNat]? = some y) : ixD ((κ ++ [cl ds]).set j x) (.c κ.length) (.d (.int i)) = some (.d y) := by
  unfold ixD
  simp only [get_last hj]
  show atI (ds.map DV.d) i = _
  unfold atI ixN
  rw [if_pos h0, if_pos (by rw [List.length_map]; exact h1)]
  show (ds.map DV.d)[i.toNat]? = _
  rw [List.getElem?_map, e]; rfl
theorem setCell {κ : Kap} {ds : List PyData} {x : Cell} {i : Int} {y : PyData} {s k : Nat} {ρ : Rho} (hj : j < κ.length) (h0 : 0 ≤ i) (h1 : i < ds.length) (hs : ρ[s]? = some (some (.c κ.length))) (hk : ρ[k]? = some (some (.d (.int i)))) :
    bSub (mVar s) (mVar k) (.d y) ρ ((κ ++ [cl ds]).set j x) = some (ρ, (κ ++ [cl (ds.set i.toNat y)]).set j x) := by
  unfold bSub
  simp only [mVar, hs, hk, get_last hj]
  have : ixN (ds.map DV.d).length i = some i.toNat := by
    unfold ixN
    rw [if_pos h0, if_pos (by rw [List.length_map]; exact h1)]
  rw [this]
  dsimp only
  rw [set_last hj, ← List.map_set]
theorem bulkA_app (a b : List PyData) : PyData.bulkAll (a ++ b) = PyData.bulkAll a + PyData.bulkAll b := by
  induction a with
  | nil => simp [PyData.bulkAll]
  | cons x r ih => rw [List.cons_append, PyData.bulkAll, PyData.bulkAll, ih]; omega
theorem bulkA_cut (xs : List PyData) (lo hi : Option Int) : PyData.bulkAll (DL.cutD xs lo hi) ≤ PyData.bulkAll xs := by
  unfold DL.cutD
  have h1 : ∀ (n : Nat) (ys : List PyData), PyData.bulkAll (ys.take n) ≤ PyData.bulkAll ys := fun n ys => by
    have := bulkA_app (ys.take n) (ys.drop n)
    rw [List.take_append_drop] at this; omega
  have h2 : ∀ (n : Nat) (ys : List PyData), PyData.bulkAll (ys.drop n) ≤ PyData.bulkAll ys := fun n ys => by
    have := bulkA_app (ys.take n) (ys.drop n)
    rw [List.take_append_drop] at this; omega
  exact Nat.le_trans (h1 _ _) (h2 _ _)
theorem ixT0 {x : PyData} {r : List PyData} : ixD κ (.d (.tuple (x :: r))) (.d (.int 0)) = some (.d x) := by
  show (atI (x :: r) 0).map DV.d = _
  unfold atI ixN
  rw [if_pos (Int.le_refl 0), if_pos (by rw [List.length_cons]; omega)]; rfl
theorem cut1 {x : PyData} {r : List PyData} : DL.cutD (x :: r) (some 1) none = r := by
  unfold DL.cutD
  have h1 : HT.sIx (x :: r).length 0 (some 1) = 1 := by
    rw [show HT.sIx (x :: r).length 0 (some 1) = min 1 (x :: r).length from HT.sIx_nat _ _ 1, List.length_cons]; omega
  have h2 : HT.sIx (x :: r).length (x :: r).length none = (x :: r).length := rfl
  rw [h1, h2, List.drop_succ_cons, List.drop_zero]
  exact List.take_of_length_le (by rw [List.length_cons]; omega)
theorem any3 {a b c w : Str} : List.any [a, b, c] (· == w) = (w == a || w == b || w == c) := by
  simp only [List.any_cons, List.any_nil, Bool.or_false, Bool.or_assoc]
  rw [Bool.beq_comm (a := a), Bool.beq_comm (a := b), Bool.beq_comm (a := c)]
theorem any2 {a b w : Str} : List.any [a, b] (· == w) = (w == a || w == b) := by
  simp only [List.any_cons, List.any_nil, Bool.or_false]
  rw [Bool.beq_comm (a := a), Bool.beq_comm (a := b)]
def par3S (i j l : Nat) (ρ : Rho) (xs : List DV) (κ1 : Kap) : OutS := match xs with
  | [x, y, z] => .nx (((ρ.set i (some x)).set j (some y)).set l (some z)) κ1
  | _ => .bad
theorem wPar3 {i j l : Nat} {Z : Po} : wP (mPar3 i j l ma ρ κ) Z = wO (ma ρ κ) fun xs κ1 => wP (par3S i j l ρ xs κ1) Z := by
  unfold mPar3; simp only [wP_bind]; rfl
theorem wPar3k {i j l : Nat} {Z : Po} {x y z : DV} : wP (par3S i j l ρ [x, y, z] κ) Z = Z.nx (((ρ.set i (some x)).set j (some y)).set l (some z)) κ := propext Iff.rfl
/-- a loop that goes back with False at the first that is none -/
theorem forAllB {G : MG} {s : MS} {P : PyData → Bool} {κ : Kap} {Z : Po} (I : Rho → Prop) : ∀ (ds : List PyData) (ρ : Rho), I ρ →
    (∀ d ∈ ds, ∀ (ρ : Rho) (Z' : Po), I ρ → (P d = true → ∀ ρ', I ρ' → Z'.nx ρ' κ) → (P d = false → Z'.rt (.d (.bool false)) κ) → match G (.d d) ρ κ with
      | none => False
      | some p => wP (s p.1 p.2) Z') →
    (∀ ρ, I ρ → ds.all P = true → Z.nx ρ κ) → (ds.all P = false → Z.rt (.d (.bool false)) κ) → wP (forGo G s ds ρ κ) Z
  | [], ρ, h0, _, hn, _ => hn ρ h0 rfl
  | d :: r, ρ, h0, hs, hn, hr => by
    rw [wForCons]
    refine hs d (List.mem_cons_self ..) ρ _ h0 (fun e ρ' h1 => ?_) (fun e => ?_)
    · refine forAllB I r ρ' h1 (fun d m => hs d (List.mem_cons_of_mem _ m)) (fun ρ h2 e2 => hn ρ h2 ?_) (fun e2 => hr ?_)
      · rw [List.all_cons, e, e2]; rfl
      · rw [List.all_cons, e, e2]; rfl
    · exact hr (by rw [List.all_cons, e]; rfl)
end

end Law

namespace Law
open DL L2 PyProof.Rows PySem PySem.Spec
local macro_rules | `(tactic| walk_at "w") => `(tactic| simp only [wDef0, wDef1, wDef2, wDef3, List.replicate, Nat.reduceSub, wSeq, wIf, wTb, wTr, wBin, wUn, wVar, wC, wCal, wCall, wCallK, wNil, wCons, wConsC, wLst, wTup, wNotT, wAndT, wOrT, wAnd, wOr, wNotE, wIfE, wChain, wNext, wSet, wSetC, wRet, wDrop, wAsg, wPar, wFor, wLc, wYes, wSl, wNoP, wPt, wRng1, wSrcA, wSrcS, wIsI, wIsI2, wCm, wMs, wRev, wPar3, wPar3k, wZipA, wZipLL, Option.bind_some, wDivm, wDget, wPNil, wPCons, wDisp, wDin, wDinS, wEqS, wEqB, wEqNS, wIsN, wInC, wOrdC, wInT, wInNT, wNinT, wNinNT, ix0, ix1,
  wOpt, tK_some, bK_some, bK_le, bK_lt, wGtI, wLtI, wLeI, wGeI, wModI, wFdivI, wMulI, wAddI, wSubI, wEqI, wNeI, wSlL, wSlN, wSlT, wSlS, wLenL, wLenT, wLenS, wIntT, wTupleN, wMin2, wAddNN, wAddLN, wAddNL, wAddLL, wAddTT, wAddSS, wMulN, wMulT, wMulS, fz_d, fz_n, fz_c, allD, put, truD, bName, bTup, bCons, bNil, wipeR,
  List.getElem?_cons_zero, List.getElem?_cons_succ, List.set_cons_zero, List.set_cons_succ, List.length_set, List.length_cons, List.length_nil, Option.map_some, Option.map_none, if_true, Bool.false_eq_true, if_false, Bool.not_true, Bool.not_false, List.map_cons, List.map_nil, true_and, and_true, Nat.reduceAdd, Nat.reduceLeDiff])
local macro_rules | `(tactic| walk_at "b") => `(tactic| simp (disch := assumption) only [ixB0, ixB1, ixB2, DL.subB0, DL.subB2, Option.bind_some, wDef0, wDef1, wDef2, wDef3, List.replicate, Nat.reduceSub, wSeq, wIf, wTb, wTr, wBin, wUn, wVar, wC, wCal, wCall, wCallK, wNil, wCons, wConsC, wLst, wTup, wNotT, wAndT, wOrT, wAnd, wOr, wNotE, wIfE, wChain, wNext, wSet, wSetC, wRet, wDrop, wAsg, wPar, wFor, wLc, wYes, wSl, wNoP, wPt, wRng1, wSrcA, wSrcS, wIsI, wIsI2, wCm, wMs, wRev, wPar3, wPar3k, wZipA, wZipLL, Option.bind_some, wDivm, wDget, wPNil, wPCons, wDisp, wDin, wDinS, wEqS, wEqB, wEqNS, wIsN, wInC, wOrdC, wInT, wInNT, wNinT, wNinNT, ix0, ix1,
  wOpt, tK_some, bK_some, bK_le, bK_lt, wGtI, wLtI, wLeI, wGeI, wModI, wFdivI, wMulI, wAddI, wSubI, wEqI, wNeI, wSlL, wSlN, wSlT, wSlS, wLenL, wLenT, wLenS, wIntT, wTupleN, wMin2, wAddNN, wAddLN, wAddNL, wAddLL, wAddTT, wAddSS, wMulN, wMulT, wMulS, fz_d, fz_n, fz_c, allD, put, truD, bName, bTup, bCons, bNil, wipeR,
  List.getElem?_cons_zero, List.getElem?_cons_succ, List.set_cons_zero, List.set_cons_succ, List.length_set, List.length_cons, List.length_nil, Option.map_some, Option.map_none, if_true, Bool.false_eq_true, if_false, Bool.not_true, Bool.not_false, List.map_cons, List.map_nil, true_and, and_true, Nat.reduceAdd, Nat.reduceLeDiff])
local macro_rules | `(tactic| walk_at "t") => `(tactic| (try walk_at "w"))
local macro_rules | `(tactic| walk_at "x") => `(tactic| simp (maxSteps := 4000000) only [wDef0, wDef1, wDef2, wDef3, List.replicate, Nat.reduceSub, wSeq, wIf, wTb, wTr, wBin, wUn, wVar, wC, wCal, wCall, wCallK, wNil, wCons, wConsC, wLst, wTup, wNotT, wAndT, wOrT, wAnd, wOr, wNotE, wIfE, wChain, wNext, wSet, wSetC, wRet, wDrop, wAsg, wPar, wFor, wLc, wYes, wSl, wNoP, wPt, wRng1, wSrcA, wSrcS, wIsI, wIsI2, wCm, wMs, wRev, wPar3, wPar3k, wZipA, wZipLL, Option.bind_some, wDivm, wDget, wPNil, wPCons, wDisp, wDin, wDinS, wEqS, wEqB, wEqNS, wIsN, wInC, wOrdC, wInT, wInNT, wNinT, wNinNT, ix0, ix1,
  wOpt, tK_some, bK_some, bK_le, bK_lt, wGtI, wLtI, wLeI, wGeI, wModI, wFdivI, wMulI, wAddI, wSubI, wEqI, wNeI, wSlL, wSlN, wSlT, wSlS, wLenL, wLenT, wLenS, wIntT, wTupleN, wMin2, wAddNN, wAddLN, wAddNL, wAddLL, wAddTT, wAddSS, wMulN, wMulT, wMulS, fz_d, fz_n, fz_c, allD, put, truD, bName, bTup, bCons, bNil, wipeR,
  List.getElem?_cons_zero, List.getElem?_cons_succ, List.set_cons_zero, List.set_cons_succ, List.length_set, List.length_cons, List.length_nil, Option.map_some, Option.map_none, if_true, Bool.false_eq_true, if_false, Bool.not_true, Bool.not_false, List.map_cons, List.map_nil, true_and, and_true, Nat.reduceAdd, Nat.reduceLeDiff])
section
variable {κ : Kap} {ρ : Rho} {j N : Nat} {a b c : Int} {q Q : DV → Kap → Prop} {d : PyData} {m m1 m2 : ME} {qi : List PyData → Kap → Prop} {ma : MA} {Z : Po}
def augO (i : Nat) (ρ : Rho) (x : Option (Option DV)) (y : DV) (κ : Kap) : OutS := match x, y with
  | some (some (.d x)), .d y => match augF x y with
    | some z => .nx (ρ.set i (some (.d z))) κ
    | none => .bad
  | _, _ => .bad
theorem augS {i : Nat} {x : Str} (hr : ρ[i]? = some (some (.d (.str x)))) (h : wO (m ρ κ) fun y κ1 => ∃ s : Str, y = .d (.str s) ∧ x.length + s.length ≤ 16000000 ∧ Z.nx (ρ.set i (some (.d (.str (x ++ s))))) κ1) : wP (mAug i m ρ κ) Z := by
  unfold mAug
  rw [hr]
  simp only [wP_bind]
  refine h.mono fun y κ1 ⟨s, e, l, g⟩ => ?_
  subst e
  simp only [augF]
  rw [if_pos l]
  exact g
theorem strsD_map : ∀ ks : List Str, strsD (ks.map .str) = some ks
  | [] => rfl
  | k :: ks => by rw [List.map_cons, strsD, strsD_map ks]; rfl
theorem sortSetW {ks : List Str} {x : DV} (hx : lv κ x = some (ks.map .str)) (h : ks.length < 4000) (g : q (.n ((sortedL ks).map .str)) κ) : wO (opt κ (sortSetD κ [x])) q := by
  have e : sortSetD κ [x] = some (.n ((sortedL ks).map .str)) := by
    show ((lv κ x).bind fun ys => _) = _
    rw [hx]
    simp only [Option.bind_some, strsD_map]
    exact if_pos h
  rw [e]
  exact g
theorem wCallZ {f : MF} : wO (mCallZ f ma ρ κ) q = wO (ma ρ κ) fun xs κ1 => wO (match brwA κ1 xs with
    | some ds => lentO κ1 (f (ds.map .d) [])
    | none => .bad) q := by
  unfold mCallZ; simp only [wO_bind] <;> rfl
theorem lent_w {o : Out DV} {κ1 : Kap} {x : PyData} (hp : plainD x = true) (h : wO o fun y _ => y = .d x) (g : q (.d x) κ1) : wO (lentO κ1 o) q := by
  cases o with
  | ok y κ2 =>
    have h : y = .d x := h
    subst h
    unfold lentO
    dsimp only
    rw [if_pos hp]
    exact g
  | _ => exact h.elim
/-- two clauses: each outer item gives the items of its list, as they are -/
theorem lc2Flat {G : MG} {src1 : MI} {i1 : Nat} {vs1 : List Nat} {ρ : Rho} {A : Type} {f : A → PyData} {F : A → List PyData} : ∀ (ds : List A) (acc : List PyData), (∀ d ∈ ds, ∃ ρ', G (.d (f d)) ρ κ = some (ρ', κ) ∧ i1 < ρ'.length ∧ vs1 = [i1] ∧ ∀ q : List PyData → Kap → Prop, q (F d) κ → wO (src1 ρ' κ) q) →
    acc.length + (ds.map F).flatten.length ≤ 1000000 → q (.n (acc ++ (ds.map F).flatten)) κ → wO (lcGo2 G mYes src1 vs1 (bName i1) mYes (mVar i1) ρ (ds.map f) acc κ) q
  | [], acc, _, _, h => by
    have h : q (.n (acc ++ [])) κ := h
    rw [List.append_nil] at h
    exact h
  | d :: r, acc, hs, hl, h => by
    obtain ⟨ρ', e1, e2, e3, e4⟩ := hs d List.mem_cons_self
    subst e3
    rw [List.map_cons, List.flatten_cons] at hl h
    rw [List.map_cons]
    rw [List.length_append] at hl
    simp only [lcGo2, e1, wO_bind, wO_noex, wYes, if_true]
    refine e4 _ ?_
    have inner : ∀ (es ac : List PyData), ac.length + es.length ≤ 1000000 → lcGo (bName i1) mYes (mVar i1) (wipeR ρ' [i1]) es ac κ = .ok (.n (ac ++ es)) κ := by
      intro es
      induction es with
      | nil => intro ac _; rw [List.append_nil]; rfl
      | cons x es ih =>
        intro ac hl
        rw [List.length_cons] at hl
        have hg : ((wipeR ρ' [i1]).set i1 (some (.d x)))[i1]? = some (some (DV.d x)) := by
          rw [List.getElem?_set_self]
          show i1 < (wipeR ρ' [i1]).length
          simp only [wipeR, List.length_set]
          exact e2
        unfold lcGo
        simp only [bName, mYes, noex, Out.bind, if_true, mVar, hg, fz]
        rw [if_pos (by omega), ih _ (by rw [List.length_append, List.length_singleton]; omega), List.append_assoc]
        rfl
    rw [inner (F d) acc (by omega)]
    exact lc2Flat r _ (fun d m => hs d (List.mem_cons_of_mem _ m)) (by rw [List.length_append]; omega) (by rw [List.append_assoc]; exact h)
theorem wLc2 {src : MI} {G G1 : MG} {t t1 : MT} {src1 : MI} {el : ME} {vs vs1 : List Nat} : wO (mLc2 src G t src1 vs1 G1 t1 el vs ρ κ) q = wO (src ρ κ) fun ds κ1 => wO (lcGo2 G t src1 vs1 G1 t1 el (wipeR ρ vs) ds [] κ1) q := by
  unfold mLc2; simp only [wO_bind]
/-- a comprehension of one clause with a test, reading alone -/
theorem lcFilt {G : MG} {t : MT} {el : ME} {ρ : Rho} {F : PyData → PyData} {P : PyData → Bool} : ∀ (ds acc : List PyData), (∀ d ∈ ds, ∃ ρ', G (.d d) ρ κ = some (ρ', κ) ∧ (∀ qt : Bool → Kap → Prop, qt (P d) κ → wO (t ρ' κ) qt) ∧ (P d = true → ∀ q : DV → Kap → Prop, q (.d (F d)) κ → wO (el ρ' κ) q)) →
    acc.length + ds.length ≤ 1000000 → q (.n (acc ++ (ds.filter P).map F)) κ → wO (lcGo G t el ρ ds acc κ) q
  | [], acc, _, _, h => by
    have h : q (.n (acc ++ [])) κ := h
    rw [List.append_nil] at h
    exact h
  | d :: r, acc, hs, hl, h => by
    obtain ⟨ρ', e1, e2, e3⟩ := hs d List.mem_cons_self
    rw [List.length_cons] at hl
    unfold lcGo
    simp only [e1, wO_bind, wO_noex]
    refine e2 _ ?_
    cases e : P d with
    | false =>
      simp only [Bool.false_eq_true, if_false]
      refine lcFilt r acc (fun d m => hs d (List.mem_cons_of_mem _ m)) (by omega) ?_
      rw [List.filter_cons_of_neg (by rw [e]; exact Bool.false_ne_true)] at h
      exact h
    | true =>
      simp only [if_true, wO_bind, wO_noex]
      refine e3 e _ ?_
      simp only [fz]
      rw [if_pos (by omega)]
      refine lcFilt r _ (fun d m => hs d (List.mem_cons_of_mem _ m)) (by rw [List.length_append, List.length_singleton]; omega) ?_
      rw [List.filter_cons_of_pos e, List.map_cons] at h
      rw [List.append_assoc]
      exact h
theorem get_app {κ : Kap} {x : Cell} : (κ ++ [x])[κ.length]? = some x := by simp
theorem set_app1 {κ : Kap} {x y : Cell} : (κ ++ [x]).set κ.length y = κ ++ [y] := by simp
/-- a sign of a written text whose signs stand one behind the other -/
theorem ixLit {x : Str} {base len : Nat} (hx : (decide (x.length = len) && (List.range len).all fun n => x.cps.toList[n]? == some (base + n)) = true) (hl : len ≤ 1000) {i : Int} (h0 : 0 ≤ i) (h1 : i < len) : ixD κ (.d (.str x)) (.d (.int i)) = some (.d (.str ⟨#[base + i.toNat]⟩)) := by
  rw [Bool.and_eq_true] at hx
  have e1 := of_decide_eq_true hx.1
  have e2 := List.all_eq_true.mp hx.2 i.toNat (List.mem_range.mpr (by omega))
  have e2 := eq_of_beq e2
  show (if x.length ≤ 16000000 then (atI x.cps.toList i).map fun c => DV.d (.str ⟨#[c]⟩) else none) = _
  rw [if_pos (by omega)]
  have e3 : x.cps.toList.length = len := e1
  unfold atI ixN
  rw [if_pos h0, if_pos (by omega)]
  show ((x.cps.toList[i.toNat]?).map fun c => DV.d (.str ⟨#[c]⟩)) = _
  rw [e2]
  rfl
theorem wTupleT {ds : List PyData} : wO (opt κ (tupleD κ [.d (.tuple ds)])) q = q (.d (.tuple ds)) κ := propext Iff.rfl
theorem wNeS {x y : Str} : wO (opt κ (neD κ (.d (.str x)) (.d (.str y)))) q = q (.d (.bool (!(x == y)))) κ := by
  have h : neD κ (.d (.str x)) (.d (.str y)) = some (.d (.bool (!(x == y)))) := by
    simp only [neD, eqD, lvS]; rfl
  rw [h]; rfl
theorem KOk.appC {κ : Kap} (h : KOk κ) {ds : List PyData} : KOk (κ ++ [cl ds]) := h.app ds
end

end Law

namespace Law
open DL L2 PyProof.Rows PySem PySem.Spec
local macro_rules | `(tactic| walk_at "w") => `(tactic| simp only [wDef0, wDef1, wDef2, wDef3, List.replicate, Nat.reduceSub, wSeq, wIf, wTb, wTr, wBin, wUn, wVar, wC, wCal, wCall, wCallK, wNil, wCons, wConsC, wLst, wTup, wNotT, wAndT, wOrT, wAnd, wOr, wNotE, wIfE, wChain, wNext, wSet, wSetC, wRet, wDrop, wAsg, wPar, wFor, wLc, wYes, wSl, wNoP, wPt, wRng1, wSrcA, wSrcS, wIsI, wIsI2, wCm, wMs, wRev, wPar3, wPar3k, wZipA, wZipLL, Option.bind_some, wDivm, wDget, wPNil, wPCons, wDisp, wDin, wDinS, wEqS, wEqB, wEqNS, wIsN, wInC, wOrdC, wInT, wInNT, wNinT, wNinNT, ix0, ix1,
  wOpt, tK_some, bK_some, bK_le, bK_lt, wGtI, wLtI, wLeI, wGeI, wModI, wFdivI, wMulI, wAddI, wSubI, wEqI, wNeI, wSlL, wSlN, wSlT, wSlS, wLenL, wLenT, wLenS, wIntT, wTupleN, wMin2, wAddNN, wAddLN, wAddNL, wAddLL, wAddTT, wAddSS, wMulN, wMulT, wMulS, fz_d, fz_n, fz_c, allD, put, truD, bName, bTup, bCons, bNil, wipeR,
  List.getElem?_cons_zero, List.getElem?_cons_succ, List.set_cons_zero, List.set_cons_succ, List.length_set, List.length_cons, List.length_nil, Option.map_some, Option.map_none, if_true, Bool.false_eq_true, if_false, Bool.not_true, Bool.not_false, List.map_cons, List.map_nil, true_and, and_true, Nat.reduceAdd, Nat.reduceLeDiff])
local macro_rules | `(tactic| walk_at "b") => `(tactic| simp (disch := assumption) only [ixB0, ixB1, ixB2, DL.subB0, DL.subB2, Option.bind_some, wDef0, wDef1, wDef2, wDef3, List.replicate, Nat.reduceSub, wSeq, wIf, wTb, wTr, wBin, wUn, wVar, wC, wCal, wCall, wCallK, wNil, wCons, wConsC, wLst, wTup, wNotT, wAndT, wOrT, wAnd, wOr, wNotE, wIfE, wChain, wNext, wSet, wSetC, wRet, wDrop, wAsg, wPar, wFor, wLc, wYes, wSl, wNoP, wPt, wRng1, wSrcA, wSrcS, wIsI, wIsI2, wCm, wMs, wRev, wPar3, wPar3k, wZipA, wZipLL, Option.bind_some, wDivm, wDget, wPNil, wPCons, wDisp, wDin, wDinS, wEqS, wEqB, wEqNS, wIsN, wInC, wOrdC, wInT, wInNT, wNinT, wNinNT, ix0, ix1,
  wOpt, tK_some, bK_some, bK_le, bK_lt, wGtI, wLtI, wLeI, wGeI, wModI, wFdivI, wMulI, wAddI, wSubI, wEqI, wNeI, wSlL, wSlN, wSlT, wSlS, wLenL, wLenT, wLenS, wIntT, wTupleN, wMin2, wAddNN, wAddLN, wAddNL, wAddLL, wAddTT, wAddSS, wMulN, wMulT, wMulS, fz_d, fz_n, fz_c, allD, put, truD, bName, bTup, bCons, bNil, wipeR,
  List.getElem?_cons_zero, List.getElem?_cons_succ, List.set_cons_zero, List.set_cons_succ, List.length_set, List.length_cons, List.length_nil, Option.map_some, Option.map_none, if_true, Bool.false_eq_true, if_false, Bool.not_true, Bool.not_false, List.map_cons, List.map_nil, true_and, and_true, Nat.reduceAdd, Nat.reduceLeDiff])
local macro_rules | `(tactic| walk_at "t") => `(tactic| (try walk_at "w"))
local macro_rules | `(tactic| walk_at "x") => `(tactic| simp (maxSteps := 4000000) only [wDef0, wDef1, wDef2, wDef3, List.replicate, Nat.reduceSub, wSeq, wIf, wTb, wTr, wBin, wUn, wVar, wC, wCal, wCall, wCallK, wNil, wCons, wConsC, wLst, wTup, wNotT, wAndT, wOrT, wAnd, wOr, wNotE, wIfE, wChain, wNext, wSet, wSetC, wRet, wDrop, wAsg, wPar, wFor, wLc, wYes, wSl, wNoP, wPt, wRng1, wSrcA, wSrcS, wIsI, wIsI2, wCm, wMs, wRev, wPar3, wPar3k, wZipA, wZipLL, Option.bind_some, wDivm, wDget, wPNil, wPCons, wDisp, wDin, wDinS, wEqS, wEqB, wEqNS, wIsN, wInC, wOrdC, wInT, wInNT, wNinT, wNinNT, ix0, ix1,
  wOpt, tK_some, bK_some, bK_le, bK_lt, wGtI, wLtI, wLeI, wGeI, wModI, wFdivI, wMulI, wAddI, wSubI, wEqI, wNeI, wSlL, wSlN, wSlT, wSlS, wLenL, wLenT, wLenS, wIntT, wTupleN, wMin2, wAddNN, wAddLN, wAddNL, wAddLL, wAddTT, wAddSS, wMulN, wMulT, wMulS, fz_d, fz_n, fz_c, allD, put, truD, bName, bTup, bCons, bNil, wipeR,
  List.getElem?_cons_zero, List.getElem?_cons_succ, List.set_cons_zero, List.set_cons_succ, List.length_set, List.length_cons, List.length_nil, Option.map_some, Option.map_none, if_true, Bool.false_eq_true, if_false, Bool.not_true, Bool.not_false, List.map_cons, List.map_nil, true_and, and_true, Nat.reduceAdd, Nat.reduceLeDiff])
section
variable {κ l : Kap} {ρ : Rho} {i j n : Nat} {q Q : DV → Kap → Prop} {d : PyData} {m m1 m2 m3 : ME} {qi : List PyData → Kap → Prop} {ma : MA} {Z : Po}
/-! ### what the new rows come to -/
theorem wCget : wO (mCget m1 m2 ρ κ) q = wO (m1 ρ κ) fun x κ1 => wO (m2 ρ κ1) fun y κ2 => wO (cgetO x y κ2) q := by
  unfold mCget; simp only [wO_bind]
theorem wCput : wP (mCput m1 m2 m3 ρ κ) Z = wO (m3 ρ κ) fun x κ1 => wO (m1 ρ κ1) fun o κ2 => wO (m2 ρ κ2) fun y κ3 => wP (cputO (fz x) o y ρ κ3) Z := by
  unfold mCput; simp only [wP_bind]
theorem wDispC {r : MP} : wO (mDispC r ρ κ) q = wO (r ρ κ) fun xs κ1 => ((xs.map (·.1)).Nodup ∧ xs.length ≤ 15) ∧ q (.c κ1.length) (κ1 ++ [.dic xs]) := by
  unfold mDispC; simp only [wO_bind]
  congr 1; funext xs κ1
  by_cases h : (xs.map (·.1)).Nodup ∧ xs.length ≤ 15 <;> simp [h, wO]
theorem wLenSet : wO (mLenSet m ρ κ) q = wO (m ρ κ) fun x κ1 => wO (opt κ1 (lenSetD κ1 [x])) q := by
  unfold mLenSet; simp only [wO_bind]
def tidxO (ks : List Str) (xs : List DV) (κ : Kap) : Out DV := match xs with
  | [.d (.str a)] => (match tidxF ks a with
    | some i => .ok (.d (.int i)) κ
    | none => .bad)
  | _ => .bad
theorem wTidx {ks : List Str} : wO (mTidx ks ma ρ κ) q = wO (ma ρ κ) fun xs κ1 => wO (tidxO ks xs κ1) q := by
  unfold mTidx; simp only [wO_bind]; rfl
def enumO (xs : List DV) (κ1 : Kap) : Out (List PyData) := match xs with
  | [.d (.list ds)] => .ok (enumD 0 ds) κ1
  | [.d (.tuple ds)] => .ok (enumD 0 ds) κ1
  | _ => .bad
theorem wEnumA : wO (mEnumA ma ρ κ) qi = wO (ma ρ κ) fun xs κ1 => wO (enumO xs κ1) qi := by
  unfold mEnumA; rw [wO_bind]; rfl
theorem dK_fin {np nl : Nat} {s : MS} {xs : List DV} (h : xs.length = np) : wO (mDefK np nl s xs κ) q = wP (s (rho0 nl xs) κ) { nx := fun ρ κ' => wO (finK (.nx ρ κ')) q, rt := fun x κ' => wO (finK (.rt x κ')) q } := by
  unfold mDefK
  rw [if_pos h]
  cases s (rho0 nl xs) κ <;> rfl

/-! ### the state of the laws about plans: cells and turn -/
structure Sv where
  cs : List Int
  t : Int
def dxc (i : Nat) (t : Int) : Cell := .dic [(.inr "cells", .c i), (.inr "turn", .d (.int t))]
def Sx (i j : Nat) (κ : Kap) (v : Sv) : Kap := (κ.set i (cl (v.cs.map .int))).set j (dxc i v.t)
structure In2 (i j : Nat) (κ : Kap) : Prop where
  li : i < κ.length
  lj : j < κ.length
  ne : i ≠ j
  ok : KOk κ
/-- a state of at most so many turns -/
structure Tn (T : Int) (v : Sv) : Prop where
  cs : v.cs ≠ []
  t0 : 0 ≤ v.t
  t1 : v.t ≤ T
theorem Tn.up {T T' : Int} {v : Sv} (h : Tn T v) (l : T ≤ T') : Tn T' v := ⟨h.cs, h.t0, Int.le_trans h.t1 l⟩
theorem In2.app (h : In2 i j κ) {ds : List PyData} : In2 i j (κ ++ [cl ds]) := ⟨by rw [List.length_append]; have := h.li; omega, by rw [List.length_append]; have := h.lj; omega, h.ne, h.ok.app ds⟩
theorem KOk.setC {c : Cell} {n : Nat} (h : KOk κ) (hc : c.below κ.length = true) : KOk (κ.set n c) := by
  unfold KOk at *
  rw [List.all_eq_true] at *
  rw [List.length_set]
  intro x m
  rcases List.mem_or_eq_of_mem_set m with m | rfl
  · exact h x m
  · exact hc
theorem In2.appD (h : In2 i j κ) : In2 i j (κ ++ [.dead]) := by
  have e : (κ ++ [cl []]).set κ.length .dead = κ ++ [.dead] := set_app1
  refine ⟨by rw [List.length_append]; have := h.li; omega, by rw [List.length_append]; have := h.lj; omega, h.ne, ?_⟩
  rw [← e]
  exact KOk.setC (h.ok.app []) rfl
variable {v v' : Sv}
theorem Sx_len : (Sx i j κ v).length = κ.length := by unfold Sx; rw [List.length_set, List.length_set]
theorem Sx_app (h : In2 i j κ) : Sx i j κ v ++ l = Sx i j (κ ++ l) v := by
  unfold Sx
  rw [List.set_append_left _ _ h.li, List.set_append_left _ _ (by rw [List.length_set]; exact h.lj)]
theorem Sx_j (h : In2 i j κ) : (Sx i j κ v)[j]? = some (dxc i v.t) := by
  unfold Sx
  rw [List.getElem?_set_self (by rw [List.length_set]; exact h.lj)]
theorem Sx_i (h : In2 i j κ) : (Sx i j κ v)[i]? = some (cl (v.cs.map .int)) := by
  unfold Sx
  rw [List.getElem?_set_ne h.ne.symm, List.getElem?_set_self h.li]
theorem Sx_ne (h1 : n ≠ i) (h2 : n ≠ j) : (Sx i j κ v)[n]? = κ[n]? := by
  unfold Sx
  rw [List.getElem?_set_ne (Ne.symm h2), List.getElem?_set_ne (Ne.symm h1)]
theorem Sx_set {n : Nat} {x : Cell} (h1 : n ≠ i) (h2 : n ≠ j) : (Sx i j κ v).set n x = Sx i j (κ.set n x) v := by
  unfold Sx
  rw [List.set_comm _ _ h2.symm, List.set_comm _ _ h1.symm]
theorem Sx_last (h : In2 i j κ) {y : Cell} : (Sx i j (κ ++ [y]) v)[κ.length]? = some y := by
  rw [Sx_ne (Nat.ne_of_gt h.li) (Nat.ne_of_gt h.lj), List.getElem?_append_right (Nat.le_refl _), Nat.sub_self]; rfl
theorem Sx_setLast (h : In2 i j κ) {y z : Cell} : (Sx i j (κ ++ [y]) v).set κ.length z = Sx i j (κ ++ [z]) v := by
  rw [Sx_set (Nat.ne_of_gt h.li) (Nat.ne_of_gt h.lj)]
  congr 1
  rw [List.set_append_right _ _ (Nat.le_refl _), Nat.sub_self]; rfl
theorem cl_below {n : Nat} (ds : List PyData) : (cl ds).below n = true := by
  show (ds.map DV.d).all (DV.below n) = true
  rw [List.all_map, List.all_eq_true]
  intro x _
  rfl
theorem Sx_ok (h : In2 i j κ) : KOk (Sx i j κ v) := by
  have h1 := h.li
  refine KOk.setC (KOk.setC h.ok (cl_below _)) ?_
  rw [List.length_set]
  simp [dxc, Cell.below, DV.below, h1]
theorem finS (h : In2 i j κ) {x : PyData} : wO (fin κ.length (.rt (.d x) (Sx i j κ v))) q = q (.d x) (Sx i j κ v) := finD0 (Sx_ok h) Sx_len.symm
theorem finSn (h : In2 i j κ) {x : List PyData} : wO (fin κ.length (.rt (.n x) (Sx i j κ v))) q = q (.n x) (Sx i j κ v) := finN0 (Sx_ok h) Sx_len.symm
theorem finS1 (h : In2 i j κ) {x : PyData} : wO (fin κ.length (.rt (.d x) (Sx i j (κ ++ l) v))) q = q (.d x) (Sx i j κ v) := by
  rw [← Sx_app h]; exact finD (Sx_ok h) Sx_len.symm
theorem finSn1 (h : In2 i j κ) {x : List PyData} : wO (fin κ.length (.rt (.n x) (Sx i j (κ ++ l) v))) q = q (.n x) (Sx i j κ v) := by
  rw [← Sx_app h]; exact finN (Sx_ok h) Sx_len.symm
theorem finSc (h : In2 i j κ) {ds : List PyData} : wO (fin κ.length (.rt (.c κ.length) (Sx i j (κ ++ [cl ds]) v))) q = q (.n ds) (Sx i j κ v) := by
  rw [← Sx_app h, finC (ds := ds) (Sx_ok h) Sx_len.symm (Nat.le_refl _) (by
    rw [Sx_app h]
    unfold lv
    dsimp only
    rw [Sx_last h]
    exact allD_map ds)]
theorem wCgT (h : In2 i j κ) : wO (cgetO (.c j) (.d (.str "turn")) (Sx i j κ v)) q = q (.d (.int v.t)) (Sx i j κ v) := by
  unfold cgetO
  dsimp only
  rw [Sx_j h]
  exact propext Iff.rfl
theorem wCgC (h : In2 i j κ) : wO (cgetO (.c j) (.d (.str "cells")) (Sx i j κ v)) q = q (.c i) (Sx i j κ v) := by
  unfold cgetO
  dsimp only
  rw [Sx_j h]
  exact propext Iff.rfl
theorem wCpT (h : In2 i j κ) {t : Int} : wP (cputO (.d (.int t)) (.c j) (.d (.str "turn")) ρ (Sx i j κ v)) Z = Z.nx ρ (Sx i j κ ⟨v.cs, t⟩) := by
  unfold cputO
  dsimp only
  rw [Sx_j h]
  have e : (Sx i j κ v).set j (.dic [(.inr "cells", .c i), (.inr "turn", .d (.int t))]) = Sx i j κ ⟨v.cs, t⟩ := by
    unfold Sx dxc
    rw [List.set_set]
  rw [← e]
  exact propext Iff.rfl
theorem lvSx (h : In2 i j κ) : lvS (Sx i j κ v) (.c i) = some (v.cs.map .int) := by
  unfold lvS lv
  dsimp only
  rw [Sx_i h]
  exact allD_map _
theorem wLenCs (h : In2 i j κ) : wO (opt (Sx i j κ v) (lenD (Sx i j κ v) [.c i])) q = q (.d (.int v.cs.length)) (Sx i j κ v) := by
  show wO (opt (Sx i j κ v) ((lvS (Sx i j κ v) (.c i)).map fun ys => DV.d (.int ys.length))) q = _
  rw [lvSx h, Option.map_some, wOpt, List.length_map]
theorem ixCs (h : In2 i j κ) {k : Int} {c : Int} (h0 : 0 ≤ k) (h1 : k < v.cs.length) (e : v.cs[k.toNat]? = some c) : ixD (Sx i j κ v) (.c i) (.d (.int k)) = some (.d (.int c)) := by
  unfold ixD
  dsimp only
  rw [Sx_i h]
  dsimp only
  have a : atI ((v.cs.map PyData.int).map DV.d) k = some (.d (.int c)) := by
    unfold atI ixN
    rw [if_pos h0, if_pos (by rw [List.length_map, List.length_map]; exact h1)]
    show ((v.cs.map PyData.int).map DV.d)[k.toNat]? = _
    rw [List.getElem?_map, List.getElem?_map, e]; rfl
  rw [a]
theorem setCs (h : In2 i j κ) {k z : Int} {s n : Nat} (h0 : 0 ≤ k) (h1 : k < v.cs.length) (hs : ρ[s]? = some (some (.c j))) (hn : ρ[n]? = some (some (.d (.int k)))) :
    bSub (mCget (mVar s) (mC (.str "cells"))) (mVar n) (.d (.int z)) ρ (Sx i j κ v) = some (ρ, Sx i j κ ⟨v.cs.set k.toNat z, v.t⟩) := by
  have e1 : mCget (mVar s) (mC (.str "cells")) ρ (Sx i j κ v) = .ok (.c i) (Sx i j κ v) := by
    unfold mCget mVar
    rw [hs]
    show cgetO (.c j) (.d (.str "cells")) (Sx i j κ v) = _
    unfold cgetO
    dsimp only
    rw [Sx_j h]; rfl
  have e2 : mVar n ρ (Sx i j κ v) = .ok (.d (.int k)) (Sx i j κ v) := by
    unfold mVar
    rw [hn]
  have e3 : ixN ((v.cs.map PyData.int).map DV.d).length k = some k.toNat := by
    unfold ixN
    rw [if_pos h0, if_pos (by rw [List.length_map, List.length_map]; exact h1)]
  have e4 : (Sx i j κ v).set i (.lst (((v.cs.map PyData.int).map DV.d).set k.toNat (.d (.int z)))) = Sx i j κ ⟨v.cs.set k.toNat z, v.t⟩ := by
    have e5 : ((v.cs.map PyData.int).map DV.d).set k.toNat (.d (.int z)) = ((v.cs.set k.toNat z).map PyData.int).map DV.d := by
      rw [List.map_set, List.map_set]
    rw [e5]
    unfold Sx
    rw [List.set_comm _ _ h.ne.symm, List.set_set]
  unfold bSub
  rw [e1]
  dsimp only
  rw [e2]
  dsimp only
  rw [Sx_i h]
  dsimp only
  rw [e3]
  dsimp only
  rw [e4]
theorem lvS_Sx (h : In2 i j κ) {ds : List PyData} : lvS (Sx i j (κ ++ [cl ds]) v) (.c κ.length) = some ds := by
  unfold lvS lv
  dsimp only
  rw [Sx_last h]
  exact allD_map ds
theorem wLenOwn (h : In2 i j κ) {ds : List PyData} : wO (opt (Sx i j (κ ++ [cl ds]) v) (lenD (Sx i j (κ ++ [cl ds]) v) [.c κ.length])) q = q (.d (.int ds.length)) (Sx i j (κ ++ [cl ds]) v) := by
  show wO (opt _ ((lvS (Sx i j (κ ++ [cl ds]) v) (.c κ.length)).map fun ys => DV.d (.int ys.length))) q = _
  rw [lvS_Sx h, Option.map_some, wOpt]
theorem tupOwn (h : In2 i j κ) {ds : List PyData} : tupleD (Sx i j (κ ++ [cl ds]) v) [.c κ.length] = some (.d (.tuple ds)) := by
  show (lvS (Sx i j (κ ++ [cl ds]) v) (.c κ.length)).map _ = _
  rw [lvS_Sx h]; rfl
theorem slOwn (h : In2 i j κ) {ds : List PyData} {lo hi : Option Int} : slD (Sx i j (κ ++ [cl ds]) v) (.c κ.length) lo hi = some (.n (DL.cutD ds lo hi)) := by
  unfold slD
  dsimp only
  rw [lvS_Sx h]; rfl
theorem ixOwn (h : In2 i j κ) {ds : List PyData} {k : Int} {y : PyData} (h0 : 0 ≤ k) (h1 : k < ds.length) (e : ds[k.toNat]? = some y) : ixD (Sx i j (κ ++ [cl ds]) v) (.c κ.length) (.d (.int k)) = some (.d y) := by
  unfold ixD
  dsimp only
  rw [Sx_last h]
  dsimp only
  unfold atI ixN
  rw [if_pos h0, if_pos (by rw [List.length_map]; exact h1)]
  show (ds.map DV.d)[k.toNat]? = _
  rw [List.getElem?_map, e]; rfl
theorem ins_w2 {ds : List PyData} {k : Int} {x : PyData} (h0 : 0 ≤ k) (h1 : k < 1000000) (h2 : ds.length < 1000000) : insF (ds.map .d) [.d (.int k), .d x] = some (.d .none, (ds.take k.toNat ++ [x] ++ ds.drop k.toNat).map .d) := by
  unfold insF
  dsimp only
  rw [if_pos ⟨by rw [List.length_map]; exact h2, h0, h1⟩]
  simp [List.map_append, List.map_take, List.map_drop]
/-! ### loops of draws -/
/-- a comprehension of draws: each one takes at most B turns -/
theorem lcSx {n : Nat} {P : PyData → Prop} {el : ME} {ds acc : List PyData} {B : Int} {T : Int} (hB : 0 ≤ B)
    (step : ∀ (d : PyData) (v : Sv) (T' : Int) (q : DV → Kap → Prop), d ∈ ds → Tn T' v → T' ≤ T + B * ds.length → (∀ (x : PyData) (v' : Sv), P x → Tn (T' + B) v' → q (.d x) (Sx i j κ v')) → wO (el (ρ.set n (some (.d d))) (Sx i j κ v)) q)
    (hl : acc.length + ds.length ≤ 1000000) (hv : Tn T v) (ha : ∀ x ∈ acc, P x) (h : ∀ (ys : List PyData) (v' : Sv), (∀ x ∈ ys, P x) → ys.length = acc.length + ds.length → Tn (T + B * ds.length) v' → Q (.n ys) (Sx i j κ v')) :
    wO (lcGo (bName n) mYes el ρ ds acc (Sx i j κ v)) Q := by
  refine wLcI (fun r ac κ1 => ∃ v1, (∀ x ∈ ac, P x) ∧ ac.length + r.length = acc.length + ds.length ∧ (∀ d ∈ r, d ∈ ds) ∧ Tn (T + B * (ds.length - r.length : Nat)) v1 ∧ r.length ≤ ds.length ∧ κ1 = Sx i j κ v1) _ _ _ ⟨v, ha, rfl, fun _ m => m, by rw [Nat.sub_self]; simpa using hv, Nat.le_refl _, rfl⟩ ?_ ?_
  · rintro ac κ1 ⟨v1, h1, h2, _, h4, _, rfl⟩
    exact h _ _ h1 (by simpa using h2) (by simpa using h4)
  · rintro d r ac κ1 ⟨v1, h1, h2, h3, h4, h5, rfl⟩
    rw [List.length_cons] at h2 h4 h5
    simp only [bName, wYes, if_true]
    have e1 : (ds.length - r.length : Nat) = (ds.length - (r.length + 1) : Nat) + 1 := by omega
    have e2 : B * ((ds.length - r.length : Nat) : Int) = B * ((ds.length - (r.length + 1) : Nat) : Int) + B := by
      rw [e1, Int.natCast_add, Int.mul_add]; simp
    have e3 : B * ((ds.length - (r.length + 1) : Nat) : Int) ≤ B * (ds.length : Int) := Int.mul_le_mul_of_nonneg_left (by omega) hB
    refine step d v1 _ _ (h3 d List.mem_cons_self) h4 (by omega) fun x v2 hx hv2 => ?_
    simp only [fz]
    refine ⟨by omega, v2, fun y m => ?_, by rw [List.length_append, List.length_singleton]; omega, fun d m => h3 d (List.mem_cons_of_mem _ m), by rw [e2, ← Int.add_assoc]; exact hv2, by omega, rfl⟩
    rcases List.mem_append.mp m with m | m
    · exact h1 y m
    · rw [List.mem_singleton.mp m]; exact hx
end

end Law

namespace Law
open DL L2 PyProof.Rows PySem PySem.Spec
local macro_rules | `(tactic| walk_at "w") => `(tactic| simp only [wDef0, wDef1, wDef2, wDef3, List.replicate, Nat.reduceSub, wSeq, wIf, wTb, wTr, wBin, wUn, wVar, wC, wCal, wCall, wCallK, wNil, wCons, wConsC, wLst, wTup, wNotT, wAndT, wOrT, wAnd, wOr, wNotE, wIfE, wChain, wNext, wSet, wSetC, wRet, wDrop, wAsg, wPar, wFor, wLc, wYes, wSl, wNoP, wPt, wRng1, wSrcA, wSrcS, wIsI, wIsI2, wCm, wMs, wRev, wPar3, wPar3k, wZipA, wZipLL, Option.bind_some, wDivm, wDget, wPNil, wPCons, wDisp, wDin, wDinS, wEqS, wEqB, wEqNS, wIsN, wInC, wOrdC, wInT, wInNT, wNinT, wNinNT, ix0, ix1,
  wOpt, tK_some, bK_some, bK_le, bK_lt, wGtI, wLtI, wLeI, wGeI, wModI, wFdivI, wMulI, wAddI, wSubI, wEqI, wNeI, wSlL, wSlN, wSlT, wSlS, wLenL, wLenT, wLenS, wIntT, wTupleN, wMin2, wAddNN, wAddLN, wAddNL, wAddLL, wAddTT, wAddSS, wMulN, wMulT, wMulS, fz_d, fz_n, fz_c, allD, put, truD, bName, bTup, bCons, bNil, wipeR,
  List.getElem?_cons_zero, List.getElem?_cons_succ, List.set_cons_zero, List.set_cons_succ, List.length_set, List.length_cons, List.length_nil, Option.map_some, Option.map_none, if_true, Bool.false_eq_true, if_false, Bool.not_true, Bool.not_false, List.map_cons, List.map_nil, true_and, and_true, Nat.reduceAdd, Nat.reduceLeDiff])
local macro_rules | `(tactic| walk_at "b") => `(tactic| simp (disch := assumption) only [ixB0, ixB1, ixB2, DL.subB0, DL.subB2, Option.bind_some, wDef0, wDef1, wDef2, wDef3, List.replicate, Nat.reduceSub, wSeq, wIf, wTb, wTr, wBin, wUn, wVar, wC, wCal, wCall, wCallK, wNil, wCons, wConsC, wLst, wTup, wNotT, wAndT, wOrT, wAnd, wOr, wNotE, wIfE, wChain, wNext, wSet, wSetC, wRet, wDrop, wAsg, wPar, wFor, wLc, wYes, wSl, wNoP, wPt, wRng1, wSrcA, wSrcS, wIsI, wIsI2, wCm, wMs, wRev, wPar3, wPar3k, wZipA, wZipLL, Option.bind_some, wDivm, wDget, wPNil, wPCons, wDisp, wDin, wDinS, wEqS, wEqB, wEqNS, wIsN, wInC, wOrdC, wInT, wInNT, wNinT, wNinNT, ix0, ix1,
  wOpt, tK_some, bK_some, bK_le, bK_lt, wGtI, wLtI, wLeI, wGeI, wModI, wFdivI, wMulI, wAddI, wSubI, wEqI, wNeI, wSlL, wSlN, wSlT, wSlS, wLenL, wLenT, wLenS, wIntT, wTupleN, wMin2, wAddNN, wAddLN, wAddNL, wAddLL, wAddTT, wAddSS, wMulN, wMulT, wMulS, fz_d, fz_n, fz_c, allD, put, truD, bName, bTup, bCons, bNil, wipeR,
  List.getElem?_cons_zero, List.getElem?_cons_succ, List.set_cons_zero, List.set_cons_succ, List.length_set, List.length_cons, List.length_nil, Option.map_some, Option.map_none, if_true, Bool.false_eq_true, if_false, Bool.not_true, Bool.not_false, List.map_cons, List.map_nil, true_and, and_true, Nat.reduceAdd, Nat.reduceLeDiff])
local macro_rules | `(tactic| walk_at "t") => `(tactic| (try walk_at "w"))
local macro_rules | `(tactic| walk_at "x") => `(tactic| simp (maxSteps := 4000000) only [wDef0, wDef1, wDef2, wDef3, List.replicate, Nat.reduceSub, wSeq, wIf, wTb, wTr, wBin, wUn, wVar, wC, wCal, wCall, wCallK, wNil, wCons, wConsC, wLst, wTup, wNotT, wAndT, wOrT, wAnd, wOr, wNotE, wIfE, wChain, wNext, wSet, wSetC, wRet, wDrop, wAsg, wPar, wFor, wLc, wYes, wSl, wNoP, wPt, wRng1, wSrcA, wSrcS, wIsI, wIsI2, wCm, wMs, wRev, wPar3, wPar3k, wZipA, wZipLL, Option.bind_some, wDivm, wDget, wPNil, wPCons, wDisp, wDin, wDinS, wEqS, wEqB, wEqNS, wIsN, wInC, wOrdC, wInT, wInNT, wNinT, wNinNT, ix0, ix1,
  wOpt, tK_some, bK_some, bK_le, bK_lt, wGtI, wLtI, wLeI, wGeI, wModI, wFdivI, wMulI, wAddI, wSubI, wEqI, wNeI, wSlL, wSlN, wSlT, wSlS, wLenL, wLenT, wLenS, wIntT, wTupleN, wMin2, wAddNN, wAddLN, wAddNL, wAddLL, wAddTT, wAddSS, wMulN, wMulT, wMulS, fz_d, fz_n, fz_c, allD, put, truD, bName, bTup, bCons, bNil, wipeR,
  List.getElem?_cons_zero, List.getElem?_cons_succ, List.set_cons_zero, List.set_cons_succ, List.length_set, List.length_cons, List.length_nil, Option.map_some, Option.map_none, if_true, Bool.false_eq_true, if_false, Bool.not_true, Bool.not_false, List.map_cons, List.map_nil, true_and, and_true, Nat.reduceAdd, Nat.reduceLeDiff])
section
variable {κ : Kap} {ρ : Rho} {N : Nat} {q Q : DV → Kap → Prop} {d : PyData}
theorem wListT {ds : List PyData} : wO (opt κ (listD κ [.d (.tuple ds)])) q = q (.n ds) κ := propext Iff.rfl
theorem ix50 {a b c d e : PyData} : ixD κ (.d (.tuple [a, b, c, d, e])) (.d (.int 0)) = some (.d a) := rfl
theorem ix51 {a b c d e : PyData} : ixD κ (.d (.tuple [a, b, c, d, e])) (.d (.int 1)) = some (.d b) := rfl
theorem ix52 {a b c d e : PyData} : ixD κ (.d (.tuple [a, b, c, d, e])) (.d (.int 2)) = some (.d c) := rfl
theorem ix53 {a b c d e : PyData} : ixD κ (.d (.tuple [a, b, c, d, e])) (.d (.int 3)) = some (.d d) := rfl
theorem ix54 {a b c d e : PyData} : ixD κ (.d (.tuple [a, b, c, d, e])) (.d (.int 4)) = some (.d e) := rfl
theorem ix30 {a b c : PyData} : ixD κ (.d (.tuple [a, b, c])) (.d (.int 0)) = some (.d a) := rfl
theorem ix31 {a b c : PyData} : ixD κ (.d (.tuple [a, b, c])) (.d (.int 1)) = some (.d b) := rfl
theorem ix32 {a b c : PyData} : ixD κ (.d (.tuple [a, b, c])) (.d (.int 2)) = some (.d c) := rfl
/-! ### pieces of lists and texts -/
theorem cutTake {xs : List PyData} {k : Int} (h : 0 ≤ k) : DL.cutD xs none (some k) = xs.take k.toNat := by
  unfold DL.cutD
  rw [show HT.sIx xs.length 0 none = 0 from rfl, List.drop_zero, Nat.sub_zero]
  rw [show HT.sIx xs.length xs.length (some k) = min k.toNat xs.length from by show (if k < 0 then _ else _) = _; rw [if_neg (by omega)]]
  by_cases g : k.toNat ≤ xs.length
  · rw [Nat.min_eq_left g]
  · rw [Nat.min_eq_right (by omega), List.take_length, List.take_of_length_le (by omega)]
theorem cutDrop {xs : List PyData} {k : Int} (h : 0 ≤ k) : DL.cutD xs (some k) none = xs.drop k.toNat := by
  unfold DL.cutD
  rw [show HT.sIx xs.length xs.length none = xs.length from rfl]
  rw [show HT.sIx xs.length 0 (some k) = min k.toNat xs.length from by show (if k < 0 then _ else _) = _; rw [if_neg (by omega)]]
  by_cases g : k.toNat ≤ xs.length
  · rw [Nat.min_eq_left g, List.take_of_length_le (by rw [List.length_drop]; omega)]
  · rw [Nat.min_eq_right (by omega), List.drop_length, List.drop_of_length_le (by omega), List.take_nil]
theorem cutMid {xs : List PyData} {a b : Int} (h : 0 ≤ a) (h2 : a ≤ b) : DL.cutD xs (some a) (some b) = (xs.drop a.toNat).take (b.toNat - a.toNat) := by
  unfold DL.cutD
  rw [show HT.sIx xs.length xs.length (some b) = min b.toNat xs.length from by show (if b < 0 then _ else _) = _; rw [if_neg (by omega)]]
  rw [show HT.sIx xs.length 0 (some a) = min a.toNat xs.length from by show (if a < 0 then _ else _) = _; rw [if_neg (by omega)]]
  by_cases g : a.toNat ≤ xs.length
  · rw [Nat.min_eq_left g]
    by_cases g2 : b.toNat ≤ xs.length
    · rw [Nat.min_eq_left g2]
    · rw [Nat.min_eq_right (by omega)]
      rw [List.take_of_length_le (by rw [List.length_drop]; omega), List.take_of_length_le (by rw [List.length_drop]; omega)]
  · rw [List.drop_of_length_le (show xs.length ≤ min a.toNat xs.length by omega), List.drop_of_length_le (show xs.length ≤ a.toNat by omega), List.take_nil, List.take_nil]
theorem cutS_take {x : Str} {k : Int} (h : 0 ≤ k) : (cutS x none (some k)).cps.toList = x.cps.toList.take k.toNat := by
  show ((x.cps.toList.drop _).take _) = _
  rw [show HT.sIx x.length 0 none = 0 from rfl, List.drop_zero, Nat.sub_zero]
  rw [show HT.sIx x.length x.length (some k) = min k.toNat x.length from by show (if k < 0 then _ else _) = _; rw [if_neg (by omega)]]
  have e : x.cps.toList.length = x.length := Array.length_toList
  by_cases g : k.toNat ≤ x.length
  · rw [Nat.min_eq_left g]
  · rw [Nat.min_eq_right (by omega), List.take_of_length_le (by omega), List.take_of_length_le (by omega)]
theorem cutS_drop {x : Str} {k : Int} (h : 0 ≤ k) : (cutS x (some k) none).cps.toList = x.cps.toList.drop k.toNat := by
  show ((x.cps.toList.drop _).take _) = _
  rw [show HT.sIx x.length x.length none = x.length from rfl]
  rw [show HT.sIx x.length 0 (some k) = min k.toNat x.length from by show (if k < 0 then _ else _) = _; rw [if_neg (by omega)]]
  have e : x.cps.toList.length = x.length := Array.length_toList
  by_cases g : k.toNat ≤ x.length
  · rw [Nat.min_eq_left g, List.take_of_length_le (by rw [List.length_drop]; omega)]
  · rw [Nat.min_eq_right (by omega), List.drop_of_length_le (by omega), List.drop_of_length_le (by omega), List.take_nil]
theorem ixStr {x : Str} {k : Int} {c : Nat} (hl : x.length ≤ 16000000) (h0 : 0 ≤ k) (e : x.cps.toList[k.toNat]? = some c) : ixD κ (.d (.str x)) (.d (.int k)) = some (.d (.str ⟨#[c]⟩)) := by
  have h1 : k.toNat < x.cps.toList.length := (List.getElem?_eq_some_iff.mp e).1
  unfold ixD
  dsimp only
  rw [if_pos hl]
  have a : atI x.cps.toList k = some c := by
    unfold atI ixN
    rw [if_pos h0, if_pos (by omega)]
    exact e
  rw [a]; rfl
theorem app_cps (x y : Str) : (x ++ y).cps.toList = x.cps.toList ++ y.cps.toList := Array.toList_append
theorem app_len (x y : Str) : (x ++ y).length = x.length + y.length := by
  have e : ∀ z : Str, z.length = z.cps.toList.length := fun z => Array.length_toList.symm
  rw [e, e, e, app_cps, List.length_append]
theorem rep_cps (x : Str) (n : Nat) : (repS x n).cps.toList = (List.replicate n x.cps.toList).flatten := List.toList_toArray
theorem str_ext {x y : Str} (h : x.cps.toList = y.cps.toList) : x = y := by
  cases x; cases y
  exact congrArg Str.mk (Array.toList_inj.mp h)
/-! ### texts and pairs of texts, no two alike -/

theorem strsD_L (ks : List Str) : strsD (strL ks) = some ks := strsD_map ks
theorem isN_ex {x : PyData} (h : isN x = true) : ∃ s : Str, x = .str s := by
  cases x with
  | str s => exact ⟨s, rfl⟩
  | _ => simp [isN, isS] at h
theorem isAd_ex {x : PyData} (h : isAd x = true) : ∃ a b : Str, x = .tuple [.str a, .str b] ∧ isN (.str a) = true ∧ isN (.str b) = true := by
  unfold isAd at h
  split at h
  · rw [Bool.and_eq_true] at h
    obtain ⟨a, rfl⟩ := isN_ex h.1
    obtain ⟨b, rfl⟩ := isN_ex h.2
    exact ⟨a, b, rfl, h.1, h.2⟩
  · cases h
theorem names_strs : ∀ {ds : List PyData}, ds.all isN = true → ∃ ks, ds = strL ks
  | [], _ => ⟨[], rfl⟩
  | x :: r, h => by
    rw [List.all_cons, Bool.and_eq_true] at h
    obtain ⟨s, rfl⟩ := isN_ex h.1
    obtain ⟨ks, rfl⟩ := names_strs h.2
    exact ⟨s :: ks, rfl⟩
abbrev prD (p : List Str) : PyData := .tuple (strL p)
theorem ads_prs : ∀ {ds : List PyData}, ds.all isAd = true → ∃ ps : List (List Str), ds = ps.map prD
  | [], _ => ⟨[], rfl⟩
  | x :: r, h => by
    rw [List.all_cons, Bool.and_eq_true] at h
    obtain ⟨a, b, rfl, _⟩ := isAd_ex h.1
    obtain ⟨ps, rfl⟩ := ads_prs h.2
    exact ⟨[a, b] :: ps, rfl⟩
theorem textsD_map : ∀ ps : List (List Str), textsD (ps.map prD) = some ps
  | [] => rfl
  | p :: r => by
    rw [List.map_cons, textsD, strsD_L, Option.bind_some, textsD_map r]; rfl
theorem textsD_inj {ps qs : List (List Str)} (h : ps.map prD = qs.map prD) : ps = qs := by
  have := textsD_map ps
  rw [h, textsD_map] at this
  exact (Option.some.inj this).symm
theorem strs_inj {ks ls : List Str} (h : strL ks = strL ls) : ks = ls := by
  have := strsD_L ks
  rw [h, strsD_L] at this
  exact (Option.some.inj this).symm
/-- all texts of a row, pairs of a row, unlike -/
def unl1 (ds : List PyData) : Bool := match strsD ds with
  | some ks => decide ks.Nodup
  | none => false
def unl2 (ds : List PyData) : Bool := match textsD ds with
  | some ks => decide ks.Nodup
  | none => false
theorem unl1_s (ks : List Str) : unl1 (strL ks) = decide ks.Nodup := by unfold unl1; rw [strsD_L]
theorem unl2_s (ps : List (List Str)) : unl2 (ps.map prD) = decide ps.Nodup := by unfold unl2; rw [textsD_map]
theorem once_beq {α : Type} [DecidableEq α] (xs : List α) : ((((onceG [] xs).length : Nat) : Int) == ((xs.length : Nat) : Int)) = decide xs.Nodup := by
  rw [beq_cast]; exact decide_eq_decide.mpr onceG_eq
theorem once_lt {α : Type} [DecidableEq α] (xs : List α) : decide ((((onceG [] xs).length : Nat) : Int) < ((xs.length : Nat) : Int)) = !decide xs.Nodup := by
  have h := onceG_len xs []
  simp only [List.length_nil, Nat.zero_add] at h
  have e := onceG_eq (xs := xs)
  by_cases g : xs.Nodup
  · rw [decide_eq_true g, Bool.not_true, decide_eq_false_iff_not, e.mpr g]; omega
  · rw [decide_eq_false g, Bool.not_false, decide_eq_true_eq]
    have : (onceG [] xs).length ≠ xs.length := fun z => g (e.mp z)
    omega
theorem lenSet1 {ks : List Str} (h : ks.length < 4000) {x : DV} (hx : seqD κ x = some (strL ks)) (ht : ∀ ds, x ≠ .d (.tuple ds)) : wO (opt κ (lenSetD κ [x])) q = q (.d (.int (onceG [] ks).length)) κ := by
  have e : lenSetD κ [x] = some (.d (.int (onceG [] ks).length)) := by
    unfold lenSetD
    dsimp only
    rw [hx, Option.bind_some]
    split
    · exact absurd rfl (ht _)
    · unfold lenU
      rw [strsD_L]
      dsimp only
      rw [if_pos h]; rfl
  rw [e]; exact propext Iff.rfl
theorem lenSetL {ks : List Str} (h : ks.length < 4000) : wO (opt κ (lenSetD κ [.d (.list (strL ks))])) q = q (.d (.int (onceG [] ks).length)) κ := lenSet1 h rfl (by simp)
theorem lenSetN {ks : List Str} (h : ks.length < 4000) : wO (opt κ (lenSetD κ [.n (strL ks)])) q = q (.d (.int (onceG [] ks).length)) κ := lenSet1 h rfl (by simp)
theorem lenSetT {ps : List (List Str)} (h : ps.length < 13) : wO (opt κ (lenSetD κ [.d (.tuple (ps.map prD))])) q = q (.d (.int (onceG [] ps).length)) κ := by
  have e : lenSetD κ [.d (.tuple (ps.map prD))] = some (.d (.int (onceG [] ps).length)) := by
    unfold lenSetD seqD
    simp only [Option.bind_some]
    rw [textsD_map, Option.bind_some, if_pos h]
  rw [e]; exact propext Iff.rfl
theorem strsD_pr {ps : List (List Str)} (h : ps ≠ []) : strsD (ps.map prD) = none := by
  cases ps with
  | nil => exact absurd rfl h
  | cons p r => rfl
theorem lenSetP {ps : List (List Str)} (h : ps.length < 13) {x : DV} (hx : seqD κ x = some (ps.map prD)) (ht : ∀ ds, x ≠ .d (.tuple ds)) : wO (opt κ (lenSetD κ [x])) q = q (.d (.int (onceG [] ps).length)) κ := by
  have e : lenSetD κ [x] = some (.d (.int (onceG [] ps).length)) := by
    unfold lenSetD
    dsimp only
    rw [hx, Option.bind_some]
    split
    · exact absurd rfl (ht _)
    · unfold lenU
      by_cases g : ps = []
      · subst g; rfl
      · rw [strsD_pr g]
        dsimp only
        rw [textsD_map]
        dsimp only
        rw [if_pos h]; rfl
  rw [e]; exact propext Iff.rfl
/-! ### plans -/
abbrev wys : List Str := ["plain", "marked", "packed"]
def isWay : PyData → Bool
  | .str s => wys.any (· == s)
  | _ => false
def rise (ns : List Nat) : Bool := (ns.zip ns.tail).all fun p => decide (p.1 < p.2)
def wayN (s : Str) : Nat := (tidxF wys s).getD 0
def riseD (ds : List PyData) : Bool := match strsD ds with
  | some ks => rise (ks.map wayN)
  | none => false
theorem riseD_s (ks : List Str) : riseD (strL ks) = rise (ks.map wayN) := by unfold riseD; rw [strsD_L]
def isWays : PyData → Bool
  | .tuple ds => decide (1 ≤ ds.length ∧ ds.length ≤ 3) && ds.all isWay && riseD ds
  | _ => false
def isAds : PyData → Bool
  | .tuple ds => decide (1 ≤ ds.length ∧ ds.length ≤ 4) && ds.all isAd && unl2 ds
  | _ => false
def isLst : PyData → Bool
  | .tuple [n, a] => isN n && isAds a
  | _ => false
def isLists : PyData → Bool
  | .tuple ds => decide (ds.length ≤ 3) && ds.all isLst
  | _ => false
def isFolk : PyData → Bool
  | .tuple ds => decide (1 ≤ ds.length ∧ ds.length ≤ 4) && ds.all isN
  | _ => false
/-- the text ahead of a tuple -/
def hd1 : PyData → Str
  | .tuple (.str s :: _) => s
  | _ => default
def tl : PyData → List PyData
  | .tuple ds => ds
  | _ => []
def sOf : PyData → Str
  | .str s => s
  | _ => default
/-- the NAMEs of a house's people and lists -/
def called (p l : PyData) : List Str := (tl p).map sOf ++ (tl l).map hd1
def isHouse : PyData → Bool
  | .tuple [n, p, l, w, m] => isN n && isFolk p && isLists l && (!decide (("post" : Str) ∈ called p l) && decide (called p l).Nodup) && isWays w && isIn 400 9000 m
  | _ => false
def isLink (ks : List Str) : PyData → Bool
  | .tuple [.str a, .str b, c] => isN (.str a) && isN (.str b) && isIn 1 4 c && decide (a ∈ ks) && decide (b ∈ ks) && !(a == b)
  | _ => false
/-- a link's two houses, in rising order -/
def prOf : PyData → List Str
  | .tuple (.str a :: .str b :: _) => sortS [a, b]
  | _ => []
def isPlan : PyData → Bool
  | .tuple [.tuple hs, .tuple ls] => decide (1 ≤ hs.length ∧ hs.length ≤ 5) && hs.all isHouse && decide (hs.map hd1).Nodup && decide (ls.length ≤ 8) && ls.all (isLink (hs.map hd1)) && decide (ls.map prOf).Nodup
  | _ => false
theorem isHouse_ex {x : PyData} (h : isHouse x = true) : ∃ (n : Str) (p l w m : PyData), x = .tuple [.str n, p, l, w, m] ∧ isN (.str n) = true ∧ isFolk p = true ∧ isLists l = true := by
  unfold isHouse at h
  split at h
  · simp only [Bool.and_eq_true] at h
    obtain ⟨s, rfl⟩ := isN_ex h.1.1.1.1.1
    exact ⟨s, _, _, _, _, rfl, h.1.1.1.1.1, h.1.1.1.1.2, h.1.1.1.2⟩
  · cases h
theorem isLink_ex {ks : List Str} {x : PyData} (h : isLink ks x = true) : ∃ (a b : Str) (c : PyData), x = .tuple [.str a, .str b, c] ∧ isN (.str a) = true ∧ isN (.str b) = true ∧ isIn 1 4 c = true ∧ a ∈ ks ∧ b ∈ ks ∧ a ≠ b := by
  unfold isLink at h
  split at h
  · simp only [Bool.and_eq_true, decide_eq_true_eq, Bool.not_eq_true', beq_eq_false_iff_ne] at h
    exact ⟨_, _, _, rfl, h.1.1.1.1.1, h.1.1.1.1.2, h.1.1.1.2, h.1.1.2, h.1.2, h.2⟩
  · cases h
theorem isLst_ex {x : PyData} (h : isLst x = true) : ∃ (n : Str) (a : PyData), x = .tuple [.str n, a] ∧ isN (.str n) = true ∧ isAds a = true := by
  unfold isLst at h
  split at h
  · rw [Bool.and_eq_true] at h
    obtain ⟨s, rfl⟩ := isN_ex h.1
    exact ⟨s, _, rfl, h.1, h.2⟩
  · cases h
theorem isTup_three {x : PyData} (h : isTup 3 x = true) : ∃ a b c, x = .tuple [a, b, c] := by
  cases x with
  | tuple ds =>
    have h := of_decide_eq_true h
    match ds, h with
    | [a, b, c], _ => exact ⟨a, b, c, rfl⟩
  | _ => simp [isTup] at h
theorem isTup_five {x : PyData} (h : isTup 5 x = true) : ∃ a b c d e, x = .tuple [a, b, c, d, e] := by
  cases x with
  | tuple ds =>
    have h := of_decide_eq_true h
    match ds, h with
    | [a, b, c, d, e], _ => exact ⟨a, b, c, d, e, rfl⟩
  | _ => simp [isTup] at h
theorem isSh_ex {lo hi : Int} {x : PyData} (h : isSh lo hi x = true) : ∃ ds, x = .tuple ds ∧ lo ≤ ds.length ∧ (ds.length : Int) ≤ hi := by
  cases x with
  | tuple ds =>
    rw [isSh, Bool.and_eq_true, decide_eq_true_eq, decide_eq_true_eq] at h
    exact ⟨ds, rfl, h⟩
  | _ => simp [isSh] at h
theorem sOf_strs : ∀ ks : List Str, (strL ks).map sOf = ks
  | [] => rfl
  | k :: r => by
    have e := sOf_strs r
    unfold strL at e ⊢
    rw [List.map_cons, List.map_cons, e]; rfl
end

end Law

namespace DL
open L2 PyProof.Rows PySem PySem.Spec
/-! ### d.update(other): a dict cell, a dict that is read -/
abbrev rUpd : V → List V → Hp → VK → Prop := fun x xs H Q => ∃ (a o : Addr) (kvs more : List (Key × V)), x = .ref a ∧ xs = [.ref o] ∧ a ≠ o ∧ H a = some (.dK kvs) ∧ H o = some (.dK more) ∧ kvs.length + more.length ≤ 1000 ∧ Q .non (upd H a (.dK (mergeK kvs more)))
theorem mergeK_len : ∀ (more kvs : List (Key × V)), (mergeK kvs more).length ≤ kvs.length + more.length
  | [], kvs => Nat.le_refl _
  | p :: r, kvs => by
    have h := mergeK_len r (putK kvs p.1 p.2)
    have h2 := length_putK kvs p.1 p.2
    show (mergeK (putK kvs p.1 p.2) r).length ≤ _
    rw [List.length_cons]
    omega
theorem mt_update {X : Cx} : MtR X "dict.update" rUpd := by
  intro pins s σ H x xs v us Q I rx rxs h
  obtain ⟨a, o, kvs, more, rfl, rfl, hne, ha, ho, hz, q⟩ := h
  cases rx
  obtain ⟨u1, rfl, r1⟩ := vals1 rxs
  cases r1
  obtain ⟨z1, hd1, vs, rel, dd⟩ := dk_of I.hok ha
  obtain ⟨z2, hd2, rs, rel2, dd2⟩ := dk_of I.hok ho
  refine call_meetsIn PySem.F.slot_dict_update dd.typeIs PySem.F.entry_dict_update (PySem.F.args_dict_update_2 _ _) (meets_dict_update (mixKind X.prog X.w) a o hne hd2)
    ⟨vs, rs, dd, dd2, by rw [← rel.length, ← rel2.length, sizeLine_eq]; omega, fun h' dd' _ hs => ?_⟩
  have he : ∃ q, h'.get? a = some q := let ⟨q, _, _, hq, _⟩ := dd'; ⟨q, hq⟩
  exact ⟨.non, _, d_write (t' := s.toks) I (by rw [ha]; exact True.intro) hs he (dk_new (by have := mergeK_len more kvs; rw [sizeLine_eq]; omega) hd1 (KV.merge rel2 rel) dd'), rfl, q⟩
def dicKV : List (D × D) → Option (List (Key × DV))
  | [] => some []
  | (k, x) :: r => (keyOf k).bind fun ky => (dicKV r).map ((ky, .d x) :: ·)
def dmergeO : List (Key × DV) → List (Key × DV) → Option (List (Key × DV))
  | kvs, [] => some kvs
  | kvs, p :: r => if (kvs.map (·.1)).Nodup then dmergeO (dput kvs p.1 p.2) r else none
def updO (x y : DV) (κ : Kap) : Out DV := match x, y with
  | .c i, .d (.dict ds) => (match κ[i]?, dicKV ds with
    | some (.dic kvs), some more => if kvs.length + more.length ≤ 1000 then (match dmergeO kvs more with
      | some r => .ok (.d .none) (κ.set i (.dic r))
      | none => .bad) else .bad
    | _, _ => .bad)
  | _, _ => .bad
def mUpd (mo : ME) (ma : MA) : ME := fun ρ κ => (mo ρ κ).bind fun x κ1 => match x with
  | .c i => (match κ1[i]? with
    | some (.dic _) => (ma ρ κ1).bind fun xs κ2 => match xs with
      | [y] => updO (.c i) y κ2
      | _ => .bad
    | _ => .bad)
  | _ => .bad
section
variable {K : PySem.W.Frag} {F : List Addr} {B : Hp} {ι : List Addr} {H : Hp} {κ : Kap}
theorem dic_kv : ∀ {ds : List (D × D)} {us : List (Key × V)} {more : List (Key × DV)}, RpKV K B us ds → dicKV ds = some more → KvOk K B ι us more
  | _, _, _, .nil, e => by cases e; exact .nil
  | _, _, _, .consI h r, e => by
    rw [dicKV] at e
    cases q : dicKV _ with
    | none => rw [q] at e; cases e
    | some m => rw [q] at e; cases e; exact .cons ⟨rfl, h⟩ (dic_kv r q)
  | _, _, _, .consS h r, e => by
    rw [dicKV] at e
    cases q : dicKV _ with
    | none => rw [q] at e; cases e
    | some m => rw [q] at e; cases e; exact .cons ⟨rfl, h⟩ (dic_kv r q)
theorem merge_ok : ∀ {more : List (Key × DV)} {us : List (Key × V)} {ws : List (Key × V)} {kvs r : List (Key × DV)}, KvOk K B ι ws kvs → KvOk K B ι us more → dmergeO kvs more = some r → KvOk K B ι (mergeK ws us) r
  | [], _, _, _, _, h, .nil, e => by cases e; exact h
  | p :: m, _, ws, kvs, r, h, .cons (a := u) (l₁ := us) hu hr, e => by
    rw [dmergeO] at e
    split at e
    · rename_i hn
      have h1 := dput_ok (k := p.1) h hn hu.2
      have h2 := merge_ok h1 hr e
      have e3 : mergeK ws (u :: us) = mergeK (putK ws p.1 u.2) us := by rw [← hu.1]; rfl
      rw [e3]; exact h2
    · cases e
end
section
variable {X : Cx} {E : XK} {o e : Expr} {es : List Expr} {mo : ME} {ma : MA} {apos cpos : Pos}
theorem je_upd (ho : JE X E o mo) (ha : JA X E (e :: es) ma)
    (hbase : attributeBase o "update" X.env (eval o X.env) = eval o X.env := by rfl)
    (hfew : ((backTo cpos (starEach (e :: es) X.env)).all (fun x => !x.1) && (backToKw cpos (keywordEach [] X.env)).all (fun x => x.1.isSome)
      && decide ((e :: es).length + ([] : List Keyword).length + (if ([] : List Keyword).isEmpty then 0 else 1) < 30)) = true := by rfl)
    (hline : (apos.endLine == cpos.line) = true := by rfl) (hs : starEach (e :: es) X.env = (false, eval e X.env) :: starEach es X.env := by rfl) (hplain : (backTo cpos (starEach es X.env)).any (·.1) = false := by rfl) :
    JE X E (.Call (.Attribute o "update" apos) (e :: es) [] cpos) (mUpd mo ma) :=
  pe_imp (pe_bm PySem.F.plainAttrs_dict PySem.F.slot_dict_update PySem.F.type_dict_update mt_update ho ha hbase hfew hline hs hplain) fun σ H Q ⟨F, B, ι, ρ, κ, s, h⟩ => by
    unfold mUpd at h
    refine evE s (fun x κ1 e1 v B1 ι1 H1 g1 s1 w1 => ?_) (fun n fs κ1 e1 => by rw [e1] at h; exact h) (fun e => by rw [e] at h; exact h)
    rw [e1] at h
    dsimp only [Out.bind] at h
    split at h
    · rename_i i
      split at h
      · rename_i kv0 ek0
        obtain ⟨a, hai, rfl⟩ := w1
        obtain ⟨ws0, hH0, _⟩ := s1.cel i a (.dic kv0) hai ek0
        refine ⟨.inr (.inr (.inl ⟨rfl, .inl ⟨ws0, hH0⟩⟩)), ?_⟩
        refine evA (s.step g1 s1) (fun xs κ2 e2 us B2 ι2 H2 g2 s2 w2 => ?_) (fun n fs κ2 e2 => by rw [e2] at h; exact XW.grow h g1 fun _ m => m) (fun e => by rw [e] at h; exact h)
        rw [e2] at h
        dsimp only [Out.bind] at h
        split at h
        · rename_i y
          cases w2 with
          | cons wa wr =>
            cases wr
            unfold updO at h
            split at h
            · rename_i i' ds ei
              cases ei
              split at h
              · rename_i kvs more ek ed
                split at h
                · rename_i hz
                  split at h
                  · rename_i r er
                    have ha2 := g2.i i a hai
                    obtain ⟨ws, hH, rk⟩ := s2.cel i a (.dic kvs) ha2 ek
                    have wa : Rp X.K B2 _ (.dict ds) := wa
                    have ok : ∀ (b : Addr) (us' : List (Key × V)), B2 b = some (.dK us') → RpKV X.K B2 us' ds → rUpd (.ref a) [.ref b] H2 Q := fun b us' hb rb => by
                      have rm := dic_kv (ι := ι2) rb ed
                      have hba : B2 a = none := s2.out i a ha2 (by rw [ek]; intro z; cases z)
                      obtain ⟨s4, g4⟩ := s2.setCell (o := .dK (mergeK ws us')) (cl := .dic r) ha2 (by rw [ek]; intro z; cases z) fun H' hh => ⟨_, hh, merge_ok rk rm er⟩
                      exact ⟨a, b, ws, us', rfl, rfl, (fun z => by rw [z, hb] at hba; cases hba), hH, s2.ex _ _ hb, by rw [kv_len rk, kv_len rm]; exact hz, h .non B2 ι2 _ ((g1.trans g2).trans g4) s4 .non⟩
                    cases wa with
                    | scr _ => cases ed
                    | fnc _ _ => cases ed
                    | clo _ _ => cases ed
                    | dic hb rb => exact ok _ _ hb rb
                  · exact h.elim
                · exact h.elim
              · exact h.elim
            · exact h.elim
        · exact h.elim
      · exact h.elim
    · exact h.elim
end
/-! ### {} that is read -/
def mDnil : ME := fun _ κ => .ok (.d (.dict [])) κ
theorem je_dnil {X : Cx} {E : XK} {pos : Pos} : JE X E (.Dict [] [] pos) mDnil :=
  pe_imp pe_dnewK fun σ H Q ⟨F, B, ι, ρ, κ, s, h⟩ => by
    intro p hp
    obtain ⟨s2, g2⟩ := s.hs.new (o := .dK []) hp
    exact h (.ref p) _ _ _ g2 s2 (.dic upd_same .nil)
end DL

namespace Law
open DL L2 PyProof.Rows PySem PySem.Spec
def topS (i : Nat) : Stmt := PySem.Challenge.pw_letterhall_k13_plans_at_their_bounds.main.body.getD i (.Pass ⟨0, 0, 0, 0⟩)
abbrev T_WAYS : List Str := ["plain", "marked", "packed"]
abbrev s_is_number : Stmt := topS 3
def N_is_number : List Str := ["thing"]
def P_is_number : List Str := ["thing"]
def m_is_number : MF := mDef 1 1 (mRet (mAnd (mIsI "int" (mVar 0)) (mNot (mIsI "bool" (mVar 0)))))
abbrev s_is_within : Stmt := topS 4
def N_is_within : List Str := ["thing", "least", "most"]
def P_is_within : List Str := ["thing", "least", "most"]
def m_is_within : MF := mDef 3 3 (mRet (mAnd (mCall m_is_number (mCons (mVar 0) (mNil))) (mChain (intD leF) (intD leF) (mVar 1) (mVar 0) (mVar 2))))
abbrev s_is_tuple_of : Stmt := topS 5
def N_is_tuple_of : List Str := ["thing", "many"]
def P_is_tuple_of : List Str := ["thing", "many"]
def m_is_tuple_of : MF := mDef 2 2 (mRet (mAnd (mIsI "tuple" (mVar 0)) (mBin eqD (mCal lenD (mCons (mVar 0) (mNil))) (mVar 1))))
abbrev s_is_short : Stmt := topS 6
def N_is_short : List Str := ["thing", "least", "most"]
def P_is_short : List Str := ["thing", "least", "most"]
def m_is_short : MF := mDef 3 3 (mRet (mAnd (mIsI "tuple" (mVar 0)) (mChain (intD leF) (intD leF) (mVar 1) (mCal lenD (mCons (mVar 0) (mNil))) (mVar 2))))
abbrev s_are_unlike : Stmt := topS 7
def N_are_unlike : List Str := ["things"]
def P_are_unlike : List Str := ["things"]
def m_are_unlike : MF := mDef 1 1 (mRet (mBin eqD (mLenSet (mVar 0)) (mCal lenD (mCons (mVar 0) (mNil)))))
abbrev s_is_name : Stmt := topS 8
def N_is_name : List Str := ["thing", "sign"]
def P_is_name : List Str := ["thing"]
def m_is_name : MF := mDef 1 2 (mSeq (mIf (mOrT (mNotT (mTr (mIsI "str" (mVar 0)))) (mNotT (mTb (mChain (intD leF) (intD leF) (mC (.int 1)) (mCal lenD (mCons (mVar 0) (mNil))) (mC (.int 8)))))) (mRet (mC (.bool false))) (mNext)) (mRet (mCal (lstD allF) (mCons (mLc (mSrcS (mVar 0)) (bName 1) (mYes) (mBin inD (mVar 1) (mC (.str "abcdefghijklmnopqrstuvwxyz"))) [1]) (mNil)))))
abbrev s_is_address : Stmt := topS 9
def N_is_address : List Str := ["thing"]
def P_is_address : List Str := ["thing"]
def m_is_address : MF := mDef 1 1 (mRet (mAnd (mCall m_is_tuple_of (mCons (mVar 0) (mCons (mC (.int 2)) (mNil)))) (mAnd (mCall m_is_name (mCons (mBin ixD (mVar 0) (mC (.int 0))) (mNil))) (mCall m_is_name (mCons (mBin ixD (mVar 0) (mC (.int 1))) (mNil))))))
abbrev s_are_addresses : Stmt := topS 28
def N_are_addresses : List Str := ["thing", "one"]
def P_are_addresses : List Str := ["thing"]
def m_are_addresses : MF := mDef 1 2 (mRet (mAnd (mCall m_is_short (mCons (mVar 0) (mCons (mC (.int 1)) (mCons (mC (.int 4)) (mNil))))) (mAnd (mCal (lstD allF) (mCons (mLc (mSrcA (mVar 0)) (bName 1) (mYes) (mCall m_is_address (mCons (mVar 1) (mNil))) [1]) (mNil))) (mCall m_are_unlike (mCons (mVar 0) (mNil))))))
abbrev s_are_ways : Stmt := topS 29
def N_are_ways : List Str := ["thing", "places", "way", "one", "other"]
def P_are_ways : List Str := ["thing"]
def m_are_ways : MF := mDef 1 5 (mSeq (mIf (mOrT (mNotT (mTr (mCall m_is_short (mCons (mVar 0) (mCons (mC (.int 1)) (mCons (mCal lenD (mCons (mC (.tuple (T_WAYS.map .str))) (mNil))) (mNil))))))) (mNotT (mTr (mCal (lstD allF) (mCons (mLc (mSrcA (mVar 0)) (bName 2) (mYes) (mAnd (mIsI "str" (mVar 2)) (mBin inD (mVar 2) (mC (.tuple (T_WAYS.map .str))))) [2]) (mNil)))))) (mRet (mC (.bool false))) (mNext)) (mSeq (mSet 1 (mLc (mSrcA (mVar 0)) (bName 2) (mYes) (mTidx T_WAYS (mCons (mVar 2) (mNil))) [2])) (mRet (mCal (lstD allF) (mCons (mLc (mZipA (mCons (mVar 1) (mCons (mSl slD (mVar 1) (mPt (mC (.int 1))) (mNoP)) (mNil)))) (bTup 2 (bCons (bName 3) (bCons (bName 4) (bNil)))) (mYes) (mBin (intD ltF) (mVar 3) (mVar 4)) [3, 4]) (mNil))))))
abbrev s_are_lists : Stmt := topS 30
def N_are_lists : List Str := ["thing", "one"]
def P_are_lists : List Str := ["thing"]
def m_are_lists : MF := mDef 1 2 (mSeq (mIf (mNotT (mTr (mCall m_is_short (mCons (mVar 0) (mCons (mC (.int 0)) (mCons (mC (.int 3)) (mNil))))))) (mRet (mC (.bool false))) (mNext)) (mRet (mCal (lstD allF) (mCons (mLc (mSrcA (mVar 0)) (bName 1) (mYes) (mAnd (mCall m_is_tuple_of (mCons (mVar 1) (mCons (mC (.int 2)) (mNil)))) (mAnd (mCall m_is_name (mCons (mBin ixD (mVar 1) (mC (.int 0))) (mNil))) (mCall m_are_addresses (mCons (mBin ixD (mVar 1) (mC (.int 1))) (mNil))))) [1]) (mNil)))))
abbrev s_is_house : Stmt := topS 31
def N_is_house : List Str := ["thing", "people", "lists", "names", "name", "addresses", "one"]
def P_is_house : List Str := ["thing"]
def m_is_house : MF := mDef 1 7 (mSeq (mIf (mOrT (mNotT (mTr (mCall m_is_tuple_of (mCons (mVar 0) (mCons (mC (.int 5)) (mNil)))))) (mNotT (mTr (mCall m_is_name (mCons (mBin ixD (mVar 0) (mC (.int 0))) (mNil)))))) (mRet (mC (.bool false))) (mNext)) (mSeq (mPar 1 2 false false (mBin ixD (mVar 0) (mC (.int 1))) (mBin ixD (mVar 0) (mC (.int 2)))) (mSeq (mIf (mOrT (mNotT (mTr (mCall m_is_short (mCons (mVar 1) (mCons (mC (.int 1)) (mCons (mC (.int 4)) (mNil))))))) (mOrT (mNotT (mTr (mCal (lstD allF) (mCons (mLc (mSrcA (mVar 1)) (bName 6) (mYes) (mCall m_is_name (mCons (mVar 6) (mNil))) [6]) (mNil))))) (mNotT (mTr (mCall m_are_lists (mCons (mVar 2) (mNil))))))) (mRet (mC (.bool false))) (mNext)) (mSeq (mSet 3 (mBin addB (mCal listD (mCons (mVar 1) (mNil))) (mLc (mSrcA (mVar 2)) (bTup 2 (bCons (bName 4) (bCons (bName 5) (bNil)))) (mYes) (mVar 4) [4, 5]))) (mSeq (mIf (mOrT (mTb (mBin inD (mC (.str "post")) (mVar 3))) (mNotT (mTr (mCall m_are_unlike (mCons (mVar 3) (mNil)))))) (mRet (mC (.bool false))) (mNext)) (mRet (mAnd (mCall m_are_ways (mCons (mBin ixD (mVar 0) (mC (.int 3))) (mNil))) (mCall m_is_within (mCons (mBin ixD (mVar 0) (mC (.int 4))) (mCons (mC (.int 400)) (mCons (mC (.int 9000)) (mNil))))))))))))
abbrev s_is_link : Stmt := topS 32
def N_is_link : List Str := ["thing", "names"]
def P_is_link : List Str := ["thing", "names"]
def m_is_link : MF := mDef 2 2 (mSeq (mIf (mOrT (mNotT (mTr (mCall m_is_tuple_of (mCons (mVar 0) (mCons (mC (.int 3)) (mNil)))))) (mOrT (mNotT (mTr (mCall m_is_name (mCons (mBin ixD (mVar 0) (mC (.int 0))) (mNil))))) (mOrT (mNotT (mTr (mCall m_is_name (mCons (mBin ixD (mVar 0) (mC (.int 1))) (mNil))))) (mNotT (mTr (mCall m_is_number (mCons (mBin ixD (mVar 0) (mC (.int 2))) (mNil)))))))) (mRet (mC (.bool false))) (mNext)) (mRet (mAnd (mBin inD (mBin ixD (mVar 0) (mC (.int 0))) (mVar 1)) (mAnd (mBin inD (mBin ixD (mVar 0) (mC (.int 1))) (mVar 1)) (mAnd (mBin neD (mBin ixD (mVar 0) (mC (.int 0))) (mBin ixD (mVar 0) (mC (.int 1)))) (mChain (intD leF) (intD leF) (mC (.int 1)) (mBin ixD (mVar 0) (mC (.int 2))) (mC (.int 4))))))))
abbrev s_house_names : Stmt := topS 34
def N_house_names : List Str := ["plan", "house"]
def P_house_names : List Str := ["plan"]
def m_house_names : MF := mDef 1 2 (mRet (mLc (mSrcA (mBin ixD (mVar 0) (mC (.int 0)))) (bName 1) (mYes) (mBin ixD (mVar 1) (mC (.int 0))) [1]))
abbrev s_is_plan : Stmt := topS 33
def N_is_plan : List Str := ["thing", "names", "link", "house"]
def P_is_plan : List Str := ["thing"]
def m_is_plan : MF := mDef 1 4 (mSeq (mIf (mOrT (mNotT (mTr (mCall m_is_tuple_of (mCons (mVar 0) (mCons (mC (.int 2)) (mNil)))))) (mNotT (mTr (mCall m_is_short (mCons (mBin ixD (mVar 0) (mC (.int 0))) (mCons (mC (.int 1)) (mCons (mC (.int 5)) (mNil)))))))) (mRet (mC (.bool false))) (mNext)) (mSeq (mIf (mNotT (mTr (mCal (lstD allF) (mCons (mLc (mSrcA (mBin ixD (mVar 0) (mC (.int 0)))) (bName 3) (mYes) (mCall m_is_house (mCons (mVar 3) (mNil))) [3]) (mNil))))) (mRet (mC (.bool false))) (mNext)) (mSeq (mSet 1 (mCall m_house_names (mCons (mVar 0) (mNil)))) (mSeq (mIf (mOrT (mNotT (mTr (mCall m_are_unlike (mCons (mVar 1) (mNil))))) (mNotT (mTr (mCall m_is_short (mCons (mBin ixD (mVar 0) (mC (.int 1))) (mCons (mC (.int 0)) (mCons (mC (.int 8)) (mNil)))))))) (mRet (mC (.bool false))) (mNext)) (mSeq (mIf (mNotT (mTr (mCal (lstD allF) (mCons (mLc (mSrcA (mBin ixD (mVar 0) (mC (.int 1)))) (bName 2) (mYes) (mCall m_is_link (mCons (mVar 2) (mCons (mVar 1) (mNil)))) [2]) (mNil))))) (mRet (mC (.bool false))) (mNext)) (mRet (mCall m_are_unlike (mCons (mLc (mSrcA (mBin ixD (mVar 0) (mC (.int 1)))) (bName 2) (mYes) (mCal tupleD (mCons (mCal sortTxD (mCons (mSl slD (mVar 2) (mNoP) (mPt (mC (.int 2)))) (mNil))) (mNil))) [2]) (mNil)))))))))
abbrev s__law_begin : Stmt := topS 36
def N__law_begin : List Str := ["_law_script", "_law_handed"]
def P__law_begin : List Str := ["_law_script"]
def m__law_begin : MF := mDefK 1 2 (mSeq (mSetC 1 (mCal listD (mCons (mSl slD (mVar 0) (mNoP) (mPt (mC (.int 63)))) (mNil)))) (mSeq (mIf (mTb (mBin eqD (mVar 1) (mLst (mNil)))) (mSetC 1 (mLst (mCons (mC (.int 17)) (mNil)))) (mNext)) (mRet (mDispC (mPCons (.inr "cells") (mVar 1) (mPCons (.inr "turn") (mC (.int 0)) (mPNil)))))))
abbrev s__law_take : Stmt := topS 37
def N__law_take : List Str := ["_law_state", "_law_size", "_law_turn", "_law_here", "_law_cell", "_law_digit", "_law_near", "_law_mixed"]
def P__law_take : List Str := ["_law_state", "_law_size"]
def m__law_take : MF := mDef 2 8 (mSeq (mSet 2 (mBin addB (mCget (mVar 0) (mC (.str "turn"))) (mC (.int 1)))) (mSeq (mCput (mVar 0) (mC (.str "turn")) (mVar 2)) (mSeq (mSet 3 (mBin (intD modF) (mVar 2) (mCal lenD (mCons (mCget (mVar 0) (mC (.str "cells"))) (mNil))))) (mSeq (mSet 4 (mBin ixD (mCget (mVar 0) (mC (.str "cells"))) (mVar 3))) (mSeq (mIf (mTb (mBin (intD geF) (mVar 4) (mBin (intD powF) (mC (.int 10)) (mC (.int 18))))) (mSeq (mAsg (bTup 2 (bCons (bSub (mCget (mVar 0) (mC (.str "cells"))) (mVar 3)) (bCons (bName 5) (bNil)))) (mCal divmodD (mCons (mVar 4) (mCons (mVar 1) (mNil))))) (mRet (mVar 5))) (mNext)) (mSeq (mSet 6 (mBin addB (mBin (intD modF) (mVar 4) (mC (.int 2147483629))) (mBin mulD (mBin (intD modF) (mBin (intD fdivF) (mVar 4) (mC (.int 2147483629))) (mC (.int 40009))) (mC (.int 977))))) (mSeq (mSet 7 (mBin (intD modF) (mBin mulD (mBin addB (mBin addB (mVar 6) (mBin mulD (mBin mulD (mVar 2) (mVar 2)) (mC (.int 6007)))) (mC (.int 29))) (mC (.int 48271))) (mC (.int 2147483647)))) (mSeq (mSet 7 (mBin (intD modF) (mBin mulD (mVar 7) (mVar 7)) (mC (.int 2147483579)))) (mRet (mBin (intD modF) (mBin (intD fdivF) (mBin (intD modF) (mBin mulD (mBin addB (mVar 7) (mBin mulD (mVar 2) (mC (.int 103049)))) (mC (.int 69621))) (mC (.int 2147483629))) (mC (.int 64))) (mVar 1)))))))))))
abbrev s__law_names : Stmt := topS 38
def N__law_names : List Str := ["_law_state", "_law_count", "_law_letters", "_law_begun", "_law_way", "_law_stem", "_law_words", "_law_at", "_law_found", "_law_k", "_law_one", "_law_turn"]
def P__law_names : List Str := ["_law_state", "_law_count"]
def m__law_names : MF := mDef 2 12 (mSeq (mAsg (bTup 3 (bCons (bName 2) (bCons (bName 3) (bCons (bName 4) (bNil))))) (mTup (mCons (mC (.str "abcdefghijklmnoqrstuvwxyz")) (mCons (mCall m__law_take (mCons (mVar 0) (mCons (mC (.int 25)) (mNil)))) (mCons (mCall m__law_take (mCons (mVar 0) (mCons (mC (.int 4)) (mNil)))) (mNil)))))) (mSeq (mSet 5 (mMs joinF (mC (.str "")) (mCons (mLc (mRng1 (mCons (mCall m__law_take (mCons (mVar 0) (mCons (mC (.int 7)) (mNil)))) (mNil))) (bName 11) (mYes) (mBin ixD (mVar 2) (mCall m__law_take (mCons (mVar 0) (mCons (mC (.int 25)) (mNil))))) [11]) (mNil)))) (mSeq (mSet 6 (mLst (mCons (mC (.str "end")) (mCons (mC (.str "begin")) (mCons (mC (.str "house")) (mCons (mC (.str "one")) (mCons (mC (.str "list")) (mCons (mC (.str "link")) (mCons (mC (.str "from")) (mCons (mC (.str "to")) (mCons (mC (.str "in")) (mCons (mC (.str "send")) (mCons (mC (.str "now")) (mCons (mC (.str "into")) (mNil))))))))))))))) (mSeq (mIf (mTb (mBin eqD (mVar 4) (mC (.int 0)))) (mRet (mSl slD (mBin addB (mSl slD (mVar 6) (mPt (mBin (intD modF) (mVar 3) (mC (.int 12)))) (mNoP)) (mSl slD (mVar 6) (mNoP) (mPt (mBin (intD modF) (mVar 3) (mC (.int 12)))))) (mNoP) (mPt (mVar 1)))) (mNext)) (mSeq (mSet 7 (mBin ixD (mLst (mCons (mC (.int 0)) (mCons (mCal lenD (mCons (mVar 5) (mNil))) (mCons (mCall m__law_take (mCons (mVar 0) (mCons (mBin addB (mCal lenD (mCons (mVar 5) (mNil))) (mC (.int 1))) (mNil)))) (mNil))))) (mBin subB (mVar 4) (mC (.int 1))))) (mSeq (mSetC 8 (mLst (mNil))) (mSeq (mFor (mRng1 (mCons (mVar 1) (mNil))) (bName 9) (mSeq (mSet 10 (mBin addB (mBin addB (mSl slD (mVar 5) (mNoP) (mPt (mVar 7))) (mBin ixD (mVar 2) (mBin (intD modF) (mBin addB (mVar 3) (mBin mulD (mC (.int 7)) (mVar 9))) (mC (.int 25))))) (mSl slD (mVar 5) (mPt (mVar 7)) (mNoP)))) (mDrop (mCm appF (mVar 8) (mCons (mBin addB (mVar 10) (mBin mulD (mC (.str "z")) (mBin (intD modF) (mVar 9) (mC (.int 2))))) (mNil)))))) (mRet (mVar 8)))))))))
abbrev s__law_with : Stmt := topS 39
def N__law_with : List Str := ["_law_n", "_law_changes", "_law_w", "_law_home"]
def P__law_with : List Str := ["_law_n", "_law_changes"]
def m__law_with : MF := mDef 2 4 (mSeq (mSet 2 (mDispC (mPCons (.inr "name") (mBin ixD (mVar 0) (mC (.int 0))) (mPCons (.inr "folk") (mTup (mCons (mBin ixD (mVar 0) (mC (.int 1))) (mNil))) (mPCons (.inr "lists") (mTup (mNil)) (mPCons (.inr "ways") (mTup (mCons (mC (.str "plain")) (mNil))) (mPCons (.inr "most") (mC (.int 400)) (mPCons (.inr "more") (mTup (mNil)) (mPCons (.inr "links") (mTup (mNil)) (mPNil)))))))))) (mSeq (mDrop (mUpd (mVar 2) (mCons (mVar 1) (mNil)))) (mSeq (mSet 3 (mTup (mCons (mCget (mVar 2) (mC (.str "name"))) (mCons (mCget (mVar 2) (mC (.str "folk"))) (mCons (mCget (mVar 2) (mC (.str "lists"))) (mCons (mCget (mVar 2) (mC (.str "ways"))) (mCons (mCget (mVar 2) (mC (.str "most"))) (mNil)))))))) (mRet (mCall m_is_plan (mCons (mTup (mCons (mBin addB (mTup (mCons (mVar 3) (mNil))) (mCget (mVar 2) (mC (.str "more")))) (mCons (mCget (mVar 2) (mC (.str "links"))) (mNil)))) (mNil)))))))
abbrev s__law_house : Stmt := topS 40
def N__law_house : List Str := ["_law_name"]
def P__law_house : List Str := ["_law_name"]
def m__law_house : MF := mDef 1 1 (mRet (mTup (mCons (mVar 0) (mCons (mTup (mCons (mC (.str "a")) (mNil))) (mCons (mTup (mNil)) (mCons (mTup (mCons (mC (.str "packed")) (mNil))) (mCons (mC (.int 9000)) (mNil))))))))
abbrev s__law_sizes_right : Stmt := topS 41
def N__law_sizes_right : List Str := ["_law_n", "_law_told", "_law_due", "_law_size", "_law_folk", "_law_lists", "_law_some", "_law_houses", "_law_pairs", "_law_k", "_law_name", "_law_one"]
def P__law_sizes_right : List Str := ["_law_n"]
def m__law_sizes_right : MF := mDef 1 12 (mSeq (mPar 1 2 true true (mLst (mNil)) (mLst (mNil))) (mSeq (mFor (mRng1 (mCons (mC (.int 8)) (mNil))) (bName 3) (mSeq (mPar 4 5 false false (mCal tupleD (mCons (mSl slD (mVar 0) (mPt (mC (.int 1))) (mPt (mBin addB (mC (.int 1)) (mVar 3)))) (mNil))) (mCal tupleD (mCons (mLc (mSrcA (mSl slD (mVar 0) (mPt (mC (.int 2))) (mPt (mBin addB (mC (.int 2)) (mVar 3))))) (bName 10) (mYes) (mTup (mCons (mVar 10) (mCons (mTup (mCons (mTup (mCons (mBin ixD (mVar 0) (mC (.int 1))) (mCons (mBin ixD (mVar 0) (mC (.int 0))) (mNil)))) (mNil))) (mNil)))) [10]) (mNil)))) (mSeq (mSet 6 (mCal tupleD (mCons (mLc (mSrcA (mSl slD (mVar 0) (mPt (mC (.int 1))) (mPt (mBin addB (mC (.int 1)) (mVar 3))))) (bName 10) (mYes) (mTup (mCons (mVar 10) (mCons (mBin ixD (mVar 0) (mC (.int 0))) (mNil)))) [10]) (mNil)))) (mSeq (mSet 7 (mCal tupleD (mCons (mLc (mSrcA (mSl slD (mVar 0) (mPt (mC (.int 1))) (mPt (mBin addB (mC (.int 1)) (mVar 3))))) (bName 10) (mYes) (mCall m__law_house (mCons (mVar 10) (mNil))) [10]) (mNil)))) (mSeq (mSetC 1 (mBin addB (mVar 1) (mLst (mCons (mCall m__law_with (mCons (mVar 0) (mCons (mDisp (mPCons (.inr "folk") (mVar 4) (mPNil))) (mNil)))) (mCons (mCall m__law_with (mCons (mVar 0) (mCons (mDisp (mPCons (.inr "lists") (mVar 5) (mPNil))) (mNil)))) (mNil)))))) (mSeq (mSetC 1 (mBin addB (mVar 1) (mLst (mCons (mCall m__law_with (mCons (mVar 0) (mCons (mDisp (mPCons (.inr "lists") (mTup (mCons (mTup (mCons (mBin ixD (mVar 0) (mC (.int 2))) (mCons (mVar 6) (mNil)))) (mNil))) (mPNil))) (mNil)))) (mCons (mCall m__law_with (mCons (mVar 0) (mCons (mDisp (mPCons (.inr "more") (mVar 7) (mPNil))) (mNil)))) (mNil)))))) (mSetC 2 (mBin addB (mVar 2) (mLst (mCons (mChain (intD ltF) (intD ltF) (mC (.int 0)) (mVar 3) (mC (.int 5))) (mCons (mBin (intD ltF) (mVar 3) (mC (.int 4))) (mCons (mChain (intD ltF) (intD ltF) (mC (.int 0)) (mVar 3) (mC (.int 5))) (mCons (mBin (intD ltF) (mVar 3) (mC (.int 5))) (mNil)))))))))))))) (mSeq (mPar 7 8 false false (mCal tupleD (mCons (mLc (mSrcA (mSl slD (mVar 0) (mPt (mC (.int 1))) (mPt (mC (.int 5))))) (bName 10) (mYes) (mCall m__law_house (mCons (mVar 10) (mNil))) [10]) (mNil))) (mLst (mNil))) (mSeq (mFor (mRng1 (mCons (mC (.int 5)) (mNil))) (bName 9) (mSet 8 (mBin addB (mVar 8) (mLc (mSrcA (mSl slD (mVar 0) (mPt (mBin addB (mVar 9) (mC (.int 1)))) (mPt (mC (.int 5))))) (bName 11) (mYes) (mTup (mCons (mVar 11) (mCons (mBin ixD (mVar 0) (mVar 9)) (mCons (mC (.int 1)) (mNil))))) [11])))) (mSeq (mFor (mRng1 (mCons (mC (.int 11)) (mNil))) (bName 3) (mSeq (mDrop (mCm appF (mVar 1) (mCons (mCall m__law_with (mCons (mVar 0) (mCons (mDisp (mPCons (.inr "more") (mVar 7) (mPCons (.inr "links") (mCal tupleD (mCons (mSl slD (mVar 8) (mNoP) (mPt (mVar 3))) (mNil))) (mPNil)))) (mNil)))) (mNil)))) (mDrop (mCm appF (mVar 2) (mCons (mBin (intD ltF) (mVar 3) (mC (.int 9))) (mNil)))))) (mRet (mBin eqD (mVar 1) (mVar 2))))))))
abbrev s__law_numbers_right : Stmt := topS 42
def N__law_numbers_right : List Str := ["_law_n", "_law_told", "_law_due", "_law_more", "_law_number", "_law_some", "_law_wrong", "_law_one"]
def P__law_numbers_right : List Str := ["_law_n"]
def m__law_numbers_right : MF := mDef 1 8 (mSeq (mPar3 1 2 3 (mConsC (mLst (mNil)) (mConsC (mLst (mNil)) (mCons (mTup (mCons (mCall m__law_house (mCons (mBin ixD (mVar 0) (mC (.int 2))) (mNil))) (mNil))) (mNil))))) (mSeq (mFor (mSrcA (mTup (mCons (mC (.int 399)) (mCons (mC (.int 400)) (mCons (mC (.int 9000)) (mCons (mC (.int 9001)) (mCons (mC (.int 0)) (mCons (mUn negB (mC (.int 400))) (mCons (mC (.bool true)) (mCons (mC .none) (mCons (mC (.str "400")) (mNil)))))))))))) (bName 4) (mSeq (mDrop (mCm appF (mVar 1) (mCons (mCall m__law_with (mCons (mVar 0) (mCons (mDisp (mPCons (.inr "most") (mVar 4) (mPNil))) (mNil)))) (mNil)))) (mDrop (mCm appF (mVar 2) (mCons (mBin inD (mVar 4) (mTup (mCons (mC (.int 400)) (mCons (mC (.int 9000)) (mNil))))) (mNil)))))) (mSeq (mFor (mSrcA (mTup (mCons (mC (.int 0)) (mCons (mC (.int 1)) (mCons (mC (.int 4)) (mCons (mC (.int 5)) (mCons (mUn negB (mC (.int 1))) (mCons (mC (.bool true)) (mCons (mC .none) (mCons (mC (.str "1")) (mNil))))))))))) (bName 4) (mSeq (mDrop (mCm appF (mVar 1) (mCons (mCall m__law_with (mCons (mVar 0) (mCons (mDisp (mPCons (.inr "more") (mVar 3) (mPCons (.inr "links") (mTup (mCons (mTup (mCons (mBin ixD (mVar 0) (mC (.int 0))) (mCons (mBin ixD (mVar 0) (mC (.int 2))) (mCons (mVar 4) (mNil))))) (mNil))) (mPNil)))) (mNil)))) (mNil)))) (mDrop (mCm appF (mVar 2) (mCons (mAnd (mBin inD (mVar 4) (mTup (mCons (mC (.int 1)) (mCons (mC (.int 4)) (mNil))))) (mNot (mIsI "bool" (mVar 4)))) (mNil)))))) (mSeq (mSet 5 (mLst (mCons (mTup (mCons (mC (.str "plain")) (mNil))) (mCons (mTup (mCons (mC (.str "packed")) (mNil))) (mCons (mTup (mCons (mC (.str "plain")) (mCons (mC (.str "packed")) (mNil)))) (mCons (mTup (mCons (mC (.str "plain")) (mCons (mC (.str "marked")) (mCons (mC (.str "packed")) (mNil))))) (mCons (mTup (mCons (mC (.str "marked")) (mCons (mC (.str "packed")) (mNil)))) (mNil)))))))) (mSeq (mSet 6 (mLst (mCons (mTup (mNil)) (mCons (mTup (mCons (mC (.str "packed")) (mCons (mC (.str "plain")) (mNil)))) (mCons (mTup (mCons (mC (.str "plain")) (mCons (mC (.str "plain")) (mNil)))) (mCons (mTup (mCons (mC (.str "Plain")) (mNil))) (mCons (mLst (mCons (mC (.str "plain")) (mNil))) (mCons (mC (.str "plain")) (mCons (mTup (mCons (mC .none) (mNil))) (mCons (mTup (mCons (mC (.str "marked")) (mCons (mC (.str "plain")) (mNil)))) (mNil))))))))))) (mSeq (mSetC 1 (mBin addB (mVar 1) (mLc (mSrcA (mBin addB (mVar 5) (mVar 6))) (bName 7) (mYes) (mCall m__law_with (mCons (mVar 0) (mCons (mDisp (mPCons (.inr "ways") (mVar 7) (mPNil))) (mNil)))) [7]))) (mRet (mBin eqD (mVar 1) (mBin addB (mBin addB (mVar 2) (mBin mulD (mLst (mCons (mC (.bool true)) (mNil))) (mC (.int 5)))) (mBin mulD (mLst (mCons (mC (.bool false)) (mNil))) (mC (.int 8))))))))))))
abbrev s__law_alike_right : Stmt := topS 43
def N__law_alike_right : List Str := ["_law_n", "_law_here", "_law_more", "_law_some", "_law_twice", "_law_fine", "_law_one"]
def P__law_alike_right : List Str := ["_law_n"]
def m__law_alike_right : MF := mDef 1 7 (mSeq (mPar 1 2 false false (mTup (mCons (mTup (mCons (mBin ixD (mVar 0) (mC (.int 1))) (mCons (mBin ixD (mVar 0) (mC (.int 0))) (mNil)))) (mNil))) (mTup (mCons (mCall m__law_house (mCons (mBin ixD (mVar 0) (mC (.int 2))) (mNil))) (mNil)))) (mSeq (mSetC 3 (mLst (mCons (mDisp (mPCons (.inr "folk") (mTup (mCons (mBin ixD (mVar 0) (mC (.int 1))) (mCons (mBin ixD (mVar 0) (mC (.int 2))) (mCons (mBin ixD (mVar 0) (mC (.int 1))) (mNil))))) (mPNil))) (mCons (mDisp (mPCons (.inr "folk") (mTup (mCons (mBin ixD (mVar 0) (mC (.int 1))) (mCons (mC (.str "post")) (mNil)))) (mPNil))) (mCons (mDisp (mPCons (.inr "lists") (mTup (mCons (mTup (mCons (mBin ixD (mVar 0) (mC (.int 1))) (mCons (mVar 1) (mNil)))) (mNil))) (mPNil))) (mNil)))))) (mSeq (mSetC 3 (mBin addB (mVar 3) (mLst (mCons (mDisp (mPCons (.inr "lists") (mTup (mCons (mTup (mCons (mBin ixD (mVar 0) (mC (.int 2))) (mCons (mVar 1) (mNil)))) (mCons (mTup (mCons (mBin ixD (mVar 0) (mC (.int 2))) (mCons (mVar 1) (mNil)))) (mNil)))) (mPNil))) (mCons (mDisp (mPCons (.inr "lists") (mTup (mCons (mTup (mCons (mC (.str "post")) (mCons (mVar 1) (mNil)))) (mNil))) (mPNil))) (mNil)))))) (mSeq (mDrop (mCm appF (mVar 3) (mCons (mDisp (mPCons (.inr "lists") (mTup (mCons (mTup (mCons (mBin ixD (mVar 0) (mC (.int 2))) (mCons (mBin mulD (mVar 1) (mC (.int 2))) (mNil)))) (mNil))) (mPNil))) (mNil)))) (mSeq (mSetC 3 (mBin addB (mVar 3) (mLst (mCons (mDisp (mPCons (.inr "more") (mBin addB (mVar 2) (mVar 2)) (mPNil))) (mCons (mDisp (mPCons (.inr "more") (mTup (mCons (mCall m__law_house (mCons (mBin ixD (mVar 0) (mC (.int 0))) (mNil))) (mNil))) (mPNil))) (mCons (mDisp (mPCons (.inr "more") (mVar 2) (mPCons (.inr "links") (mTup (mCons (mTup (mCons (mBin ixD (mVar 0) (mC (.int 0))) (mCons (mBin ixD (mVar 0) (mC (.int 0))) (mCons (mC (.int 1)) (mNil))))) (mNil))) (mPNil)))) (mNil))))))) (mSeq (mSet 4 (mTup (mCons (mTup (mCons (mBin ixD (mVar 0) (mC (.int 0))) (mCons (mBin ixD (mVar 0) (mC (.int 2))) (mCons (mC (.int 1)) (mNil))))) (mCons (mTup (mCons (mBin ixD (mVar 0) (mC (.int 2))) (mCons (mBin ixD (mVar 0) (mC (.int 0))) (mCons (mC (.int 2)) (mNil))))) (mNil))))) (mSeq (mSetC 3 (mBin addB (mVar 3) (mLst (mCons (mDisp (mPCons (.inr "more") (mVar 2) (mPCons (.inr "links") (mVar 4) (mPNil)))) (mCons (mDisp (mPCons (.inr "more") (mVar 2) (mPCons (.inr "links") (mTup (mCons (mTup (mCons (mBin ixD (mVar 0) (mC (.int 0))) (mCons (mBin ixD (mVar 0) (mC (.int 3))) (mCons (mC (.int 1)) (mNil))))) (mNil))) (mPNil)))) (mNil)))))) (mSeq (mSetC 3 (mBin addB (mVar 3) (mLst (mCons (mDisp (mPCons (.inr "more") (mVar 2) (mPCons (.inr "links") (mBin mulD (mSl slD (mVar 4) (mNoP) (mPt (mC (.int 1)))) (mC (.int 2))) (mPNil)))) (mCons (mDisp (mPCons (.inr "folk") (mLst (mCons (mBin ixD (mVar 0) (mC (.int 1))) (mNil))) (mPNil))) (mCons (mDisp (mPCons (.inr "lists") (mTup (mCons (mTup (mCons (mBin ixD (mVar 0) (mC (.int 2))) (mCons (mTup (mCons (mTup (mCons (mBin ixD (mVar 0) (mC (.int 1))) (mNil))) (mNil))) (mNil)))) (mNil))) (mPNil))) (mNil))))))) (mSeq (mSet 5 (mLst (mCons (mDisp (mPCons (.inr "folk") (mTup (mCons (mBin ixD (mVar 0) (mC (.int 0))) (mNil))) (mPNil))) (mCons (mDisp (mPCons (.inr "lists") (mTup (mCons (mTup (mCons (mBin ixD (mVar 0) (mC (.int 0))) (mCons (mVar 1) (mNil)))) (mNil))) (mPNil))) (mCons (mDisp (mPCons (.inr "more") (mVar 2) (mPCons (.inr "folk") (mTup (mCons (mBin ixD (mVar 0) (mC (.int 3))) (mCons (mBin ixD (mVar 0) (mC (.int 2))) (mNil)))) (mPCons (.inr "links") (mSl slD (mVar 4) (mPt (mC (.int 1))) (mNoP)) (mPNil))))) (mNil)))))) (mSeq (mSet 5 (mBin addB (mVar 5) (mLst (mCons (mDisp (mPCons (.inr "name") (mC (.str "post")) (mPNil))) (mCons (mDisp (mPCons (.inr "lists") (mTup (mCons (mTup (mCons (mBin ixD (mVar 0) (mC (.int 2))) (mCons (mTup (mCons (mTup (mCons (mC (.str "post")) (mCons (mBin ixD (mVar 0) (mC (.int 3))) (mNil)))) (mCons (mTup (mCons (mBin ixD (mVar 0) (mC (.int 2))) (mCons (mBin ixD (mVar 0) (mC (.int 0))) (mNil)))) (mNil)))) (mNil)))) (mNil))) (mPNil))) (mCons (mDisp (mPCons (.inr "lists") (mTup (mCons (mTup (mCons (mBin ixD (mVar 0) (mC (.int 2))) (mCons (mVar 1) (mNil)))) (mNil))) (mPNil))) (mNil))))))) (mRet (mBin eqD (mLc (mSrcA (mBin addB (mVar 3) (mVar 5))) (bName 6) (mYes) (mCall m__law_with (mCons (mVar 0) (mCons (mVar 6) (mNil)))) [6]) (mBin addB (mBin mulD (mLst (mCons (mC (.bool false)) (mNil))) (mC (.int 14))) (mBin mulD (mLst (mCons (mC (.bool true)) (mNil))) (mC (.int 6))))))))))))))))
abbrev s_law : Stmt := topS 44
def N_law : List Str := ["_law_script", "_law_state", "_law_turn", "_law_n"]
def P_law : List Str := ["_law_script"]
def m_law : MF := mDef 1 4 (mSeq (mSet 1 (mCall m__law_begin (mCons (mVar 0) (mNil)))) (mSeq (mFor (mRng1 (mCons (mC (.int 2)) (mNil))) (bName 2) (mSeq (mSet 3 (mCall m__law_names (mCons (mVar 1) (mCons (mC (.int 12)) (mNil))))) (mSeq (mIf (mOrT (mNotT (mTr (mCall m__law_sizes_right (mCons (mVar 3) (mNil))))) (mOrT (mNotT (mTr (mCall m__law_numbers_right (mCons (mVar 3) (mNil))))) (mNotT (mTr (mCall m__law_alike_right (mCons (mVar 3) (mNil))))))) (mRet (mC (.bool false))) (mNext)) (mIf (mTb (mBin isnD (mCall m__law_with (mCons (mVar 3) (mCons (mDnil) (mNil)))) (mC (.bool true)))) (mRet (mC (.bool false))) (mNext))))) (mRet (mC (.bool true)))))
section
variable {P : Program} {w : World} {K : PySem.W.Frag} {mg : Str → Option Value} {base : Heap}
theorem sc_is_number : FnScope N_is_number P_is_number (defScope s_is_number) := ⟨rfl, rfl, rfl, by decide +kernel, rfl, by decide +kernel, by decide +kernel⟩
set_option maxHeartbeats 0 in
theorem ok_is_number {k : Nat} (z_bool : mg "bool" = none) (z_int : mg "int" = none) (z_isinstance : mg "isinstance" = none) {f : Addr} {fd : FuncData} (Fu : Fun K "is_number" "is_number" s_is_number f fd) (hm : mg "is_number" = some (.ref f)) : Cal P w K mg base (k + 1) "is_number" s_is_number P_is_number m_is_number :=
  ⟨⟨f, fd, _, _, Fu, Fu.binds (ps := P_is_number) (fun _ _ _ _ _ _ us hl => match us, hl with | [_], _ => rfl), ok_def (N := N_is_number) (ps := P_is_number) Fu sc_is_number (fun cdv A outer s H E gu hr => by
    have hu : (A.deeper (envOfC "is_number" (defScope s_is_number) s.heap.objs.size f cdv)).units + 64 < cLine := hr.units
    have nd := sc_is_number.nd
    exact jss_one (js_ret (je_and (je_isi (by rfl) z_isinstance (je_var 0) (pe_bltn (by rfl) z_int (by decide +kernel) rfl) (by decide)) (je_one (je_not (je_isi (by rfl) z_isinstance (je_var 0) (pe_bltn (by rfl) z_bool (by decide +kernel) rfl) (by decide))))))), hm⟩, nargs_def⟩
theorem sc_is_within : FnScope N_is_within P_is_within (defScope s_is_within) := ⟨rfl, rfl, rfl, by decide +kernel, rfl, by decide +kernel, by decide +kernel⟩
set_option maxHeartbeats 0 in
theorem ok_is_within {k : Nat} (C_is_number : Cal P w K mg base k "is_number" s_is_number P_is_number m_is_number) {f : Addr} {fd : FuncData} (Fu : Fun K "is_within" "is_within" s_is_within f fd) (hm : mg "is_within" = some (.ref f)) : Cal P w K mg base (k + 1) "is_within" s_is_within P_is_within m_is_within :=
  ⟨⟨f, fd, _, _, Fu, Fu.binds (ps := P_is_within) (fun _ _ _ _ _ _ us hl => match us, hl with | [_, _, _], _ => rfl), ok_def (N := N_is_within) (ps := P_is_within) Fu sc_is_within (fun cdv A outer s H E gu hr => by
    have hu : (A.deeper (envOfC "is_within" (defScope s_is_within) s.heap.objs.size f cdv)).units + 64 < cLine := hr.units
    have nd := sc_is_within.nd
    exact jss_one (js_ret (je_and (je_callC gu hr C_is_number (ja_cons (je_var 0) (ja_nil))) (je_one (je_chain op_le leI op_le leI (je_var 1) (je_var 0) (je_var 2)))))), hm⟩, nargs_def⟩
theorem sc_is_tuple_of : FnScope N_is_tuple_of P_is_tuple_of (defScope s_is_tuple_of) := ⟨rfl, rfl, rfl, by decide +kernel, rfl, by decide +kernel, by decide +kernel⟩
set_option maxHeartbeats 0 in
theorem ok_is_tuple_of {k : Nat} (z_isinstance : mg "isinstance" = none) (z_len : mg "len" = none) (z_tuple : mg "tuple" = none) {f : Addr} {fd : FuncData} (Fu : Fun K "is_tuple_of" "is_tuple_of" s_is_tuple_of f fd) (hm : mg "is_tuple_of" = some (.ref f)) : Cal P w K mg base (k + 1) "is_tuple_of" s_is_tuple_of P_is_tuple_of m_is_tuple_of :=
  ⟨⟨f, fd, _, _, Fu, Fu.binds (ps := P_is_tuple_of) (fun _ _ _ _ _ _ us hl => match us, hl with | [_, _], _ => rfl), ok_def (N := N_is_tuple_of) (ps := P_is_tuple_of) Fu sc_is_tuple_of (fun cdv A outer s H E gu hr => by
    have hu : (A.deeper (envOfC "is_tuple_of" (defScope s_is_tuple_of) s.heap.objs.size f cdv)).units + 64 < cLine := hr.units
    have nd := sc_is_tuple_of.nd
    exact jss_one (js_ret (je_and (je_isi (by rfl) z_isinstance (je_var 0) (pe_bltn (by rfl) z_tuple (by decide +kernel) rfl) (by decide)) (je_one (je_cmp (op_eqP hu) eqI (je_callB call_len lenI (by rfl) z_len (by decide +kernel) (ja_cons (je_var 0) (ja_nil))) (je_var 1)))))), hm⟩, nargs_def⟩
theorem sc_is_short : FnScope N_is_short P_is_short (defScope s_is_short) := ⟨rfl, rfl, rfl, by decide +kernel, rfl, by decide +kernel, by decide +kernel⟩
set_option maxHeartbeats 0 in
theorem ok_is_short {k : Nat} (z_isinstance : mg "isinstance" = none) (z_len : mg "len" = none) (z_tuple : mg "tuple" = none) {f : Addr} {fd : FuncData} (Fu : Fun K "is_short" "is_short" s_is_short f fd) (hm : mg "is_short" = some (.ref f)) : Cal P w K mg base (k + 1) "is_short" s_is_short P_is_short m_is_short :=
  ⟨⟨f, fd, _, _, Fu, Fu.binds (ps := P_is_short) (fun _ _ _ _ _ _ us hl => match us, hl with | [_, _, _], _ => rfl), ok_def (N := N_is_short) (ps := P_is_short) Fu sc_is_short (fun cdv A outer s H E gu hr => by
    have hu : (A.deeper (envOfC "is_short" (defScope s_is_short) s.heap.objs.size f cdv)).units + 64 < cLine := hr.units
    have nd := sc_is_short.nd
    exact jss_one (js_ret (je_and (je_isi (by rfl) z_isinstance (je_var 0) (pe_bltn (by rfl) z_tuple (by decide +kernel) rfl) (by decide)) (je_one (je_chain op_le leI op_le leI (je_var 1) (je_callB call_len lenI (by rfl) z_len (by decide +kernel) (ja_cons (je_var 0) (ja_nil))) (je_var 2)))))), hm⟩, nargs_def⟩
theorem sc_are_unlike : FnScope N_are_unlike P_are_unlike (defScope s_are_unlike) := ⟨rfl, rfl, rfl, by decide +kernel, rfl, by decide +kernel, by decide +kernel⟩
set_option maxHeartbeats 0 in
theorem ok_are_unlike {k : Nat} (z_len : mg "len" = none) (z_set : mg "set" = none) {f : Addr} {fd : FuncData} (Fu : Fun K "are_unlike" "are_unlike" s_are_unlike f fd) (hm : mg "are_unlike" = some (.ref f)) : Cal P w K mg base (k + 1) "are_unlike" s_are_unlike P_are_unlike m_are_unlike :=
  ⟨⟨f, fd, _, _, Fu, Fu.binds (ps := P_are_unlike) (fun _ _ _ _ _ _ us hl => match us, hl with | [_], _ => rfl), ok_def (N := N_are_unlike) (ps := P_are_unlike) Fu sc_are_unlike (fun cdv A outer s H E gu hr => by
    have hu : (A.deeper (envOfC "are_unlike" (defScope s_are_unlike) s.heap.objs.size f cdv)).units + 64 < cLine := hr.units
    have nd := sc_are_unlike.nd
    exact jss_one (js_ret (je_cmp (op_eqP hu) eqI (je_lenset rfl hu (by rfl) z_len (by rfl) z_set (je_var 0)) (je_callB call_len lenI (by rfl) z_len (by decide +kernel) (ja_cons (je_var 0) (ja_nil)))))), hm⟩, nargs_def⟩
theorem sc_is_name : FnScope N_is_name P_is_name (defScope s_is_name) := ⟨rfl, rfl, rfl, by decide +kernel, rfl, by decide +kernel, by decide +kernel⟩
set_option maxHeartbeats 0 in
theorem ok_is_name {k : Nat} (z_all : mg "all" = none) (z_isinstance : mg "isinstance" = none) (z_len : mg "len" = none) (z_str : mg "str" = none) {t_MOST_LETTERS : Tok} (c_MOST_LETTERS : mg "MOST_LETTERS" = some (.int 8 t_MOST_LETTERS)) {t_SMALL_SIGNS : Tok} (c_SMALL_SIGNS : mg "SMALL_SIGNS" = some (.str "abcdefghijklmnopqrstuvwxyz" t_SMALL_SIGNS)) {f : Addr} {fd : FuncData} (Fu : Fun K "is_name" "is_name" s_is_name f fd) (hm : mg "is_name" = some (.ref f)) : Cal P w K mg base (k + 1) "is_name" s_is_name P_is_name m_is_name :=
  ⟨⟨f, fd, _, _, Fu, Fu.binds (ps := P_is_name) (fun _ _ _ _ _ _ us hl => match us, hl with | [_], _ => rfl), ok_def (N := N_is_name) (ps := P_is_name) Fu sc_is_name (fun cdv A outer s H E gu hr => by
    have hu : (A.deeper (envOfC "is_name" (defScope s_is_name) s.heap.objs.size f cdv)).units + 64 < cLine := hr.units
    have nd := sc_is_name.nd
    exact jss_cons (js_if (jt_w (jw_or (jt_not (jt_val (je_isi (by rfl) z_isinstance (je_var 0) (pe_bltn (by rfl) z_str (by decide +kernel) rfl) (by decide)))) (jw_or1 (jt_not (jt_chain op_le leI op_le leI (je_int) (je_callB call_len lenI (by rfl) z_len (by decide +kernel) (ja_cons (je_var 0) (ja_nil))) ((je_gl (v := .int 8) (by rfl) c_MOST_LETTERS ⟨_, rfl⟩ fun _ => .int _))))))) (jss_one (js_ret (je_bl))) (jss_nil)) (jss_one (js_ret (je_callB (cr_all rfl) allI (by rfl) z_all (by decide +kernel) (ja_cons (je_lc (own := [("sign", 1)]) rfl nd (ji_str (je_var 0)) (blkOk_by (N := N_is_name) (sc := defScope s_is_name) (by decide +kernel)) (fun _ _ _ _ _ => jg_name nd rfl (by first | exact Or.inl rfl | exact Or.inr rfl)) (fun _ _ _ _ _ => jts_nil) (fun _ _ _ _ _ => je_cmp op_inAll inI (je_var 1) ((je_gl (v := .str "abcdefghijklmnopqrstuvwxyz") (by rfl) c_SMALL_SIGNS ⟨_, rfl⟩ fun _ => .str _)))) (ja_nil)))))), hm⟩, nargs_def⟩
theorem sc_is_address : FnScope N_is_address P_is_address (defScope s_is_address) := ⟨rfl, rfl, rfl, by decide +kernel, rfl, by decide +kernel, by decide +kernel⟩
set_option maxHeartbeats 0 in
theorem ok_is_address {k : Nat} (C_is_name : Cal P w K mg base k "is_name" s_is_name P_is_name m_is_name) (C_is_tuple_of : Cal P w K mg base k "is_tuple_of" s_is_tuple_of P_is_tuple_of m_is_tuple_of) {f : Addr} {fd : FuncData} (Fu : Fun K "is_address" "is_address" s_is_address f fd) (hm : mg "is_address" = some (.ref f)) : Cal P w K mg base (k + 1) "is_address" s_is_address P_is_address m_is_address :=
  ⟨⟨f, fd, _, _, Fu, Fu.binds (ps := P_is_address) (fun _ _ _ _ _ _ us hl => match us, hl with | [_], _ => rfl), ok_def (N := N_is_address) (ps := P_is_address) Fu sc_is_address (fun cdv A outer s H E gu hr => by
    have hu : (A.deeper (envOfC "is_address" (defScope s_is_address) s.heap.objs.size f cdv)).units + 64 < cLine := hr.units
    have nd := sc_is_address.nd
    exact jss_one (js_ret (je_and (je_callC gu hr C_is_tuple_of (ja_cons (je_var 0) (ja_cons (je_int) (ja_nil)))) (je_and (je_callC gu hr C_is_name (ja_cons (je_ix ix_seq ixI (je_var 0) (je_int)) (ja_nil))) (je_one (je_callC gu hr C_is_name (ja_cons (je_ix ix_seq ixI (je_var 0) (je_int)) (ja_nil)))))))), hm⟩, nargs_def⟩
theorem sc_are_addresses : FnScope N_are_addresses P_are_addresses (defScope s_are_addresses) := ⟨rfl, rfl, rfl, by decide +kernel, rfl, by decide +kernel, by decide +kernel⟩
set_option maxHeartbeats 0 in
theorem ok_are_addresses {k : Nat} (z_all : mg "all" = none) {t_MOST_ADDRESSES : Tok} (c_MOST_ADDRESSES : mg "MOST_ADDRESSES" = some (.int 4 t_MOST_ADDRESSES)) (C_are_unlike : Cal P w K mg base k "are_unlike" s_are_unlike P_are_unlike m_are_unlike) (C_is_address : Cal P w K mg base k "is_address" s_is_address P_is_address m_is_address) (C_is_short : Cal P w K mg base k "is_short" s_is_short P_is_short m_is_short) {f : Addr} {fd : FuncData} (Fu : Fun K "are_addresses" "are_addresses" s_are_addresses f fd) (hm : mg "are_addresses" = some (.ref f)) : Cal P w K mg base (k + 1) "are_addresses" s_are_addresses P_are_addresses m_are_addresses :=
  ⟨⟨f, fd, _, _, Fu, Fu.binds (ps := P_are_addresses) (fun _ _ _ _ _ _ us hl => match us, hl with | [_], _ => rfl), ok_def (N := N_are_addresses) (ps := P_are_addresses) Fu sc_are_addresses (fun cdv A outer s H E gu hr => by
    have hu : (A.deeper (envOfC "are_addresses" (defScope s_are_addresses) s.heap.objs.size f cdv)).units + 64 < cLine := hr.units
    have nd := sc_are_addresses.nd
    exact jss_one (js_ret (je_and (je_callC gu hr C_is_short (ja_cons (je_var 0) (ja_cons (je_int) (ja_cons ((je_gl (v := .int 4) (by rfl) c_MOST_ADDRESSES ⟨_, rfl⟩ fun _ => .int _)) (ja_nil))))) (je_and (je_callB (cr_all rfl) allI (by rfl) z_all (by decide +kernel) (ja_cons (je_lc (own := [("one", 1)]) rfl nd (ji_any (je_var 0)) (blkOk_by (N := N_are_addresses) (sc := defScope s_are_addresses) (by decide +kernel)) (fun _ _ _ _ _ => jg_name nd rfl (by first | exact Or.inl rfl | exact Or.inr rfl)) (fun _ _ _ _ _ => jts_nil) (fun _ _ _ _ _ => je_callC gu hr C_is_address (ja_cons (je_var 1) (ja_nil)))) (ja_nil))) (je_one (je_callC gu hr C_are_unlike (ja_cons (je_var 0) (ja_nil)))))))), hm⟩, nargs_def⟩
theorem sc_are_ways : FnScope N_are_ways P_are_ways (defScope s_are_ways) := ⟨rfl, rfl, rfl, by decide +kernel, rfl, by decide +kernel, by decide +kernel⟩
set_option maxHeartbeats 0 in
theorem ok_are_ways {k : Nat} (z_all : mg "all" = none) (z_isinstance : mg "isinstance" = none) (z_len : mg "len" = none) (z_str : mg "str" = none) (z_zip : mg "zip" = none) (C_is_short : Cal P w K mg base k "is_short" s_is_short P_is_short m_is_short) (M_WAYS : MTup K mg "WAYS" T_WAYS) {f : Addr} {fd : FuncData} (Fu : Fun K "are_ways" "are_ways" s_are_ways f fd) (hm : mg "are_ways" = some (.ref f)) : Cal P w K mg base (k + 1) "are_ways" s_are_ways P_are_ways m_are_ways :=
  ⟨⟨f, fd, _, _, Fu, Fu.binds (ps := P_are_ways) (fun _ _ _ _ _ _ us hl => match us, hl with | [_], _ => rfl), ok_def (N := N_are_ways) (ps := P_are_ways) Fu sc_are_ways (fun cdv A outer s H E gu hr => by
    have hu : (A.deeper (envOfC "are_ways" (defScope s_are_ways) s.heap.objs.size f cdv)).units + 64 < cLine := hr.units
    have nd := sc_are_ways.nd
    exact jss_cons (js_if (jt_w (jw_or (jt_not (jt_val (je_callC gu hr C_is_short (ja_cons (je_var 0) (ja_cons (je_int) (ja_cons (je_callB call_len lenI (by rfl) z_len (by decide +kernel) (ja_cons (je_gtup M_WAYS (by rfl)) (ja_nil))) (ja_nil))))))) (jw_or1 (jt_not (jt_val (je_callB (cr_all rfl) allI (by rfl) z_all (by decide +kernel) (ja_cons (je_lc (own := [("way", 2)]) rfl nd (ji_any (je_var 0)) (blkOk_by (N := N_are_ways) (sc := defScope s_are_ways) (by decide +kernel)) (fun _ _ _ _ _ => jg_name nd rfl (by first | exact Or.inl rfl | exact Or.inr rfl)) (fun _ _ _ _ _ => jts_nil) (fun _ _ _ _ _ => je_and (je_isi (by rfl) z_isinstance (je_var 2) (pe_bltn (by rfl) z_str (by decide +kernel) rfl) (by decide)) (je_one (je_cmp op_inAll inI (je_var 2) (je_gtup M_WAYS (by rfl)))))) (ja_nil)))))))) (jss_one (js_ret (je_bl))) (jss_nil)) (jss_cons (js_setLc (own := [("way", 2)]) rfl nd rfl rfl (sw_true rfl rfl rfl (by decide +kernel)) (ji_any (je_var 0)) (blkOk_by (N := N_are_ways) (sc := defScope s_are_ways) (by decide +kernel)) (fun _ _ _ _ _ => jg_name nd rfl (by first | exact Or.inl rfl | exact Or.inr rfl)) (fun _ _ _ _ _ => jts_nil) (fun _ _ _ _ _ => je_tidx M_WAYS (by rfl) (ja_cons (je_var 2) (ja_nil)))) (jss_one (js_ret (je_callB (cr_all rfl) allI (by rfl) z_all (by decide +kernel) (ja_cons (je_lc (own := [("one", 3), ("other", 4)]) rfl nd (ji_zipA (by rfl) z_zip (ja_cons (je_var 1) (ja_cons (je_sl (je_var 1) (jo_some (je_int)) (jo_none)) (ja_nil)))) (blkOk_by (N := N_are_ways) (sc := defScope s_are_ways) (by decide +kernel)) (fun _ _ _ _ _ => jg_tup rfl (jgs_cons (jg_name nd rfl (by first | exact Or.inl rfl | exact Or.inr rfl)) (jgs_cons (jg_name nd rfl (by first | exact Or.inl rfl | exact Or.inr rfl)) (jgs_nil)))) (fun _ _ _ _ _ => jts_nil) (fun _ _ _ _ _ => je_cmp op_lt ltI (je_var 3) (je_var 4))) (ja_nil))))))), hm⟩, nargs_def⟩
theorem sc_are_lists : FnScope N_are_lists P_are_lists (defScope s_are_lists) := ⟨rfl, rfl, rfl, by decide +kernel, rfl, by decide +kernel, by decide +kernel⟩
set_option maxHeartbeats 0 in
theorem ok_are_lists {k : Nat} (z_all : mg "all" = none) {t_MOST_LISTS : Tok} (c_MOST_LISTS : mg "MOST_LISTS" = some (.int 3 t_MOST_LISTS)) (C_are_addresses : Cal P w K mg base k "are_addresses" s_are_addresses P_are_addresses m_are_addresses) (C_is_name : Cal P w K mg base k "is_name" s_is_name P_is_name m_is_name) (C_is_short : Cal P w K mg base k "is_short" s_is_short P_is_short m_is_short) (C_is_tuple_of : Cal P w K mg base k "is_tuple_of" s_is_tuple_of P_is_tuple_of m_is_tuple_of) {f : Addr} {fd : FuncData} (Fu : Fun K "are_lists" "are_lists" s_are_lists f fd) (hm : mg "are_lists" = some (.ref f)) : Cal P w K mg base (k + 1) "are_lists" s_are_lists P_are_lists m_are_lists :=
  ⟨⟨f, fd, _, _, Fu, Fu.binds (ps := P_are_lists) (fun _ _ _ _ _ _ us hl => match us, hl with | [_], _ => rfl), ok_def (N := N_are_lists) (ps := P_are_lists) Fu sc_are_lists (fun cdv A outer s H E gu hr => by
    have hu : (A.deeper (envOfC "are_lists" (defScope s_are_lists) s.heap.objs.size f cdv)).units + 64 < cLine := hr.units
    have nd := sc_are_lists.nd
    exact jss_cons (js_if (jt_not (jt_val (je_callC gu hr C_is_short (ja_cons (je_var 0) (ja_cons (je_int) (ja_cons ((je_gl (v := .int 3) (by rfl) c_MOST_LISTS ⟨_, rfl⟩ fun _ => .int _)) (ja_nil))))))) (jss_one (js_ret (je_bl))) (jss_nil)) (jss_one (js_ret (je_callB (cr_all rfl) allI (by rfl) z_all (by decide +kernel) (ja_cons (je_lc (own := [("one", 1)]) rfl nd (ji_any (je_var 0)) (blkOk_by (N := N_are_lists) (sc := defScope s_are_lists) (by decide +kernel)) (fun _ _ _ _ _ => jg_name nd rfl (by first | exact Or.inl rfl | exact Or.inr rfl)) (fun _ _ _ _ _ => jts_nil) (fun _ _ _ _ _ => je_and (je_callC gu hr C_is_tuple_of (ja_cons (je_var 1) (ja_cons (je_int) (ja_nil)))) (je_and (je_callC gu hr C_is_name (ja_cons (je_ix ix_seq ixI (je_var 1) (je_int)) (ja_nil))) (je_one (je_callC gu hr C_are_addresses (ja_cons (je_ix ix_seq ixI (je_var 1) (je_int)) (ja_nil))))))) (ja_nil)))))), hm⟩, nargs_def⟩
theorem sc_is_house : FnScope N_is_house P_is_house (defScope s_is_house) := ⟨rfl, rfl, rfl, by decide +kernel, rfl, by decide +kernel, by decide +kernel⟩
set_option maxHeartbeats 0 in
theorem ok_is_house {k : Nat} (z_all : mg "all" = none) (z_list : mg "list" = none) {t_LEAST_MOST : Tok} (c_LEAST_MOST : mg "LEAST_MOST" = some (.int 400 t_LEAST_MOST)) {t_LISTS : Tok} (c_LISTS : mg "LISTS" = some (.int 2 t_LISTS)) {t_MOST : Tok} (c_MOST : mg "MOST" = some (.int 4 t_MOST)) {t_MOST_MOST : Tok} (c_MOST_MOST : mg "MOST_MOST" = some (.int 9000 t_MOST_MOST)) {t_MOST_PEOPLE : Tok} (c_MOST_PEOPLE : mg "MOST_PEOPLE" = some (.int 4 t_MOST_PEOPLE)) {t_NAME : Tok} (c_NAME : mg "NAME" = some (.int 0 t_NAME)) {t_PEOPLE : Tok} (c_PEOPLE : mg "PEOPLE" = some (.int 1 t_PEOPLE)) {t_POST : Tok} (c_POST : mg "POST" = some (.str "post" t_POST)) {t_TAKEN_WAYS : Tok} (c_TAKEN_WAYS : mg "TAKEN_WAYS" = some (.int 3 t_TAKEN_WAYS)) (C_are_lists : Cal P w K mg base k "are_lists" s_are_lists P_are_lists m_are_lists) (C_are_unlike : Cal P w K mg base k "are_unlike" s_are_unlike P_are_unlike m_are_unlike) (C_are_ways : Cal P w K mg base k "are_ways" s_are_ways P_are_ways m_are_ways) (C_is_name : Cal P w K mg base k "is_name" s_is_name P_is_name m_is_name) (C_is_short : Cal P w K mg base k "is_short" s_is_short P_is_short m_is_short) (C_is_tuple_of : Cal P w K mg base k "is_tuple_of" s_is_tuple_of P_is_tuple_of m_is_tuple_of) (C_is_within : Cal P w K mg base k "is_within" s_is_within P_is_within m_is_within) {f : Addr} {fd : FuncData} (Fu : Fun K "is_house" "is_house" s_is_house f fd) (hm : mg "is_house" = some (.ref f)) : Cal P w K mg base (k + 1) "is_house" s_is_house P_is_house m_is_house :=
  ⟨⟨f, fd, _, _, Fu, Fu.binds (ps := P_is_house) (fun _ _ _ _ _ _ us hl => match us, hl with | [_], _ => rfl), ok_def (N := N_is_house) (ps := P_is_house) Fu sc_is_house (fun cdv A outer s H E gu hr => by
    have hu : (A.deeper (envOfC "is_house" (defScope s_is_house) s.heap.objs.size f cdv)).units + 64 < cLine := hr.units
    have nd := sc_is_house.nd
    exact jss_cons (js_if (jt_w (jw_or (jt_not (jt_val (je_callC gu hr C_is_tuple_of (ja_cons (je_var 0) (ja_cons (je_int) (ja_nil)))))) (jw_or1 (jt_not (jt_val (je_callC gu hr C_is_name (ja_cons (je_ix ix_seq ixI (je_var 0) ((je_gl (v := .int 0) (by rfl) c_NAME ⟨_, rfl⟩ fun _ => .int _))) (ja_nil)))))))) (jss_one (js_ret (je_bl))) (jss_nil)) (jss_cons (js_par (f1 := false) (f2 := false) rfl nd rfl rfl (by decide) rfl rfl (je_ix ix_seq ixI (je_var 0) ((je_gl (v := .int 1) (by rfl) c_PEOPLE ⟨_, rfl⟩ fun _ => .int _))) (je_ix ix_seq ixI (je_var 0) ((je_gl (v := .int 2) (by rfl) c_LISTS ⟨_, rfl⟩ fun _ => .int _))) (by rfl)) (jss_cons (js_if (jt_w (jw_or (jt_not (jt_val (je_callC gu hr C_is_short (ja_cons (je_var 1) (ja_cons (je_int) (ja_cons ((je_gl (v := .int 4) (by rfl) c_MOST_PEOPLE ⟨_, rfl⟩ fun _ => .int _)) (ja_nil))))))) (jw_or (jt_not (jt_val (je_callB (cr_all rfl) allI (by rfl) z_all (by decide +kernel) (ja_cons (je_lc (own := [("one", 6)]) rfl nd (ji_any (je_var 1)) (blkOk_by (N := N_is_house) (sc := defScope s_is_house) (by decide +kernel)) (fun _ _ _ _ _ => jg_name nd rfl (by first | exact Or.inl rfl | exact Or.inr rfl)) (fun _ _ _ _ _ => jts_nil) (fun _ _ _ _ _ => je_callC gu hr C_is_name (ja_cons (je_var 6) (ja_nil)))) (ja_nil))))) (jw_or1 (jt_not (jt_val (je_callC gu hr C_are_lists (ja_cons (je_var 2) (ja_nil))))))))) (jss_one (js_ret (je_bl))) (jss_nil)) (jss_cons (js_set nd rfl (by first | exact Or.inl rfl | exact Or.inr rfl) (je_bin op_addB addBI (je_callTy call_list_of listI (by rfl) z_list (by decide +kernel) (ja_cons (je_var 1) (ja_nil))) (je_lc (own := [("name", 4), ("addresses", 5)]) rfl nd (ji_any (je_var 2)) (blkOk_by (N := N_is_house) (sc := defScope s_is_house) (by decide +kernel)) (fun _ _ _ _ _ => jg_tup rfl (jgs_cons (jg_name nd rfl (by first | exact Or.inl rfl | exact Or.inr rfl)) (jgs_cons (jg_name nd rfl (by first | exact Or.inl rfl | exact Or.inr rfl)) (jgs_nil)))) (fun _ _ _ _ _ => jts_nil) (fun _ _ _ _ _ => je_var 4)))) (jss_cons (js_if (jt_w (jw_or (jt_cmp op_inAll inI ((je_gl (v := .str "post") (by rfl) c_POST ⟨_, rfl⟩ fun _ => .str _)) (je_var 3)) (jw_or1 (jt_not (jt_val (je_callC gu hr C_are_unlike (ja_cons (je_var 3) (ja_nil)))))))) (jss_one (js_ret (je_bl))) (jss_nil)) (jss_one (js_ret (je_and (je_callC gu hr C_are_ways (ja_cons (je_ix ix_seq ixI (je_var 0) ((je_gl (v := .int 3) (by rfl) c_TAKEN_WAYS ⟨_, rfl⟩ fun _ => .int _))) (ja_nil))) (je_one (je_callC gu hr C_is_within (ja_cons (je_ix ix_seq ixI (je_var 0) ((je_gl (v := .int 4) (by rfl) c_MOST ⟨_, rfl⟩ fun _ => .int _))) (ja_cons ((je_gl (v := .int 400) (by rfl) c_LEAST_MOST ⟨_, rfl⟩ fun _ => .int _)) (ja_cons ((je_gl (v := .int 9000) (by rfl) c_MOST_MOST ⟨_, rfl⟩ fun _ => .int _)) (ja_nil)))))))))))))), hm⟩, nargs_def⟩
theorem sc_is_link : FnScope N_is_link P_is_link (defScope s_is_link) := ⟨rfl, rfl, rfl, by decide +kernel, rfl, by decide +kernel, by decide +kernel⟩
set_option maxHeartbeats 0 in
theorem ok_is_link {k : Nat} {t_MOST_DELAY : Tok} (c_MOST_DELAY : mg "MOST_DELAY" = some (.int 4 t_MOST_DELAY)) (C_is_name : Cal P w K mg base k "is_name" s_is_name P_is_name m_is_name) (C_is_number : Cal P w K mg base k "is_number" s_is_number P_is_number m_is_number) (C_is_tuple_of : Cal P w K mg base k "is_tuple_of" s_is_tuple_of P_is_tuple_of m_is_tuple_of) {f : Addr} {fd : FuncData} (Fu : Fun K "is_link" "is_link" s_is_link f fd) (hm : mg "is_link" = some (.ref f)) : Cal P w K mg base (k + 1) "is_link" s_is_link P_is_link m_is_link :=
  ⟨⟨f, fd, _, _, Fu, Fu.binds (ps := P_is_link) (fun _ _ _ _ _ _ us hl => match us, hl with | [_, _], _ => rfl), ok_def (N := N_is_link) (ps := P_is_link) Fu sc_is_link (fun cdv A outer s H E gu hr => by
    have hu : (A.deeper (envOfC "is_link" (defScope s_is_link) s.heap.objs.size f cdv)).units + 64 < cLine := hr.units
    have nd := sc_is_link.nd
    exact jss_cons (js_if (jt_w (jw_or (jt_not (jt_val (je_callC gu hr C_is_tuple_of (ja_cons (je_var 0) (ja_cons (je_int) (ja_nil)))))) (jw_or (jt_not (jt_val (je_callC gu hr C_is_name (ja_cons (je_ix ix_seq ixI (je_var 0) (je_int)) (ja_nil))))) (jw_or (jt_not (jt_val (je_callC gu hr C_is_name (ja_cons (je_ix ix_seq ixI (je_var 0) (je_int)) (ja_nil))))) (jw_or1 (jt_not (jt_val (je_callC gu hr C_is_number (ja_cons (je_ix ix_seq ixI (je_var 0) (je_int)) (ja_nil)))))))))) (jss_one (js_ret (je_bl))) (jss_nil)) (jss_one (js_ret (je_and (je_cmp op_inAll inI (je_ix ix_seq ixI (je_var 0) (je_int)) (je_var 1)) (je_and (je_cmp op_inAll inI (je_ix ix_seq ixI (je_var 0) (je_int)) (je_var 1)) (je_and (je_cmp (op_neP hu) neI (je_ix ix_seq ixI (je_var 0) (je_int)) (je_ix ix_seq ixI (je_var 0) (je_int))) (je_one (je_chain op_le leI op_le leI (je_int) (je_ix ix_seq ixI (je_var 0) (je_int)) ((je_gl (v := .int 4) (by rfl) c_MOST_DELAY ⟨_, rfl⟩ fun _ => .int _)))))))))), hm⟩, nargs_def⟩
theorem sc_house_names : FnScope N_house_names P_house_names (defScope s_house_names) := ⟨rfl, rfl, rfl, by decide +kernel, rfl, by decide +kernel, by decide +kernel⟩
set_option maxHeartbeats 0 in
theorem ok_house_names {k : Nat} {t_HOUSES : Tok} (c_HOUSES : mg "HOUSES" = some (.int 0 t_HOUSES)) {t_NAME : Tok} (c_NAME : mg "NAME" = some (.int 0 t_NAME)) {f : Addr} {fd : FuncData} (Fu : Fun K "house_names" "house_names" s_house_names f fd) (hm : mg "house_names" = some (.ref f)) : Cal P w K mg base (k + 1) "house_names" s_house_names P_house_names m_house_names :=
  ⟨⟨f, fd, _, _, Fu, Fu.binds (ps := P_house_names) (fun _ _ _ _ _ _ us hl => match us, hl with | [_], _ => rfl), ok_def (N := N_house_names) (ps := P_house_names) Fu sc_house_names (fun cdv A outer s H E gu hr => by
    have hu : (A.deeper (envOfC "house_names" (defScope s_house_names) s.heap.objs.size f cdv)).units + 64 < cLine := hr.units
    have nd := sc_house_names.nd
    exact jss_one (js_ret (je_lc (own := [("house", 1)]) rfl nd (ji_any (je_ix ix_seq ixI (je_var 0) ((je_gl (v := .int 0) (by rfl) c_HOUSES ⟨_, rfl⟩ fun _ => .int _)))) (blkOk_by (N := N_house_names) (sc := defScope s_house_names) (by decide +kernel)) (fun _ _ _ _ _ => jg_name nd rfl (by first | exact Or.inl rfl | exact Or.inr rfl)) (fun _ _ _ _ _ => jts_nil) (fun _ _ _ _ _ => je_ix ix_seq ixI (je_var 1) ((je_gl (v := .int 0) (by rfl) c_NAME ⟨_, rfl⟩ fun _ => .int _)))))), hm⟩, nargs_def⟩
theorem sc_is_plan : FnScope N_is_plan P_is_plan (defScope s_is_plan) := ⟨rfl, rfl, rfl, by decide +kernel, rfl, by decide +kernel, by decide +kernel⟩
set_option maxHeartbeats 0 in
theorem ok_is_plan {k : Nat} (z_all : mg "all" = none) (z_sorted : mg "sorted" = none) (z_tuple : mg "tuple" = none) {t_HOUSES : Tok} (c_HOUSES : mg "HOUSES" = some (.int 0 t_HOUSES)) {t_LINKS : Tok} (c_LINKS : mg "LINKS" = some (.int 1 t_LINKS)) {t_MOST_HOUSES : Tok} (c_MOST_HOUSES : mg "MOST_HOUSES" = some (.int 5 t_MOST_HOUSES)) {t_MOST_LINKS : Tok} (c_MOST_LINKS : mg "MOST_LINKS" = some (.int 8 t_MOST_LINKS)) (C_are_unlike : Cal P w K mg base k "are_unlike" s_are_unlike P_are_unlike m_are_unlike) (C_house_names : Cal P w K mg base k "house_names" s_house_names P_house_names m_house_names) (C_is_house : Cal P w K mg base k "is_house" s_is_house P_is_house m_is_house) (C_is_link : Cal P w K mg base k "is_link" s_is_link P_is_link m_is_link) (C_is_short : Cal P w K mg base k "is_short" s_is_short P_is_short m_is_short) (C_is_tuple_of : Cal P w K mg base k "is_tuple_of" s_is_tuple_of P_is_tuple_of m_is_tuple_of) {f : Addr} {fd : FuncData} (Fu : Fun K "is_plan" "is_plan" s_is_plan f fd) (hm : mg "is_plan" = some (.ref f)) : Cal P w K mg base (k + 1) "is_plan" s_is_plan P_is_plan m_is_plan :=
  ⟨⟨f, fd, _, _, Fu, Fu.binds (ps := P_is_plan) (fun _ _ _ _ _ _ us hl => match us, hl with | [_], _ => rfl), ok_def (N := N_is_plan) (ps := P_is_plan) Fu sc_is_plan (fun cdv A outer s H E gu hr => by
    have hu : (A.deeper (envOfC "is_plan" (defScope s_is_plan) s.heap.objs.size f cdv)).units + 64 < cLine := hr.units
    have nd := sc_is_plan.nd
    exact jss_cons (js_if (jt_w (jw_or (jt_not (jt_val (je_callC gu hr C_is_tuple_of (ja_cons (je_var 0) (ja_cons (je_int) (ja_nil)))))) (jw_or1 (jt_not (jt_val (je_callC gu hr C_is_short (ja_cons (je_ix ix_seq ixI (je_var 0) ((je_gl (v := .int 0) (by rfl) c_HOUSES ⟨_, rfl⟩ fun _ => .int _))) (ja_cons (je_int) (ja_cons ((je_gl (v := .int 5) (by rfl) c_MOST_HOUSES ⟨_, rfl⟩ fun _ => .int _)) (ja_nil)))))))))) (jss_one (js_ret (je_bl))) (jss_nil)) (jss_cons (js_if (jt_not (jt_val (je_callB (cr_all rfl) allI (by rfl) z_all (by decide +kernel) (ja_cons (je_lc (own := [("house", 3)]) rfl nd (ji_any (je_ix ix_seq ixI (je_var 0) ((je_gl (v := .int 0) (by rfl) c_HOUSES ⟨_, rfl⟩ fun _ => .int _)))) (blkOk_by (N := N_is_plan) (sc := defScope s_is_plan) (by decide +kernel)) (fun _ _ _ _ _ => jg_name nd rfl (by first | exact Or.inl rfl | exact Or.inr rfl)) (fun _ _ _ _ _ => jts_nil) (fun _ _ _ _ _ => je_callC gu hr C_is_house (ja_cons (je_var 3) (ja_nil)))) (ja_nil))))) (jss_one (js_ret (je_bl))) (jss_nil)) (jss_cons (js_set nd rfl (by first | exact Or.inl rfl | exact Or.inr rfl) (je_callC gu hr C_house_names (ja_cons (je_var 0) (ja_nil)))) (jss_cons (js_if (jt_w (jw_or (jt_not (jt_val (je_callC gu hr C_are_unlike (ja_cons (je_var 1) (ja_nil))))) (jw_or1 (jt_not (jt_val (je_callC gu hr C_is_short (ja_cons (je_ix ix_seq ixI (je_var 0) ((je_gl (v := .int 1) (by rfl) c_LINKS ⟨_, rfl⟩ fun _ => .int _))) (ja_cons (je_int) (ja_cons ((je_gl (v := .int 8) (by rfl) c_MOST_LINKS ⟨_, rfl⟩ fun _ => .int _)) (ja_nil)))))))))) (jss_one (js_ret (je_bl))) (jss_nil)) (jss_cons (js_if (jt_not (jt_val (je_callB (cr_all rfl) allI (by rfl) z_all (by decide +kernel) (ja_cons (je_lc (own := [("link", 2)]) rfl nd (ji_any (je_ix ix_seq ixI (je_var 0) ((je_gl (v := .int 1) (by rfl) c_LINKS ⟨_, rfl⟩ fun _ => .int _)))) (blkOk_by (N := N_is_plan) (sc := defScope s_is_plan) (by decide +kernel)) (fun _ _ _ _ _ => jg_name nd rfl (by first | exact Or.inl rfl | exact Or.inr rfl)) (fun _ _ _ _ _ => jts_nil) (fun _ _ _ _ _ => je_callC gu hr C_is_link (ja_cons (je_var 2) (ja_cons (je_var 1) (ja_nil))))) (ja_nil))))) (jss_one (js_ret (je_bl))) (jss_nil)) (jss_one (js_ret (je_callC gu hr C_are_unlike (ja_cons (je_lc (own := [("link", 2)]) rfl nd (ji_any (je_ix ix_seq ixI (je_var 0) ((je_gl (v := .int 1) (by rfl) c_LINKS ⟨_, rfl⟩ fun _ => .int _)))) (blkOk_by (N := N_is_plan) (sc := defScope s_is_plan) (by decide +kernel)) (fun _ _ _ _ _ => jg_name nd rfl (by first | exact Or.inl rfl | exact Or.inr rfl)) (fun _ _ _ _ _ => jts_nil) (fun _ _ _ _ _ => je_callTy call_tuple_of tupleI (by rfl) z_tuple (by decide +kernel) (ja_cons (je_callB (cr_sortTx hu) sortTxI (by rfl) z_sorted (by decide +kernel) (ja_cons (je_sl (je_var 2) (jo_none) (jo_some (je_int))) (ja_nil))) (ja_nil)))) (ja_nil)))))))))), hm⟩, nargs_def⟩
theorem sc__law_begin : FnScope N__law_begin P__law_begin (defScope s__law_begin) := ⟨rfl, rfl, rfl, by decide +kernel, rfl, by decide +kernel, by decide +kernel⟩
set_option maxHeartbeats 0 in
theorem ok__law_begin {k : Nat} (z_list : mg "list" = none) {f : Addr} {fd : FuncData} (Fu : Fun K "_law_begin" "_law_begin" s__law_begin f fd) (hm : mg "_law_begin" = some (.ref f)) : Cal P w K mg base (k + 1) "_law_begin" s__law_begin P__law_begin m__law_begin :=
  ⟨⟨f, fd, _, _, Fu, Fu.binds (ps := P__law_begin) (fun _ _ _ _ _ _ us hl => match us, hl with | [_], _ => rfl), ok_defK (N := N__law_begin) (ps := P__law_begin) Fu sc__law_begin (fun cdv A outer s H E gu hr => by
    have hu : (A.deeper (envOfC "_law_begin" (defScope s__law_begin) s.heap.objs.size f cdv)).units + 64 < cLine := hr.units
    have nd := sc__law_begin.nd
    exact jss_cons (js_setC nd rfl (by first | exact Or.inl rfl | exact Or.inr rfl) (je_callTy call_list_of listI (by rfl) z_list (by decide +kernel) (ja_cons (je_sl (je_var 0) (jo_none) (jo_some (je_int))) (ja_nil)))) (jss_cons (js_if (jt_cmp (op_eqP hu) eqI (je_var 1) (je_lst (ja_nil))) (jss_one (js_setC nd rfl (by first | exact Or.inl rfl | exact Or.inr rfl) (je_lst (ja_cons (je_int) (ja_nil))))) (jss_nil)) (jss_one (js_ret (je_dispC (jp_cons (k := .inr "cells") pe_str (je_var 1) (jp_cons (k := .inr "turn") pe_str (je_int) (jp_nil)))))))), hm⟩, nargs_defK⟩
theorem sc__law_take : FnScope N__law_take P__law_take (defScope s__law_take) := ⟨rfl, rfl, rfl, by decide +kernel, rfl, by decide +kernel, by decide +kernel⟩
set_option maxHeartbeats 0 in
theorem ok__law_take {k : Nat} (z_divmod : mg "divmod" = none) (z_len : mg "len" = none) {f : Addr} {fd : FuncData} (Fu : Fun K "_law_take" "_law_take" s__law_take f fd) (hm : mg "_law_take" = some (.ref f)) : Cal P w K mg base (k + 1) "_law_take" s__law_take P__law_take m__law_take :=
  ⟨⟨f, fd, _, _, Fu, Fu.binds (ps := P__law_take) (fun _ _ _ _ _ _ us hl => match us, hl with | [_, _], _ => rfl), ok_def (N := N__law_take) (ps := P__law_take) Fu sc__law_take (fun cdv A outer s H E gu hr => by
    have hu : (A.deeper (envOfC "_law_take" (defScope s__law_take) s.heap.objs.size f cdv)).units + 64 < cLine := hr.units
    have nd := sc__law_take.nd
    exact jss_cons (js_set nd rfl (by first | exact Or.inl rfl | exact Or.inr rfl) (je_bin op_addB addBI (je_cget hu (je_var 0) (je_str) (by exact fun _ _ => rfl)) (je_int))) (jss_cons (js_cput hu (je_var 0) (je_str) (je_var 2)) (jss_cons (js_set nd rfl (by first | exact Or.inl rfl | exact Or.inr rfl) (je_bin op_mod modI (je_var 2) (je_callB call_len lenI (by rfl) z_len (by decide +kernel) (ja_cons (je_cget hu (je_var 0) (je_str) (by exact fun _ _ => rfl)) (ja_nil))))) (jss_cons (js_set nd rfl (by first | exact Or.inl rfl | exact Or.inr rfl) (je_ix ix_seq ixI (je_cget hu (je_var 0) (je_str) (by exact fun _ _ => rfl)) (je_var 3))) (jss_cons (js_if (jt_cmp op_ge geI (je_var 4) (je_bin op_pow powI (je_int) (je_int))) (jss_cons (js_asg (je_callB call_divmod divmodI (by rfl) z_divmod (by decide +kernel) (ja_cons (je_var 4) (ja_cons (je_var 1) (ja_nil)))) (jg_tup rfl (jgs_cons (jg_sub (je_cget hu (je_var 0) (je_str) (by exact fun _ _ => rfl)) (je_var 3)) (jgs_cons (jg_name nd rfl (by first | exact Or.inl rfl | exact Or.inr rfl)) (jgs_nil))))) (jss_one (js_ret (je_var 5)))) (jss_nil)) (jss_cons (js_set nd rfl (by first | exact Or.inl rfl | exact Or.inr rfl) (je_bin op_addB addBI (je_bin op_mod modI (je_var 4) (je_int)) (je_bin op_mulAll mulI (je_bin op_mod modI (je_bin op_fdivW fdivI (je_var 4) (je_int)) (je_int)) (je_int)))) (jss_cons (js_set nd rfl (by first | exact Or.inl rfl | exact Or.inr rfl) (je_bin op_mod modI (je_bin op_mulAll mulI (je_bin op_addB addBI (je_bin op_addB addBI (je_var 6) (je_bin op_mulAll mulI (je_bin op_mulAll mulI (je_var 2) (je_var 2)) (je_int))) (je_int)) (je_int)) (je_int))) (jss_cons (js_set nd rfl (by first | exact Or.inl rfl | exact Or.inr rfl) (je_bin op_mod modI (je_bin op_mulAll mulI (je_var 7) (je_var 7)) (je_int))) (jss_one (js_ret (je_bin op_mod modI (je_bin op_fdivW fdivI (je_bin op_mod modI (je_bin op_mulAll mulI (je_bin op_addB addBI (je_var 7) (je_bin op_mulAll mulI (je_var 2) (je_int))) (je_int)) (je_int)) (je_int)) (je_var 1)))))))))))), hm⟩, nargs_def⟩
theorem sc__law_names : FnScope N__law_names P__law_names (defScope s__law_names) := ⟨rfl, rfl, rfl, by decide +kernel, rfl, by decide +kernel, by decide +kernel⟩
set_option maxHeartbeats 0 in
theorem ok__law_names {k : Nat} (z_len : mg "len" = none) (z_range : mg "range" = none) (C__law_take : Cal P w K mg base k "_law_take" s__law_take P__law_take m__law_take) {f : Addr} {fd : FuncData} (Fu : Fun K "_law_names" "_law_names" s__law_names f fd) (hm : mg "_law_names" = some (.ref f)) : Cal P w K mg base (k + 1) "_law_names" s__law_names P__law_names m__law_names :=
  ⟨⟨f, fd, _, _, Fu, Fu.binds (ps := P__law_names) (fun _ _ _ _ _ _ us hl => match us, hl with | [_, _], _ => rfl), ok_def (N := N__law_names) (ps := P__law_names) Fu sc__law_names (fun cdv A outer s H E gu hr => by
    have hu : (A.deeper (envOfC "_law_names" (defScope s__law_names) s.heap.objs.size f cdv)).units + 64 < cLine := hr.units
    have nd := sc__law_names.nd
    exact jss_cons (js_asg (je_tup (ja_cons (je_str) (ja_cons (je_callC gu hr C__law_take (ja_cons (je_var 0) (ja_cons (je_int) (ja_nil)))) (ja_cons (je_callC gu hr C__law_take (ja_cons (je_var 0) (ja_cons (je_int) (ja_nil)))) (ja_nil))))) (jg_tup rfl (jgs_cons (jg_name nd rfl (by first | exact Or.inl rfl | exact Or.inr rfl)) (jgs_cons (jg_name nd rfl (by first | exact Or.inl rfl | exact Or.inr rfl)) (jgs_cons (jg_name nd rfl (by first | exact Or.inl rfl | exact Or.inr rfl)) (jgs_nil)))))) (jss_cons (js_set nd rfl (by first | exact Or.inl rfl | exact Or.inr rfl) (je_ms PySem.F.slot_str_join PySem.F.type_str_join mt_join joinI (je_str) (ja_cons (je_lc (own := [("_law_turn", 11)]) rfl nd (ji_rng1 (by rfl) z_range (ja_cons (je_callC gu hr C__law_take (ja_cons (je_var 0) (ja_cons (je_int) (ja_nil)))) (ja_nil))) (blkOk_by (N := N__law_names) (sc := defScope s__law_names) (by decide +kernel)) (fun _ _ _ _ _ => jg_name nd rfl (by first | exact Or.inl rfl | exact Or.inr rfl)) (fun _ _ _ _ _ => jts_nil) (fun _ _ _ _ _ => je_ix ix_seq ixI (je_var 2) (je_callC gu hr C__law_take (ja_cons (je_var 0) (ja_cons (je_int) (ja_nil)))))) (ja_nil)))) (jss_cons (js_set nd rfl (by first | exact Or.inl rfl | exact Or.inr rfl) (je_lst (ja_cons (je_str) (ja_cons (je_str) (ja_cons (je_str) (ja_cons (je_str) (ja_cons (je_str) (ja_cons (je_str) (ja_cons (je_str) (ja_cons (je_str) (ja_cons (je_str) (ja_cons (je_str) (ja_cons (je_str) (ja_cons (je_str) (ja_nil))))))))))))))) (jss_cons (js_if (jt_cmp (op_eqP hu) eqI (je_var 4) (je_int)) (jss_one (js_ret (je_sl (je_bin op_addB addBI (je_sl (je_var 6) (jo_some (je_bin op_mod modI (je_var 3) (je_int))) (jo_none)) (je_sl (je_var 6) (jo_none) (jo_some (je_bin op_mod modI (je_var 3) (je_int))))) (jo_none) (jo_some (je_var 1))))) (jss_nil)) (jss_cons (js_set nd rfl (by first | exact Or.inl rfl | exact Or.inr rfl) (je_ix ix_seq ixI (je_lst (ja_cons (je_int) (ja_cons (je_callB call_len lenI (by rfl) z_len (by decide +kernel) (ja_cons (je_var 5) (ja_nil))) (ja_cons (je_callC gu hr C__law_take (ja_cons (je_var 0) (ja_cons (je_bin op_addB addBI (je_callB call_len lenI (by rfl) z_len (by decide +kernel) (ja_cons (je_var 5) (ja_nil))) (je_int)) (ja_nil)))) (ja_nil))))) (je_bin op_subB subBI (je_var 4) (je_int)))) (jss_cons (js_setC nd rfl (by first | exact Or.inl rfl | exact Or.inr rfl) (je_lst (ja_nil))) (jss_cons (js_for PassesOwn.never rfl (ji_rng1 (by rfl) z_range (ja_cons (je_var 1) (ja_nil))) (jg_name nd rfl (by first | exact Or.inl rfl | exact Or.inr rfl)) (jss_cons (js_set nd rfl (by first | exact Or.inl rfl | exact Or.inr rfl) (je_bin op_addB addBI (je_bin op_addB addBI (je_sl (je_var 5) (jo_none) (jo_some (je_var 7))) (je_ix ix_seq ixI (je_var 2) (je_bin op_mod modI (je_bin op_addB addBI (je_var 3) (je_bin op_mulAll mulI (je_int) (je_var 9))) (je_int)))) (je_sl (je_var 5) (jo_some (je_var 7)) (jo_none)))) (jss_one (js_expr (je_cm PySem.F.slot_list_append PySem.F.type_list_append mt_append appI (je_var 8) (ja_cons (je_bin op_addB addBI (je_var 10) (je_bin op_mulAll mulI (je_str) (je_bin op_mod modI (je_var 9) (je_int)))) (ja_nil))))))) (jss_one (js_ret (je_var 8)))))))))), hm⟩, nargs_def⟩
theorem sc__law_with : FnScope N__law_with P__law_with (defScope s__law_with) := ⟨rfl, rfl, rfl, by decide +kernel, rfl, by decide +kernel, by decide +kernel⟩
set_option maxHeartbeats 0 in
theorem ok__law_with {k : Nat} (C_is_plan : Cal P w K mg base k "is_plan" s_is_plan P_is_plan m_is_plan) {f : Addr} {fd : FuncData} (Fu : Fun K "_law_with" "_law_with" s__law_with f fd) (hm : mg "_law_with" = some (.ref f)) : Cal P w K mg base (k + 1) "_law_with" s__law_with P__law_with m__law_with :=
  ⟨⟨f, fd, _, _, Fu, Fu.binds (ps := P__law_with) (fun _ _ _ _ _ _ us hl => match us, hl with | [_, _], _ => rfl), ok_def (N := N__law_with) (ps := P__law_with) Fu sc__law_with (fun cdv A outer s H E gu hr => by
    have hu : (A.deeper (envOfC "_law_with" (defScope s__law_with) s.heap.objs.size f cdv)).units + 64 < cLine := hr.units
    have nd := sc__law_with.nd
    exact jss_cons (js_set nd rfl (by first | exact Or.inl rfl | exact Or.inr rfl) (je_dispC (jp_cons (k := .inr "name") pe_str (je_ix ix_seq ixI (je_var 0) (je_int)) (jp_cons (k := .inr "folk") pe_str (je_tup (ja_cons (je_ix ix_seq ixI (je_var 0) (je_int)) (ja_nil))) (jp_cons (k := .inr "lists") pe_str (je_tup (ja_nil)) (jp_cons (k := .inr "ways") pe_str (je_tup (ja_cons (je_str) (ja_nil))) (jp_cons (k := .inr "most") pe_str (je_int) (jp_cons (k := .inr "more") pe_str (je_tup (ja_nil)) (jp_cons (k := .inr "links") pe_str (je_tup (ja_nil)) (jp_nil)))))))))) (jss_cons (js_expr (je_upd (je_var 2) (ja_cons (je_var 1) (ja_nil)))) (jss_cons (js_set nd rfl (by first | exact Or.inl rfl | exact Or.inr rfl) (je_tup (ja_cons (je_cget hu (je_var 2) (je_str) (by exact fun _ _ => rfl)) (ja_cons (je_cget hu (je_var 2) (je_str) (by exact fun _ _ => rfl)) (ja_cons (je_cget hu (je_var 2) (je_str) (by exact fun _ _ => rfl)) (ja_cons (je_cget hu (je_var 2) (je_str) (by exact fun _ _ => rfl)) (ja_cons (je_cget hu (je_var 2) (je_str) (by exact fun _ _ => rfl)) (ja_nil)))))))) (jss_one (js_ret (je_callC gu hr C_is_plan (ja_cons (je_tup (ja_cons (je_bin op_addB addBI (je_tup (ja_cons (je_var 3) (ja_nil))) (je_cget hu (je_var 2) (je_str) (by exact fun _ _ => rfl))) (ja_cons (je_cget hu (je_var 2) (je_str) (by exact fun _ _ => rfl)) (ja_nil)))) (ja_nil)))))))), hm⟩, nargs_def⟩
theorem sc__law_house : FnScope N__law_house P__law_house (defScope s__law_house) := ⟨rfl, rfl, rfl, by decide +kernel, rfl, by decide +kernel, by decide +kernel⟩
set_option maxHeartbeats 0 in
theorem ok__law_house {k : Nat} {f : Addr} {fd : FuncData} (Fu : Fun K "_law_house" "_law_house" s__law_house f fd) (hm : mg "_law_house" = some (.ref f)) : Cal P w K mg base (k + 1) "_law_house" s__law_house P__law_house m__law_house :=
  ⟨⟨f, fd, _, _, Fu, Fu.binds (ps := P__law_house) (fun _ _ _ _ _ _ us hl => match us, hl with | [_], _ => rfl), ok_def (N := N__law_house) (ps := P__law_house) Fu sc__law_house (fun cdv A outer s H E gu hr => by
    have hu : (A.deeper (envOfC "_law_house" (defScope s__law_house) s.heap.objs.size f cdv)).units + 64 < cLine := hr.units
    have nd := sc__law_house.nd
    exact jss_one (js_ret (je_tup (ja_cons (je_var 0) (ja_cons (je_tup (ja_cons (je_str) (ja_nil))) (ja_cons (je_tup (ja_nil)) (ja_cons (je_tup (ja_cons (je_str) (ja_nil))) (ja_cons (je_int) (ja_nil))))))))), hm⟩, nargs_def⟩
theorem sc__law_sizes_right : FnScope N__law_sizes_right P__law_sizes_right (defScope s__law_sizes_right) := ⟨rfl, rfl, rfl, by decide +kernel, rfl, by decide +kernel, by decide +kernel⟩
set_option maxHeartbeats 0 in
theorem ok__law_sizes_right {k : Nat} (z_range : mg "range" = none) (z_tuple : mg "tuple" = none) (C__law_house : Cal P w K mg base k "_law_house" s__law_house P__law_house m__law_house) (C__law_with : Cal P w K mg base k "_law_with" s__law_with P__law_with m__law_with) {f : Addr} {fd : FuncData} (Fu : Fun K "_law_sizes_right" "_law_sizes_right" s__law_sizes_right f fd) (hm : mg "_law_sizes_right" = some (.ref f)) : Cal P w K mg base (k + 1) "_law_sizes_right" s__law_sizes_right P__law_sizes_right m__law_sizes_right :=
  ⟨⟨f, fd, _, _, Fu, Fu.binds (ps := P__law_sizes_right) (fun _ _ _ _ _ _ us hl => match us, hl with | [_], _ => rfl), ok_def (N := N__law_sizes_right) (ps := P__law_sizes_right) Fu sc__law_sizes_right (fun cdv A outer s H E gu hr => by
    have hu : (A.deeper (envOfC "_law_sizes_right" (defScope s__law_sizes_right) s.heap.objs.size f cdv)).units + 64 < cLine := hr.units
    have nd := sc__law_sizes_right.nd
    exact jss_cons (js_par (f1 := true) (f2 := true) rfl nd rfl rfl (by decide) rfl rfl (je_lst (ja_nil)) (je_lst (ja_nil)) (by rfl)) (jss_cons (js_for PassesOwn.never rfl (ji_rng1 (by rfl) z_range (ja_cons (je_int) (ja_nil))) (jg_name nd rfl (by first | exact Or.inl rfl | exact Or.inr rfl)) (jss_cons (js_par (f1 := false) (f2 := false) rfl nd rfl rfl (by decide) rfl rfl (je_callTy call_tuple_of tupleI (by rfl) z_tuple (by decide +kernel) (ja_cons (je_sl (je_var 0) (jo_some (je_int)) (jo_some (je_bin op_addB addBI (je_int) (je_var 3)))) (ja_nil))) (je_callTy call_tuple_of tupleI (by rfl) z_tuple (by decide +kernel) (ja_cons (je_lc (own := [("_law_name", 10)]) rfl nd (ji_any (je_sl (je_var 0) (jo_some (je_int)) (jo_some (je_bin op_addB addBI (je_int) (je_var 3))))) (blkOk_by (N := N__law_sizes_right) (sc := defScope s__law_sizes_right) (by decide +kernel)) (fun _ _ _ _ _ => jg_name nd rfl (by first | exact Or.inl rfl | exact Or.inr rfl)) (fun _ _ _ _ _ => jts_nil) (fun _ _ _ _ _ => je_tup (ja_cons (je_var 10) (ja_cons (je_tup (ja_cons (je_tup (ja_cons (je_ix ix_seq ixI (je_var 0) (je_int)) (ja_cons (je_ix ix_seq ixI (je_var 0) (je_int)) (ja_nil)))) (ja_nil))) (ja_nil))))) (ja_nil))) (by rfl)) (jss_cons (js_set nd rfl (by first | exact Or.inl rfl | exact Or.inr rfl) (je_callTy call_tuple_of tupleI (by rfl) z_tuple (by decide +kernel) (ja_cons (je_lc (own := [("_law_name", 10)]) rfl nd (ji_any (je_sl (je_var 0) (jo_some (je_int)) (jo_some (je_bin op_addB addBI (je_int) (je_var 3))))) (blkOk_by (N := N__law_sizes_right) (sc := defScope s__law_sizes_right) (by decide +kernel)) (fun _ _ _ _ _ => jg_name nd rfl (by first | exact Or.inl rfl | exact Or.inr rfl)) (fun _ _ _ _ _ => jts_nil) (fun _ _ _ _ _ => je_tup (ja_cons (je_var 10) (ja_cons (je_ix ix_seq ixI (je_var 0) (je_int)) (ja_nil))))) (ja_nil)))) (jss_cons (js_set nd rfl (by first | exact Or.inl rfl | exact Or.inr rfl) (je_callTy call_tuple_of tupleI (by rfl) z_tuple (by decide +kernel) (ja_cons (je_lc (own := [("_law_name", 10)]) rfl nd (ji_any (je_sl (je_var 0) (jo_some (je_int)) (jo_some (je_bin op_addB addBI (je_int) (je_var 3))))) (blkOk_by (N := N__law_sizes_right) (sc := defScope s__law_sizes_right) (by decide +kernel)) (fun _ _ _ _ _ => jg_name nd rfl (by first | exact Or.inl rfl | exact Or.inr rfl)) (fun _ _ _ _ _ => jts_nil) (fun _ _ _ _ _ => je_callC gu hr C__law_house (ja_cons (je_var 10) (ja_nil)))) (ja_nil)))) (jss_cons (js_setC nd rfl (by first | exact Or.inl rfl | exact Or.inr rfl) (je_bin op_addB addBI (je_var 1) (je_lst (ja_cons (je_callC gu hr C__law_with (ja_cons (je_var 0) (ja_cons (je_disp (jp_cons (k := .inr "folk") pe_str (je_var 4) (jp_nil))) (ja_nil)))) (ja_cons (je_callC gu hr C__law_with (ja_cons (je_var 0) (ja_cons (je_disp (jp_cons (k := .inr "lists") pe_str (je_var 5) (jp_nil))) (ja_nil)))) (ja_nil)))))) (jss_cons (js_setC nd rfl (by first | exact Or.inl rfl | exact Or.inr rfl) (je_bin op_addB addBI (je_var 1) (je_lst (ja_cons (je_callC gu hr C__law_with (ja_cons (je_var 0) (ja_cons (je_disp (jp_cons (k := .inr "lists") pe_str (je_tup (ja_cons (je_tup (ja_cons (je_ix ix_seq ixI (je_var 0) (je_int)) (ja_cons (je_var 6) (ja_nil)))) (ja_nil))) (jp_nil))) (ja_nil)))) (ja_cons (je_callC gu hr C__law_with (ja_cons (je_var 0) (ja_cons (je_disp (jp_cons (k := .inr "more") pe_str (je_var 7) (jp_nil))) (ja_nil)))) (ja_nil)))))) (jss_one (js_setC nd rfl (by first | exact Or.inl rfl | exact Or.inr rfl) (je_bin op_addB addBI (je_var 2) (je_lst (ja_cons (je_chain op_lt ltI op_lt ltI (je_int) (je_var 3) (je_int)) (ja_cons (je_cmp op_lt ltI (je_var 3) (je_int)) (ja_cons (je_chain op_lt ltI op_lt ltI (je_int) (je_var 3) (je_int)) (ja_cons (je_cmp op_lt ltI (je_var 3) (je_int)) (ja_nil))))))))))))))) (jss_cons (js_par (f1 := false) (f2 := false) rfl nd rfl rfl (by decide) rfl rfl (je_callTy call_tuple_of tupleI (by rfl) z_tuple (by decide +kernel) (ja_cons (je_lc (own := [("_law_name", 10)]) rfl nd (ji_any (je_sl (je_var 0) (jo_some (je_int)) (jo_some (je_int)))) (blkOk_by (N := N__law_sizes_right) (sc := defScope s__law_sizes_right) (by decide +kernel)) (fun _ _ _ _ _ => jg_name nd rfl (by first | exact Or.inl rfl | exact Or.inr rfl)) (fun _ _ _ _ _ => jts_nil) (fun _ _ _ _ _ => je_callC gu hr C__law_house (ja_cons (je_var 10) (ja_nil)))) (ja_nil))) (je_lst (ja_nil)) (by rfl)) (jss_cons (js_for PassesOwn.never rfl (ji_rng1 (by rfl) z_range (ja_cons (je_int) (ja_nil))) (jg_name nd rfl (by first | exact Or.inl rfl | exact Or.inr rfl)) (jss_one (js_set nd rfl (by first | exact Or.inl rfl | exact Or.inr rfl) (je_bin op_addB addBI (je_var 8) (je_lc (own := [("_law_one", 11)]) rfl nd (ji_any (je_sl (je_var 0) (jo_some (je_bin op_addB addBI (je_var 9) (je_int))) (jo_some (je_int)))) (blkOk_by (N := N__law_sizes_right) (sc := defScope s__law_sizes_right) (by decide +kernel)) (fun _ _ _ _ _ => jg_name nd rfl (by first | exact Or.inl rfl | exact Or.inr rfl)) (fun _ _ _ _ _ => jts_nil) (fun _ _ _ _ _ => je_tup (ja_cons (je_var 11) (ja_cons (je_ix ix_seq ixI (je_var 0) (je_var 9)) (ja_cons (je_int) (ja_nil)))))))))) (jss_cons (js_for PassesOwn.never rfl (ji_rng1 (by rfl) z_range (ja_cons (je_int) (ja_nil))) (jg_name nd rfl (by first | exact Or.inl rfl | exact Or.inr rfl)) (jss_cons (js_expr (je_cm PySem.F.slot_list_append PySem.F.type_list_append mt_append appI (je_var 1) (ja_cons (je_callC gu hr C__law_with (ja_cons (je_var 0) (ja_cons (je_disp (jp_cons (k := .inr "more") pe_str (je_var 7) (jp_cons (k := .inr "links") pe_str (je_callTy call_tuple_of tupleI (by rfl) z_tuple (by decide +kernel) (ja_cons (je_sl (je_var 8) (jo_none) (jo_some (je_var 3))) (ja_nil))) (jp_nil)))) (ja_nil)))) (ja_nil)))) (jss_one (js_expr (je_cm PySem.F.slot_list_append PySem.F.type_list_append mt_append appI (je_var 2) (ja_cons (je_cmp op_lt ltI (je_var 3) (je_int)) (ja_nil))))))) (jss_one (js_ret (je_cmp (op_eqP hu) eqI (je_var 1) (je_var 2))))))))), hm⟩, nargs_def⟩
theorem sc__law_numbers_right : FnScope N__law_numbers_right P__law_numbers_right (defScope s__law_numbers_right) := ⟨rfl, rfl, rfl, by decide +kernel, rfl, by decide +kernel, by decide +kernel⟩
set_option maxHeartbeats 0 in
theorem ok__law_numbers_right {k : Nat} (z_bool : mg "bool" = none) (z_isinstance : mg "isinstance" = none) (C__law_house : Cal P w K mg base k "_law_house" s__law_house P__law_house m__law_house) (C__law_with : Cal P w K mg base k "_law_with" s__law_with P__law_with m__law_with) {f : Addr} {fd : FuncData} (Fu : Fun K "_law_numbers_right" "_law_numbers_right" s__law_numbers_right f fd) (hm : mg "_law_numbers_right" = some (.ref f)) : Cal P w K mg base (k + 1) "_law_numbers_right" s__law_numbers_right P__law_numbers_right m__law_numbers_right :=
  ⟨⟨f, fd, _, _, Fu, Fu.binds (ps := P__law_numbers_right) (fun _ _ _ _ _ _ us hl => match us, hl with | [_], _ => rfl), ok_def (N := N__law_numbers_right) (ps := P__law_numbers_right) Fu sc__law_numbers_right (fun cdv A outer s H E gu hr => by
    have hu : (A.deeper (envOfC "_law_numbers_right" (defScope s__law_numbers_right) s.heap.objs.size f cdv)).units + 64 < cLine := hr.units
    have nd := sc__law_numbers_right.nd
    exact jss_cons (js_par3 rfl nd rfl rfl rfl (by decide) (by decide) (by decide) rfl rfl rfl (ja_consC (je_lst (ja_nil)) (ja_consC (je_lst (ja_nil)) (ja_cons (je_tup (ja_cons (je_callC gu hr C__law_house (ja_cons (je_ix ix_seq ixI (je_var 0) (je_int)) (ja_nil))) (ja_nil))) (ja_nil)))) (by rfl)) (jss_cons (js_for PassesOwn.never rfl (ji_any (je_tup (ja_cons (je_int) (ja_cons (je_int) (ja_cons (je_int) (ja_cons (je_int) (ja_cons (je_int) (ja_cons (je_un un_negB negBI (je_int)) (ja_cons (je_bl) (ja_cons (je_non) (ja_cons (je_str) (ja_nil)))))))))))) (jg_name nd rfl (by first | exact Or.inl rfl | exact Or.inr rfl)) (jss_cons (js_expr (je_cm PySem.F.slot_list_append PySem.F.type_list_append mt_append appI (je_var 1) (ja_cons (je_callC gu hr C__law_with (ja_cons (je_var 0) (ja_cons (je_disp (jp_cons (k := .inr "most") pe_str (je_var 4) (jp_nil))) (ja_nil)))) (ja_nil)))) (jss_one (js_expr (je_cm PySem.F.slot_list_append PySem.F.type_list_append mt_append appI (je_var 2) (ja_cons (je_cmp op_inAll inI (je_var 4) (je_tup (ja_cons (je_int) (ja_cons (je_int) (ja_nil))))) (ja_nil))))))) (jss_cons (js_for PassesOwn.never rfl (ji_any (je_tup (ja_cons (je_int) (ja_cons (je_int) (ja_cons (je_int) (ja_cons (je_int) (ja_cons (je_un un_negB negBI (je_int)) (ja_cons (je_bl) (ja_cons (je_non) (ja_cons (je_str) (ja_nil))))))))))) (jg_name nd rfl (by first | exact Or.inl rfl | exact Or.inr rfl)) (jss_cons (js_expr (je_cm PySem.F.slot_list_append PySem.F.type_list_append mt_append appI (je_var 1) (ja_cons (je_callC gu hr C__law_with (ja_cons (je_var 0) (ja_cons (je_disp (jp_cons (k := .inr "more") pe_str (je_var 3) (jp_cons (k := .inr "links") pe_str (je_tup (ja_cons (je_tup (ja_cons (je_ix ix_seq ixI (je_var 0) (je_int)) (ja_cons (je_ix ix_seq ixI (je_var 0) (je_int)) (ja_cons (je_var 4) (ja_nil))))) (ja_nil))) (jp_nil)))) (ja_nil)))) (ja_nil)))) (jss_one (js_expr (je_cm PySem.F.slot_list_append PySem.F.type_list_append mt_append appI (je_var 2) (ja_cons (je_and (je_cmp op_inAll inI (je_var 4) (je_tup (ja_cons (je_int) (ja_cons (je_int) (ja_nil))))) (je_one (je_not (je_isi (by rfl) z_isinstance (je_var 4) (pe_bltn (by rfl) z_bool (by decide +kernel) rfl) (by decide))))) (ja_nil))))))) (jss_cons (js_set nd rfl (by first | exact Or.inl rfl | exact Or.inr rfl) (je_lst (ja_cons (je_tup (ja_cons (je_str) (ja_nil))) (ja_cons (je_tup (ja_cons (je_str) (ja_nil))) (ja_cons (je_tup (ja_cons (je_str) (ja_cons (je_str) (ja_nil)))) (ja_cons (je_tup (ja_cons (je_str) (ja_cons (je_str) (ja_cons (je_str) (ja_nil))))) (ja_cons (je_tup (ja_cons (je_str) (ja_cons (je_str) (ja_nil)))) (ja_nil)))))))) (jss_cons (js_set nd rfl (by first | exact Or.inl rfl | exact Or.inr rfl) (je_lst (ja_cons (je_tup (ja_nil)) (ja_cons (je_tup (ja_cons (je_str) (ja_cons (je_str) (ja_nil)))) (ja_cons (je_tup (ja_cons (je_str) (ja_cons (je_str) (ja_nil)))) (ja_cons (je_tup (ja_cons (je_str) (ja_nil))) (ja_cons (je_lst (ja_cons (je_str) (ja_nil))) (ja_cons (je_str) (ja_cons (je_tup (ja_cons (je_non) (ja_nil))) (ja_cons (je_tup (ja_cons (je_str) (ja_cons (je_str) (ja_nil)))) (ja_nil))))))))))) (jss_cons (js_setC nd rfl (by first | exact Or.inl rfl | exact Or.inr rfl) (je_bin op_addB addBI (je_var 1) (je_lc (own := [("_law_one", 7)]) rfl nd (ji_any (je_bin op_addB addBI (je_var 5) (je_var 6))) (blkOk_by (N := N__law_numbers_right) (sc := defScope s__law_numbers_right) (by decide +kernel)) (fun _ _ _ _ _ => jg_name nd rfl (by first | exact Or.inl rfl | exact Or.inr rfl)) (fun _ _ _ _ _ => jts_nil) (fun _ _ _ _ _ => je_callC gu hr C__law_with (ja_cons (je_var 0) (ja_cons (je_disp (jp_cons (k := .inr "ways") pe_str (je_var 7) (jp_nil))) (ja_nil))))))) (jss_one (js_ret (je_cmp (op_eqP hu) eqI (je_var 1) (je_bin op_addB addBI (je_bin op_addB addBI (je_var 2) (je_bin op_mulAll mulI (je_lst (ja_cons (je_bl) (ja_nil))) (je_int))) (je_bin op_mulAll mulI (je_lst (ja_cons (je_bl) (ja_nil))) (je_int)))))))))))), hm⟩, nargs_def⟩
theorem sc__law_alike_right : FnScope N__law_alike_right P__law_alike_right (defScope s__law_alike_right) := ⟨rfl, rfl, rfl, by decide +kernel, rfl, by decide +kernel, by decide +kernel⟩
set_option maxHeartbeats 0 in
theorem ok__law_alike_right {k : Nat} (C__law_house : Cal P w K mg base k "_law_house" s__law_house P__law_house m__law_house) (C__law_with : Cal P w K mg base k "_law_with" s__law_with P__law_with m__law_with) {f : Addr} {fd : FuncData} (Fu : Fun K "_law_alike_right" "_law_alike_right" s__law_alike_right f fd) (hm : mg "_law_alike_right" = some (.ref f)) : Cal P w K mg base (k + 1) "_law_alike_right" s__law_alike_right P__law_alike_right m__law_alike_right :=
  ⟨⟨f, fd, _, _, Fu, Fu.binds (ps := P__law_alike_right) (fun _ _ _ _ _ _ us hl => match us, hl with | [_], _ => rfl), ok_def (N := N__law_alike_right) (ps := P__law_alike_right) Fu sc__law_alike_right (fun cdv A outer s H E gu hr => by
    have hu : (A.deeper (envOfC "_law_alike_right" (defScope s__law_alike_right) s.heap.objs.size f cdv)).units + 64 < cLine := hr.units
    have nd := sc__law_alike_right.nd
    exact jss_cons (js_par (f1 := false) (f2 := false) rfl nd rfl rfl (by decide) rfl rfl (je_tup (ja_cons (je_tup (ja_cons (je_ix ix_seq ixI (je_var 0) (je_int)) (ja_cons (je_ix ix_seq ixI (je_var 0) (je_int)) (ja_nil)))) (ja_nil))) (je_tup (ja_cons (je_callC gu hr C__law_house (ja_cons (je_ix ix_seq ixI (je_var 0) (je_int)) (ja_nil))) (ja_nil))) (by rfl)) (jss_cons (js_setC nd rfl (by first | exact Or.inl rfl | exact Or.inr rfl) (je_lst (ja_cons (je_disp (jp_cons (k := .inr "folk") pe_str (je_tup (ja_cons (je_ix ix_seq ixI (je_var 0) (je_int)) (ja_cons (je_ix ix_seq ixI (je_var 0) (je_int)) (ja_cons (je_ix ix_seq ixI (je_var 0) (je_int)) (ja_nil))))) (jp_nil))) (ja_cons (je_disp (jp_cons (k := .inr "folk") pe_str (je_tup (ja_cons (je_ix ix_seq ixI (je_var 0) (je_int)) (ja_cons (je_str) (ja_nil)))) (jp_nil))) (ja_cons (je_disp (jp_cons (k := .inr "lists") pe_str (je_tup (ja_cons (je_tup (ja_cons (je_ix ix_seq ixI (je_var 0) (je_int)) (ja_cons (je_var 1) (ja_nil)))) (ja_nil))) (jp_nil))) (ja_nil)))))) (jss_cons (js_setC nd rfl (by first | exact Or.inl rfl | exact Or.inr rfl) (je_bin op_addB addBI (je_var 3) (je_lst (ja_cons (je_disp (jp_cons (k := .inr "lists") pe_str (je_tup (ja_cons (je_tup (ja_cons (je_ix ix_seq ixI (je_var 0) (je_int)) (ja_cons (je_var 1) (ja_nil)))) (ja_cons (je_tup (ja_cons (je_ix ix_seq ixI (je_var 0) (je_int)) (ja_cons (je_var 1) (ja_nil)))) (ja_nil)))) (jp_nil))) (ja_cons (je_disp (jp_cons (k := .inr "lists") pe_str (je_tup (ja_cons (je_tup (ja_cons (je_str) (ja_cons (je_var 1) (ja_nil)))) (ja_nil))) (jp_nil))) (ja_nil)))))) (jss_cons (js_expr (je_cm PySem.F.slot_list_append PySem.F.type_list_append mt_append appI (je_var 3) (ja_cons (je_disp (jp_cons (k := .inr "lists") pe_str (je_tup (ja_cons (je_tup (ja_cons (je_ix ix_seq ixI (je_var 0) (je_int)) (ja_cons (je_bin op_mulAll mulI (je_var 1) (je_int)) (ja_nil)))) (ja_nil))) (jp_nil))) (ja_nil)))) (jss_cons (js_setC nd rfl (by first | exact Or.inl rfl | exact Or.inr rfl) (je_bin op_addB addBI (je_var 3) (je_lst (ja_cons (je_disp (jp_cons (k := .inr "more") pe_str (je_bin op_addB addBI (je_var 2) (je_var 2)) (jp_nil))) (ja_cons (je_disp (jp_cons (k := .inr "more") pe_str (je_tup (ja_cons (je_callC gu hr C__law_house (ja_cons (je_ix ix_seq ixI (je_var 0) (je_int)) (ja_nil))) (ja_nil))) (jp_nil))) (ja_cons (je_disp (jp_cons (k := .inr "more") pe_str (je_var 2) (jp_cons (k := .inr "links") pe_str (je_tup (ja_cons (je_tup (ja_cons (je_ix ix_seq ixI (je_var 0) (je_int)) (ja_cons (je_ix ix_seq ixI (je_var 0) (je_int)) (ja_cons (je_int) (ja_nil))))) (ja_nil))) (jp_nil)))) (ja_nil))))))) (jss_cons (js_set nd rfl (by first | exact Or.inl rfl | exact Or.inr rfl) (je_tup (ja_cons (je_tup (ja_cons (je_ix ix_seq ixI (je_var 0) (je_int)) (ja_cons (je_ix ix_seq ixI (je_var 0) (je_int)) (ja_cons (je_int) (ja_nil))))) (ja_cons (je_tup (ja_cons (je_ix ix_seq ixI (je_var 0) (je_int)) (ja_cons (je_ix ix_seq ixI (je_var 0) (je_int)) (ja_cons (je_int) (ja_nil))))) (ja_nil))))) (jss_cons (js_setC nd rfl (by first | exact Or.inl rfl | exact Or.inr rfl) (je_bin op_addB addBI (je_var 3) (je_lst (ja_cons (je_disp (jp_cons (k := .inr "more") pe_str (je_var 2) (jp_cons (k := .inr "links") pe_str (je_var 4) (jp_nil)))) (ja_cons (je_disp (jp_cons (k := .inr "more") pe_str (je_var 2) (jp_cons (k := .inr "links") pe_str (je_tup (ja_cons (je_tup (ja_cons (je_ix ix_seq ixI (je_var 0) (je_int)) (ja_cons (je_ix ix_seq ixI (je_var 0) (je_int)) (ja_cons (je_int) (ja_nil))))) (ja_nil))) (jp_nil)))) (ja_nil)))))) (jss_cons (js_setC nd rfl (by first | exact Or.inl rfl | exact Or.inr rfl) (je_bin op_addB addBI (je_var 3) (je_lst (ja_cons (je_disp (jp_cons (k := .inr "more") pe_str (je_var 2) (jp_cons (k := .inr "links") pe_str (je_bin op_mulAll mulI (je_sl (je_var 4) (jo_none) (jo_some (je_int))) (je_int)) (jp_nil)))) (ja_cons (je_disp (jp_cons (k := .inr "folk") pe_str (je_lst (ja_cons (je_ix ix_seq ixI (je_var 0) (je_int)) (ja_nil))) (jp_nil))) (ja_cons (je_disp (jp_cons (k := .inr "lists") pe_str (je_tup (ja_cons (je_tup (ja_cons (je_ix ix_seq ixI (je_var 0) (je_int)) (ja_cons (je_tup (ja_cons (je_tup (ja_cons (je_ix ix_seq ixI (je_var 0) (je_int)) (ja_nil))) (ja_nil))) (ja_nil)))) (ja_nil))) (jp_nil))) (ja_nil))))))) (jss_cons (js_set nd rfl (by first | exact Or.inl rfl | exact Or.inr rfl) (je_lst (ja_cons (je_disp (jp_cons (k := .inr "folk") pe_str (je_tup (ja_cons (je_ix ix_seq ixI (je_var 0) (je_int)) (ja_nil))) (jp_nil))) (ja_cons (je_disp (jp_cons (k := .inr "lists") pe_str (je_tup (ja_cons (je_tup (ja_cons (je_ix ix_seq ixI (je_var 0) (je_int)) (ja_cons (je_var 1) (ja_nil)))) (ja_nil))) (jp_nil))) (ja_cons (je_disp (jp_cons (k := .inr "more") pe_str (je_var 2) (jp_cons (k := .inr "folk") pe_str (je_tup (ja_cons (je_ix ix_seq ixI (je_var 0) (je_int)) (ja_cons (je_ix ix_seq ixI (je_var 0) (je_int)) (ja_nil)))) (jp_cons (k := .inr "links") pe_str (je_sl (je_var 4) (jo_some (je_int)) (jo_none)) (jp_nil))))) (ja_nil)))))) (jss_cons (js_set nd rfl (by first | exact Or.inl rfl | exact Or.inr rfl) (je_bin op_addB addBI (je_var 5) (je_lst (ja_cons (je_disp (jp_cons (k := .inr "name") pe_str (je_str) (jp_nil))) (ja_cons (je_disp (jp_cons (k := .inr "lists") pe_str (je_tup (ja_cons (je_tup (ja_cons (je_ix ix_seq ixI (je_var 0) (je_int)) (ja_cons (je_tup (ja_cons (je_tup (ja_cons (je_str) (ja_cons (je_ix ix_seq ixI (je_var 0) (je_int)) (ja_nil)))) (ja_cons (je_tup (ja_cons (je_ix ix_seq ixI (je_var 0) (je_int)) (ja_cons (je_ix ix_seq ixI (je_var 0) (je_int)) (ja_nil)))) (ja_nil)))) (ja_nil)))) (ja_nil))) (jp_nil))) (ja_cons (je_disp (jp_cons (k := .inr "lists") pe_str (je_tup (ja_cons (je_tup (ja_cons (je_ix ix_seq ixI (je_var 0) (je_int)) (ja_cons (je_var 1) (ja_nil)))) (ja_nil))) (jp_nil))) (ja_nil))))))) (jss_one (js_ret (je_cmp (op_eqP hu) eqI (je_lc (own := [("_law_one", 6)]) rfl nd (ji_any (je_bin op_addB addBI (je_var 3) (je_var 5))) (blkOk_by (N := N__law_alike_right) (sc := defScope s__law_alike_right) (by decide +kernel)) (fun _ _ _ _ _ => jg_name nd rfl (by first | exact Or.inl rfl | exact Or.inr rfl)) (fun _ _ _ _ _ => jts_nil) (fun _ _ _ _ _ => je_callC gu hr C__law_with (ja_cons (je_var 0) (ja_cons (je_var 6) (ja_nil))))) (je_bin op_addB addBI (je_bin op_mulAll mulI (je_lst (ja_cons (je_bl) (ja_nil))) (je_int)) (je_bin op_mulAll mulI (je_lst (ja_cons (je_bl) (ja_nil))) (je_int)))))))))))))))), hm⟩, nargs_def⟩
theorem sc_law : FnScope N_law P_law (defScope s_law) := ⟨rfl, rfl, rfl, by decide +kernel, rfl, by decide +kernel, by decide +kernel⟩
set_option maxHeartbeats 0 in
theorem ok_law {k : Nat} (z_range : mg "range" = none) (C__law_alike_right : Cal P w K mg base k "_law_alike_right" s__law_alike_right P__law_alike_right m__law_alike_right) (C__law_begin : Cal P w K mg base k "_law_begin" s__law_begin P__law_begin m__law_begin) (C__law_names : Cal P w K mg base k "_law_names" s__law_names P__law_names m__law_names) (C__law_numbers_right : Cal P w K mg base k "_law_numbers_right" s__law_numbers_right P__law_numbers_right m__law_numbers_right) (C__law_sizes_right : Cal P w K mg base k "_law_sizes_right" s__law_sizes_right P__law_sizes_right m__law_sizes_right) (C__law_with : Cal P w K mg base k "_law_with" s__law_with P__law_with m__law_with) {f : Addr} {fd : FuncData} (Fu : Fun K "law" "law" s_law f fd) (hm : mg "law" = some (.ref f)) : Cal P w K mg base (k + 1) "law" s_law P_law m_law :=
  ⟨⟨f, fd, _, _, Fu, Fu.binds (ps := P_law) (fun _ _ _ _ _ _ us hl => match us, hl with | [_], _ => rfl), ok_def (N := N_law) (ps := P_law) Fu sc_law (fun cdv A outer s H E gu hr => by
    have hu : (A.deeper (envOfC "law" (defScope s_law) s.heap.objs.size f cdv)).units + 64 < cLine := hr.units
    have nd := sc_law.nd
    exact jss_cons (js_set nd rfl (by first | exact Or.inl rfl | exact Or.inr rfl) (je_callC gu hr C__law_begin (ja_cons (je_var 0) (ja_nil)))) (jss_cons (js_for PassesOwn.never rfl (ji_rng1 (by rfl) z_range (ja_cons (je_int) (ja_nil))) (jg_name nd rfl (by first | exact Or.inl rfl | exact Or.inr rfl)) (jss_cons (js_set nd rfl (by first | exact Or.inl rfl | exact Or.inr rfl) (je_callC gu hr C__law_names (ja_cons (je_var 1) (ja_cons (je_int) (ja_nil))))) (jss_cons (js_if (jt_w (jw_or (jt_not (jt_val (je_callC gu hr C__law_sizes_right (ja_cons (je_var 3) (ja_nil))))) (jw_or (jt_not (jt_val (je_callC gu hr C__law_numbers_right (ja_cons (je_var 3) (ja_nil))))) (jw_or1 (jt_not (jt_val (je_callC gu hr C__law_alike_right (ja_cons (je_var 3) (ja_nil))))))))) (jss_one (js_ret (je_bl))) (jss_nil)) (jss_one (js_if (jt_cmp op_isnAll isnI (je_callC gu hr C__law_with (ja_cons (je_var 3) (ja_cons (je_dnil) (ja_nil)))) (je_bl)) (jss_one (js_ret (je_bl))) (jss_nil)))))) (jss_one (js_ret (je_bl))))), hm⟩, nargs_def⟩
theorem all_mk {h : Heap} {fa : Addr} (X : K.In h) (G : h.Ns mainGlobals mg) (hfa : mg "law" = some (.ref fa)) (own : OwnT K [] h)
    {f_is_number : Addr} {oc0 kV0 dc0 pm0 cd0 ct0 : Value} {od0 an0 : Option Addr} {sl0 : Array (Option Value)} (a0 : PySem.W.nsIn K mainGlobals "is_number" = some (some (.ref f_is_number))) (l0 : K.lookup f_is_number = some ⟨oc0, od0, .func (PySem.W.fnOf "is_number" "is_number" (defArgs s_is_number) (defBody s_is_number) (defScope s_is_number) .none kV0 dc0 pm0 an0 cd0 ct0), sl0⟩) (e0 : PySem.W.codeIn K cd0 "is_number" = true) (k0 : PySem.W.keepIn K (.ref f_is_number) = true)
    {f_is_within : Addr} {oc1 kV1 dc1 pm1 cd1 ct1 : Value} {od1 an1 : Option Addr} {sl1 : Array (Option Value)} (a1 : PySem.W.nsIn K mainGlobals "is_within" = some (some (.ref f_is_within))) (l1 : K.lookup f_is_within = some ⟨oc1, od1, .func (PySem.W.fnOf "is_within" "is_within" (defArgs s_is_within) (defBody s_is_within) (defScope s_is_within) .none kV1 dc1 pm1 an1 cd1 ct1), sl1⟩) (e1 : PySem.W.codeIn K cd1 "is_within" = true) (k1 : PySem.W.keepIn K (.ref f_is_within) = true)
    {f_is_tuple_of : Addr} {oc2 kV2 dc2 pm2 cd2 ct2 : Value} {od2 an2 : Option Addr} {sl2 : Array (Option Value)} (a2 : PySem.W.nsIn K mainGlobals "is_tuple_of" = some (some (.ref f_is_tuple_of))) (l2 : K.lookup f_is_tuple_of = some ⟨oc2, od2, .func (PySem.W.fnOf "is_tuple_of" "is_tuple_of" (defArgs s_is_tuple_of) (defBody s_is_tuple_of) (defScope s_is_tuple_of) .none kV2 dc2 pm2 an2 cd2 ct2), sl2⟩) (e2 : PySem.W.codeIn K cd2 "is_tuple_of" = true) (k2 : PySem.W.keepIn K (.ref f_is_tuple_of) = true)
    {f_is_short : Addr} {oc3 kV3 dc3 pm3 cd3 ct3 : Value} {od3 an3 : Option Addr} {sl3 : Array (Option Value)} (a3 : PySem.W.nsIn K mainGlobals "is_short" = some (some (.ref f_is_short))) (l3 : K.lookup f_is_short = some ⟨oc3, od3, .func (PySem.W.fnOf "is_short" "is_short" (defArgs s_is_short) (defBody s_is_short) (defScope s_is_short) .none kV3 dc3 pm3 an3 cd3 ct3), sl3⟩) (e3 : PySem.W.codeIn K cd3 "is_short" = true) (k3 : PySem.W.keepIn K (.ref f_is_short) = true)
    {f_are_unlike : Addr} {oc4 kV4 dc4 pm4 cd4 ct4 : Value} {od4 an4 : Option Addr} {sl4 : Array (Option Value)} (a4 : PySem.W.nsIn K mainGlobals "are_unlike" = some (some (.ref f_are_unlike))) (l4 : K.lookup f_are_unlike = some ⟨oc4, od4, .func (PySem.W.fnOf "are_unlike" "are_unlike" (defArgs s_are_unlike) (defBody s_are_unlike) (defScope s_are_unlike) .none kV4 dc4 pm4 an4 cd4 ct4), sl4⟩) (e4 : PySem.W.codeIn K cd4 "are_unlike" = true) (k4 : PySem.W.keepIn K (.ref f_are_unlike) = true)
    {f_is_name : Addr} {oc5 kV5 dc5 pm5 cd5 ct5 : Value} {od5 an5 : Option Addr} {sl5 : Array (Option Value)} (a5 : PySem.W.nsIn K mainGlobals "is_name" = some (some (.ref f_is_name))) (l5 : K.lookup f_is_name = some ⟨oc5, od5, .func (PySem.W.fnOf "is_name" "is_name" (defArgs s_is_name) (defBody s_is_name) (defScope s_is_name) .none kV5 dc5 pm5 an5 cd5 ct5), sl5⟩) (e5 : PySem.W.codeIn K cd5 "is_name" = true) (k5 : PySem.W.keepIn K (.ref f_is_name) = true)
    {f_is_address : Addr} {oc6 kV6 dc6 pm6 cd6 ct6 : Value} {od6 an6 : Option Addr} {sl6 : Array (Option Value)} (a6 : PySem.W.nsIn K mainGlobals "is_address" = some (some (.ref f_is_address))) (l6 : K.lookup f_is_address = some ⟨oc6, od6, .func (PySem.W.fnOf "is_address" "is_address" (defArgs s_is_address) (defBody s_is_address) (defScope s_is_address) .none kV6 dc6 pm6 an6 cd6 ct6), sl6⟩) (e6 : PySem.W.codeIn K cd6 "is_address" = true) (k6 : PySem.W.keepIn K (.ref f_is_address) = true)
    {f_are_addresses : Addr} {oc7 kV7 dc7 pm7 cd7 ct7 : Value} {od7 an7 : Option Addr} {sl7 : Array (Option Value)} (a7 : PySem.W.nsIn K mainGlobals "are_addresses" = some (some (.ref f_are_addresses))) (l7 : K.lookup f_are_addresses = some ⟨oc7, od7, .func (PySem.W.fnOf "are_addresses" "are_addresses" (defArgs s_are_addresses) (defBody s_are_addresses) (defScope s_are_addresses) .none kV7 dc7 pm7 an7 cd7 ct7), sl7⟩) (e7 : PySem.W.codeIn K cd7 "are_addresses" = true) (k7 : PySem.W.keepIn K (.ref f_are_addresses) = true)
    {f_are_ways : Addr} {oc8 kV8 dc8 pm8 cd8 ct8 : Value} {od8 an8 : Option Addr} {sl8 : Array (Option Value)} (a8 : PySem.W.nsIn K mainGlobals "are_ways" = some (some (.ref f_are_ways))) (l8 : K.lookup f_are_ways = some ⟨oc8, od8, .func (PySem.W.fnOf "are_ways" "are_ways" (defArgs s_are_ways) (defBody s_are_ways) (defScope s_are_ways) .none kV8 dc8 pm8 an8 cd8 ct8), sl8⟩) (e8 : PySem.W.codeIn K cd8 "are_ways" = true) (k8 : PySem.W.keepIn K (.ref f_are_ways) = true)
    {f_are_lists : Addr} {oc9 kV9 dc9 pm9 cd9 ct9 : Value} {od9 an9 : Option Addr} {sl9 : Array (Option Value)} (a9 : PySem.W.nsIn K mainGlobals "are_lists" = some (some (.ref f_are_lists))) (l9 : K.lookup f_are_lists = some ⟨oc9, od9, .func (PySem.W.fnOf "are_lists" "are_lists" (defArgs s_are_lists) (defBody s_are_lists) (defScope s_are_lists) .none kV9 dc9 pm9 an9 cd9 ct9), sl9⟩) (e9 : PySem.W.codeIn K cd9 "are_lists" = true) (k9 : PySem.W.keepIn K (.ref f_are_lists) = true)
    {f_is_house : Addr} {oc10 kV10 dc10 pm10 cd10 ct10 : Value} {od10 an10 : Option Addr} {sl10 : Array (Option Value)} (a10 : PySem.W.nsIn K mainGlobals "is_house" = some (some (.ref f_is_house))) (l10 : K.lookup f_is_house = some ⟨oc10, od10, .func (PySem.W.fnOf "is_house" "is_house" (defArgs s_is_house) (defBody s_is_house) (defScope s_is_house) .none kV10 dc10 pm10 an10 cd10 ct10), sl10⟩) (e10 : PySem.W.codeIn K cd10 "is_house" = true) (k10 : PySem.W.keepIn K (.ref f_is_house) = true)
    {f_is_link : Addr} {oc11 kV11 dc11 pm11 cd11 ct11 : Value} {od11 an11 : Option Addr} {sl11 : Array (Option Value)} (a11 : PySem.W.nsIn K mainGlobals "is_link" = some (some (.ref f_is_link))) (l11 : K.lookup f_is_link = some ⟨oc11, od11, .func (PySem.W.fnOf "is_link" "is_link" (defArgs s_is_link) (defBody s_is_link) (defScope s_is_link) .none kV11 dc11 pm11 an11 cd11 ct11), sl11⟩) (e11 : PySem.W.codeIn K cd11 "is_link" = true) (k11 : PySem.W.keepIn K (.ref f_is_link) = true)
    {f_house_names : Addr} {oc12 kV12 dc12 pm12 cd12 ct12 : Value} {od12 an12 : Option Addr} {sl12 : Array (Option Value)} (a12 : PySem.W.nsIn K mainGlobals "house_names" = some (some (.ref f_house_names))) (l12 : K.lookup f_house_names = some ⟨oc12, od12, .func (PySem.W.fnOf "house_names" "house_names" (defArgs s_house_names) (defBody s_house_names) (defScope s_house_names) .none kV12 dc12 pm12 an12 cd12 ct12), sl12⟩) (e12 : PySem.W.codeIn K cd12 "house_names" = true) (k12 : PySem.W.keepIn K (.ref f_house_names) = true)
    {f_is_plan : Addr} {oc13 kV13 dc13 pm13 cd13 ct13 : Value} {od13 an13 : Option Addr} {sl13 : Array (Option Value)} (a13 : PySem.W.nsIn K mainGlobals "is_plan" = some (some (.ref f_is_plan))) (l13 : K.lookup f_is_plan = some ⟨oc13, od13, .func (PySem.W.fnOf "is_plan" "is_plan" (defArgs s_is_plan) (defBody s_is_plan) (defScope s_is_plan) .none kV13 dc13 pm13 an13 cd13 ct13), sl13⟩) (e13 : PySem.W.codeIn K cd13 "is_plan" = true) (k13 : PySem.W.keepIn K (.ref f_is_plan) = true)
    {f__law_begin : Addr} {oc14 kV14 dc14 pm14 cd14 ct14 : Value} {od14 an14 : Option Addr} {sl14 : Array (Option Value)} (a14 : PySem.W.nsIn K mainGlobals "_law_begin" = some (some (.ref f__law_begin))) (l14 : K.lookup f__law_begin = some ⟨oc14, od14, .func (PySem.W.fnOf "_law_begin" "_law_begin" (defArgs s__law_begin) (defBody s__law_begin) (defScope s__law_begin) .none kV14 dc14 pm14 an14 cd14 ct14), sl14⟩) (e14 : PySem.W.codeIn K cd14 "_law_begin" = true) (k14 : PySem.W.keepIn K (.ref f__law_begin) = true)
    {f__law_take : Addr} {oc15 kV15 dc15 pm15 cd15 ct15 : Value} {od15 an15 : Option Addr} {sl15 : Array (Option Value)} (a15 : PySem.W.nsIn K mainGlobals "_law_take" = some (some (.ref f__law_take))) (l15 : K.lookup f__law_take = some ⟨oc15, od15, .func (PySem.W.fnOf "_law_take" "_law_take" (defArgs s__law_take) (defBody s__law_take) (defScope s__law_take) .none kV15 dc15 pm15 an15 cd15 ct15), sl15⟩) (e15 : PySem.W.codeIn K cd15 "_law_take" = true) (k15 : PySem.W.keepIn K (.ref f__law_take) = true)
    {f__law_names : Addr} {oc16 kV16 dc16 pm16 cd16 ct16 : Value} {od16 an16 : Option Addr} {sl16 : Array (Option Value)} (a16 : PySem.W.nsIn K mainGlobals "_law_names" = some (some (.ref f__law_names))) (l16 : K.lookup f__law_names = some ⟨oc16, od16, .func (PySem.W.fnOf "_law_names" "_law_names" (defArgs s__law_names) (defBody s__law_names) (defScope s__law_names) .none kV16 dc16 pm16 an16 cd16 ct16), sl16⟩) (e16 : PySem.W.codeIn K cd16 "_law_names" = true) (k16 : PySem.W.keepIn K (.ref f__law_names) = true)
    {f__law_with : Addr} {oc17 kV17 dc17 pm17 cd17 ct17 : Value} {od17 an17 : Option Addr} {sl17 : Array (Option Value)} (a17 : PySem.W.nsIn K mainGlobals "_law_with" = some (some (.ref f__law_with))) (l17 : K.lookup f__law_with = some ⟨oc17, od17, .func (PySem.W.fnOf "_law_with" "_law_with" (defArgs s__law_with) (defBody s__law_with) (defScope s__law_with) .none kV17 dc17 pm17 an17 cd17 ct17), sl17⟩) (e17 : PySem.W.codeIn K cd17 "_law_with" = true) (k17 : PySem.W.keepIn K (.ref f__law_with) = true)
    {f__law_house : Addr} {oc18 kV18 dc18 pm18 cd18 ct18 : Value} {od18 an18 : Option Addr} {sl18 : Array (Option Value)} (a18 : PySem.W.nsIn K mainGlobals "_law_house" = some (some (.ref f__law_house))) (l18 : K.lookup f__law_house = some ⟨oc18, od18, .func (PySem.W.fnOf "_law_house" "_law_house" (defArgs s__law_house) (defBody s__law_house) (defScope s__law_house) .none kV18 dc18 pm18 an18 cd18 ct18), sl18⟩) (e18 : PySem.W.codeIn K cd18 "_law_house" = true) (k18 : PySem.W.keepIn K (.ref f__law_house) = true)
    {f__law_sizes_right : Addr} {oc19 kV19 dc19 pm19 cd19 ct19 : Value} {od19 an19 : Option Addr} {sl19 : Array (Option Value)} (a19 : PySem.W.nsIn K mainGlobals "_law_sizes_right" = some (some (.ref f__law_sizes_right))) (l19 : K.lookup f__law_sizes_right = some ⟨oc19, od19, .func (PySem.W.fnOf "_law_sizes_right" "_law_sizes_right" (defArgs s__law_sizes_right) (defBody s__law_sizes_right) (defScope s__law_sizes_right) .none kV19 dc19 pm19 an19 cd19 ct19), sl19⟩) (e19 : PySem.W.codeIn K cd19 "_law_sizes_right" = true) (k19 : PySem.W.keepIn K (.ref f__law_sizes_right) = true)
    {f__law_numbers_right : Addr} {oc20 kV20 dc20 pm20 cd20 ct20 : Value} {od20 an20 : Option Addr} {sl20 : Array (Option Value)} (a20 : PySem.W.nsIn K mainGlobals "_law_numbers_right" = some (some (.ref f__law_numbers_right))) (l20 : K.lookup f__law_numbers_right = some ⟨oc20, od20, .func (PySem.W.fnOf "_law_numbers_right" "_law_numbers_right" (defArgs s__law_numbers_right) (defBody s__law_numbers_right) (defScope s__law_numbers_right) .none kV20 dc20 pm20 an20 cd20 ct20), sl20⟩) (e20 : PySem.W.codeIn K cd20 "_law_numbers_right" = true) (k20 : PySem.W.keepIn K (.ref f__law_numbers_right) = true)
    {f__law_alike_right : Addr} {oc21 kV21 dc21 pm21 cd21 ct21 : Value} {od21 an21 : Option Addr} {sl21 : Array (Option Value)} (a21 : PySem.W.nsIn K mainGlobals "_law_alike_right" = some (some (.ref f__law_alike_right))) (l21 : K.lookup f__law_alike_right = some ⟨oc21, od21, .func (PySem.W.fnOf "_law_alike_right" "_law_alike_right" (defArgs s__law_alike_right) (defBody s__law_alike_right) (defScope s__law_alike_right) .none kV21 dc21 pm21 an21 cd21 ct21), sl21⟩) (e21 : PySem.W.codeIn K cd21 "_law_alike_right" = true) (k21 : PySem.W.keepIn K (.ref f__law_alike_right) = true)
    {f_law : Addr} {oc22 kV22 dc22 pm22 cd22 ct22 : Value} {od22 an22 : Option Addr} {sl22 : Array (Option Value)} (a22 : PySem.W.nsIn K mainGlobals "law" = some (some (.ref f_law))) (l22 : K.lookup f_law = some ⟨oc22, od22, .func (PySem.W.fnOf "law" "law" (defArgs s_law) (defBody s_law) (defScope s_law) .none kV22 dc22 pm22 an22 cd22 ct22), sl22⟩) (e22 : PySem.W.codeIn K cd22 "law" = true) (k22 : PySem.W.keepIn K (.ref f_law) = true)
    (nn_holds : PySem.W.nsIn K mainGlobals "holds" = some none)
    (nn_holds_of : PySem.W.nsIn K mainGlobals "holds_of" = some none)
    (nn_best_way : PySem.W.nsIn K mainGlobals "best_way" = some none)
    {t_HOUSES : Tok} (cHOUSES : PySem.W.nsIn K mainGlobals "HOUSES" = some (some (.int 0 t_HOUSES)))
    {t_LEAST_MOST : Tok} (cLEAST_MOST : PySem.W.nsIn K mainGlobals "LEAST_MOST" = some (some (.int 400 t_LEAST_MOST)))
    {t_LINKS : Tok} (cLINKS : PySem.W.nsIn K mainGlobals "LINKS" = some (some (.int 1 t_LINKS)))
    {t_LISTS : Tok} (cLISTS : PySem.W.nsIn K mainGlobals "LISTS" = some (some (.int 2 t_LISTS)))
    {t_MOST : Tok} (cMOST : PySem.W.nsIn K mainGlobals "MOST" = some (some (.int 4 t_MOST)))
    {t_MOST_ADDRESSES : Tok} (cMOST_ADDRESSES : PySem.W.nsIn K mainGlobals "MOST_ADDRESSES" = some (some (.int 4 t_MOST_ADDRESSES)))
    {t_MOST_DELAY : Tok} (cMOST_DELAY : PySem.W.nsIn K mainGlobals "MOST_DELAY" = some (some (.int 4 t_MOST_DELAY)))
    {t_MOST_HOUSES : Tok} (cMOST_HOUSES : PySem.W.nsIn K mainGlobals "MOST_HOUSES" = some (some (.int 5 t_MOST_HOUSES)))
    {t_MOST_LETTERS : Tok} (cMOST_LETTERS : PySem.W.nsIn K mainGlobals "MOST_LETTERS" = some (some (.int 8 t_MOST_LETTERS)))
    {t_MOST_LINKS : Tok} (cMOST_LINKS : PySem.W.nsIn K mainGlobals "MOST_LINKS" = some (some (.int 8 t_MOST_LINKS)))
    {t_MOST_LISTS : Tok} (cMOST_LISTS : PySem.W.nsIn K mainGlobals "MOST_LISTS" = some (some (.int 3 t_MOST_LISTS)))
    {t_MOST_MOST : Tok} (cMOST_MOST : PySem.W.nsIn K mainGlobals "MOST_MOST" = some (some (.int 9000 t_MOST_MOST)))
    {t_MOST_PEOPLE : Tok} (cMOST_PEOPLE : PySem.W.nsIn K mainGlobals "MOST_PEOPLE" = some (some (.int 4 t_MOST_PEOPLE)))
    {t_NAME : Tok} (cNAME : PySem.W.nsIn K mainGlobals "NAME" = some (some (.int 0 t_NAME)))
    {t_PEOPLE : Tok} (cPEOPLE : PySem.W.nsIn K mainGlobals "PEOPLE" = some (some (.int 1 t_PEOPLE)))
    {t_POST : Tok} (cPOST : PySem.W.nsIn K mainGlobals "POST" = some (some (.str "post" t_POST)))
    {t_SMALL_SIGNS : Tok} (cSMALL_SIGNS : PySem.W.nsIn K mainGlobals "SMALL_SIGNS" = some (some (.str "abcdefghijklmnopqrstuvwxyz" t_SMALL_SIGNS)))
    {t_TAKEN_WAYS : Tok} (cTAKEN_WAYS : PySem.W.nsIn K mainGlobals "TAKEN_WAYS" = some (some (.int 3 t_TAKEN_WAYS)))
    (zall : PySem.W.nsIn K mainGlobals "all" = some none)
    (zbool : PySem.W.nsIn K mainGlobals "bool" = some none)
    (zdivmod : PySem.W.nsIn K mainGlobals "divmod" = some none)
    (zint : PySem.W.nsIn K mainGlobals "int" = some none)
    (zisinstance : PySem.W.nsIn K mainGlobals "isinstance" = some none)
    (zlen : PySem.W.nsIn K mainGlobals "len" = some none)
    (zlist : PySem.W.nsIn K mainGlobals "list" = some none)
    (zrange : PySem.W.nsIn K mainGlobals "range" = some none)
    (zset : PySem.W.nsIn K mainGlobals "set" = some none)
    (zsorted : PySem.W.nsIn K mainGlobals "sorted" = some none)
    (zstr : PySem.W.nsIn K mainGlobals "str" = some none)
    (ztuple : PySem.W.nsIn K mainGlobals "tuple" = some none)
    (zzip : PySem.W.nsIn K mainGlobals "zip" = some none)
    {dWAYS : Addr} {itsWAYS : Array Value} {nWAYS : Nat} {slWAYS : Array (Option Value)} (aWAYS : PySem.W.nsIn K mainGlobals "WAYS" = some (some (.ref dWAYS))) (lWAYS : K.lookup dWAYS = some ⟨.type "tuple", none, .seq itsWAYS nWAYS, slWAYS⟩) (tWAYS : Txts itsWAYS.toList T_WAYS) :
    LamLaw P w K mg 9 fa "_law_script" m_law h := by
  have e := hfa.symm.trans (PySem.W.mg_of X G a22)
  cases e
  have F_is_number := fun_mk (st := s_is_number) l0 e0 k0
  have h_is_number := PySem.W.mg_of X G a0
  have F_is_within := fun_mk (st := s_is_within) l1 e1 k1
  have h_is_within := PySem.W.mg_of X G a1
  have F_is_tuple_of := fun_mk (st := s_is_tuple_of) l2 e2 k2
  have h_is_tuple_of := PySem.W.mg_of X G a2
  have F_is_short := fun_mk (st := s_is_short) l3 e3 k3
  have h_is_short := PySem.W.mg_of X G a3
  have F_are_unlike := fun_mk (st := s_are_unlike) l4 e4 k4
  have h_are_unlike := PySem.W.mg_of X G a4
  have F_is_name := fun_mk (st := s_is_name) l5 e5 k5
  have h_is_name := PySem.W.mg_of X G a5
  have F_is_address := fun_mk (st := s_is_address) l6 e6 k6
  have h_is_address := PySem.W.mg_of X G a6
  have F_are_addresses := fun_mk (st := s_are_addresses) l7 e7 k7
  have h_are_addresses := PySem.W.mg_of X G a7
  have F_are_ways := fun_mk (st := s_are_ways) l8 e8 k8
  have h_are_ways := PySem.W.mg_of X G a8
  have F_are_lists := fun_mk (st := s_are_lists) l9 e9 k9
  have h_are_lists := PySem.W.mg_of X G a9
  have F_is_house := fun_mk (st := s_is_house) l10 e10 k10
  have h_is_house := PySem.W.mg_of X G a10
  have F_is_link := fun_mk (st := s_is_link) l11 e11 k11
  have h_is_link := PySem.W.mg_of X G a11
  have F_house_names := fun_mk (st := s_house_names) l12 e12 k12
  have h_house_names := PySem.W.mg_of X G a12
  have F_is_plan := fun_mk (st := s_is_plan) l13 e13 k13
  have h_is_plan := PySem.W.mg_of X G a13
  have F__law_begin := fun_mk (st := s__law_begin) l14 e14 k14
  have h__law_begin := PySem.W.mg_of X G a14
  have F__law_take := fun_mk (st := s__law_take) l15 e15 k15
  have h__law_take := PySem.W.mg_of X G a15
  have F__law_names := fun_mk (st := s__law_names) l16 e16 k16
  have h__law_names := PySem.W.mg_of X G a16
  have F__law_with := fun_mk (st := s__law_with) l17 e17 k17
  have h__law_with := PySem.W.mg_of X G a17
  have F__law_house := fun_mk (st := s__law_house) l18 e18 k18
  have h__law_house := PySem.W.mg_of X G a18
  have F__law_sizes_right := fun_mk (st := s__law_sizes_right) l19 e19 k19
  have h__law_sizes_right := PySem.W.mg_of X G a19
  have F__law_numbers_right := fun_mk (st := s__law_numbers_right) l20 e20 k20
  have h__law_numbers_right := PySem.W.mg_of X G a20
  have F__law_alike_right := fun_mk (st := s__law_alike_right) l21 e21 k21
  have h__law_alike_right := PySem.W.mg_of X G a21
  have F_law := fun_mk (st := s_law) l22 e22 k22
  have h_law := PySem.W.mg_of X G a22
  have c_HOUSES := PySem.W.mg_of X G cHOUSES
  have c_LEAST_MOST := PySem.W.mg_of X G cLEAST_MOST
  have c_LINKS := PySem.W.mg_of X G cLINKS
  have c_LISTS := PySem.W.mg_of X G cLISTS
  have c_MOST := PySem.W.mg_of X G cMOST
  have c_MOST_ADDRESSES := PySem.W.mg_of X G cMOST_ADDRESSES
  have c_MOST_DELAY := PySem.W.mg_of X G cMOST_DELAY
  have c_MOST_HOUSES := PySem.W.mg_of X G cMOST_HOUSES
  have c_MOST_LETTERS := PySem.W.mg_of X G cMOST_LETTERS
  have c_MOST_LINKS := PySem.W.mg_of X G cMOST_LINKS
  have c_MOST_LISTS := PySem.W.mg_of X G cMOST_LISTS
  have c_MOST_MOST := PySem.W.mg_of X G cMOST_MOST
  have c_MOST_PEOPLE := PySem.W.mg_of X G cMOST_PEOPLE
  have c_NAME := PySem.W.mg_of X G cNAME
  have c_PEOPLE := PySem.W.mg_of X G cPEOPLE
  have c_POST := PySem.W.mg_of X G cPOST
  have c_SMALL_SIGNS := PySem.W.mg_of X G cSMALL_SIGNS
  have c_TAKEN_WAYS := PySem.W.mg_of X G cTAKEN_WAYS
  have z_all := PySem.W.mg_none_of X G zall
  have z_bool := PySem.W.mg_none_of X G zbool
  have z_divmod := PySem.W.mg_none_of X G zdivmod
  have z_int := PySem.W.mg_none_of X G zint
  have z_isinstance := PySem.W.mg_none_of X G zisinstance
  have z_len := PySem.W.mg_none_of X G zlen
  have z_list := PySem.W.mg_none_of X G zlist
  have z_range := PySem.W.mg_none_of X G zrange
  have z_set := PySem.W.mg_none_of X G zset
  have z_sorted := PySem.W.mg_none_of X G zsorted
  have z_str := PySem.W.mg_none_of X G zstr
  have z_tuple := PySem.W.mg_none_of X G ztuple
  have z_zip := PySem.W.mg_none_of X G zzip
  have M_WAYS : MTup K mg "WAYS" T_WAYS := mtup_mk (PySem.W.mg_of X G aWAYS) lWAYS tWAYS (by decide)
  refine ⟨PySem.W.fnOf "law" "law" (defArgs s_law) (defBody s_law) (defScope s_law) .none kV22 dc22 pm22 an22 cd22 ct22, [], fun _ hp => absurd hp List.not_mem_nil, fun _ hp => absurd hp List.not_mem_nil, fun _ hp => absurd hp List.not_mem_nil, fun s v => .of_eq rfl, fun H _ p hp => ?_, fun base _ _ TB => ?_⟩
  · rw [tabs_none nn_holds nn_holds_of nn_best_way] at hp; exact absurd hp List.not_mem_nil
  have C_is_number : ∀ base : Heap, Cal P w K mg base 1 "is_number" s_is_number P_is_number m_is_number := fun base => ok_is_number (base := base) (k := 0) z_bool z_int z_isinstance F_is_number h_is_number
  have C_is_within : ∀ base : Heap, Cal P w K mg base 2 "is_within" s_is_within P_is_within m_is_within := fun base => ok_is_within (base := base) (k := 1) ((C_is_number base).more (by decide)) F_is_within h_is_within
  have C_is_tuple_of : ∀ base : Heap, Cal P w K mg base 1 "is_tuple_of" s_is_tuple_of P_is_tuple_of m_is_tuple_of := fun base => ok_is_tuple_of (base := base) (k := 0) z_isinstance z_len z_tuple F_is_tuple_of h_is_tuple_of
  have C_is_short : ∀ base : Heap, Cal P w K mg base 1 "is_short" s_is_short P_is_short m_is_short := fun base => ok_is_short (base := base) (k := 0) z_isinstance z_len z_tuple F_is_short h_is_short
  have C_are_unlike : ∀ base : Heap, Cal P w K mg base 1 "are_unlike" s_are_unlike P_are_unlike m_are_unlike := fun base => ok_are_unlike (base := base) (k := 0) z_len z_set F_are_unlike h_are_unlike
  have C_is_name : ∀ base : Heap, Cal P w K mg base 1 "is_name" s_is_name P_is_name m_is_name := fun base => ok_is_name (base := base) (k := 0) z_all z_isinstance z_len z_str c_MOST_LETTERS c_SMALL_SIGNS F_is_name h_is_name
  have C_is_address : ∀ base : Heap, Cal P w K mg base 2 "is_address" s_is_address P_is_address m_is_address := fun base => ok_is_address (base := base) (k := 1) ((C_is_name base).more (by decide)) ((C_is_tuple_of base).more (by decide)) F_is_address h_is_address
  have C_are_addresses : ∀ base : Heap, Cal P w K mg base 3 "are_addresses" s_are_addresses P_are_addresses m_are_addresses := fun base => ok_are_addresses (base := base) (k := 2) z_all c_MOST_ADDRESSES ((C_are_unlike base).more (by decide)) ((C_is_address base).more (by decide)) ((C_is_short base).more (by decide)) F_are_addresses h_are_addresses
  have C_are_ways : ∀ base : Heap, Cal P w K mg base 2 "are_ways" s_are_ways P_are_ways m_are_ways := fun base => ok_are_ways (base := base) (k := 1) z_all z_isinstance z_len z_str z_zip ((C_is_short base).more (by decide)) M_WAYS F_are_ways h_are_ways
  have C_are_lists : ∀ base : Heap, Cal P w K mg base 4 "are_lists" s_are_lists P_are_lists m_are_lists := fun base => ok_are_lists (base := base) (k := 3) z_all c_MOST_LISTS ((C_are_addresses base).more (by decide)) ((C_is_name base).more (by decide)) ((C_is_short base).more (by decide)) ((C_is_tuple_of base).more (by decide)) F_are_lists h_are_lists
  have C_is_house : ∀ base : Heap, Cal P w K mg base 5 "is_house" s_is_house P_is_house m_is_house := fun base => ok_is_house (base := base) (k := 4) z_all z_list c_LEAST_MOST c_LISTS c_MOST c_MOST_MOST c_MOST_PEOPLE c_NAME c_PEOPLE c_POST c_TAKEN_WAYS ((C_are_lists base).more (by decide)) ((C_are_unlike base).more (by decide)) ((C_are_ways base).more (by decide)) ((C_is_name base).more (by decide)) ((C_is_short base).more (by decide)) ((C_is_tuple_of base).more (by decide)) ((C_is_within base).more (by decide)) F_is_house h_is_house
  have C_is_link : ∀ base : Heap, Cal P w K mg base 2 "is_link" s_is_link P_is_link m_is_link := fun base => ok_is_link (base := base) (k := 1) c_MOST_DELAY ((C_is_name base).more (by decide)) ((C_is_number base).more (by decide)) ((C_is_tuple_of base).more (by decide)) F_is_link h_is_link
  have C_house_names : ∀ base : Heap, Cal P w K mg base 1 "house_names" s_house_names P_house_names m_house_names := fun base => ok_house_names (base := base) (k := 0) c_HOUSES c_NAME F_house_names h_house_names
  have C_is_plan : ∀ base : Heap, Cal P w K mg base 6 "is_plan" s_is_plan P_is_plan m_is_plan := fun base => ok_is_plan (base := base) (k := 5) z_all z_sorted z_tuple c_HOUSES c_LINKS c_MOST_HOUSES c_MOST_LINKS ((C_are_unlike base).more (by decide)) ((C_house_names base).more (by decide)) ((C_is_house base).more (by decide)) ((C_is_link base).more (by decide)) ((C_is_short base).more (by decide)) ((C_is_tuple_of base).more (by decide)) F_is_plan h_is_plan
  have C__law_begin : ∀ base : Heap, Cal P w K mg base 1 "_law_begin" s__law_begin P__law_begin m__law_begin := fun base => ok__law_begin (base := base) (k := 0) z_list F__law_begin h__law_begin
  have C__law_take : ∀ base : Heap, Cal P w K mg base 1 "_law_take" s__law_take P__law_take m__law_take := fun base => ok__law_take (base := base) (k := 0) z_divmod z_len F__law_take h__law_take
  have C__law_names : ∀ base : Heap, Cal P w K mg base 2 "_law_names" s__law_names P__law_names m__law_names := fun base => ok__law_names (base := base) (k := 1) z_len z_range ((C__law_take base).more (by decide)) F__law_names h__law_names
  have C__law_with : ∀ base : Heap, Cal P w K mg base 7 "_law_with" s__law_with P__law_with m__law_with := fun base => ok__law_with (base := base) (k := 6) ((C_is_plan base).more (by decide)) F__law_with h__law_with
  have C__law_house : ∀ base : Heap, Cal P w K mg base 1 "_law_house" s__law_house P__law_house m__law_house := fun base => ok__law_house (base := base) (k := 0)  F__law_house h__law_house
  have C__law_sizes_right : ∀ base : Heap, Cal P w K mg base 8 "_law_sizes_right" s__law_sizes_right P__law_sizes_right m__law_sizes_right := fun base => ok__law_sizes_right (base := base) (k := 7) z_range z_tuple ((C__law_house base).more (by decide)) ((C__law_with base).more (by decide)) F__law_sizes_right h__law_sizes_right
  have C__law_numbers_right : ∀ base : Heap, Cal P w K mg base 8 "_law_numbers_right" s__law_numbers_right P__law_numbers_right m__law_numbers_right := fun base => ok__law_numbers_right (base := base) (k := 7) z_bool z_isinstance ((C__law_house base).more (by decide)) ((C__law_with base).more (by decide)) F__law_numbers_right h__law_numbers_right
  have C__law_alike_right : ∀ base : Heap, Cal P w K mg base 8 "_law_alike_right" s__law_alike_right P__law_alike_right m__law_alike_right := fun base => ok__law_alike_right (base := base) (k := 7) ((C__law_house base).more (by decide)) ((C__law_with base).more (by decide)) F__law_alike_right h__law_alike_right
  have C_law : ∀ base : Heap, Cal P w K mg base 9 "law" s_law P_law m_law := fun base => ok_law (base := base) (k := 8) z_range ((C__law_alike_right base).more (by decide)) ((C__law_begin base).more (by decide)) ((C__law_names base).more (by decide)) ((C__law_numbers_right base).more (by decide)) ((C__law_sizes_right base).more (by decide)) ((C__law_with base).more (by decide)) F_law h_law
  exact ((C_law base)).fn F_law h_law
end
end Law

namespace Law
open DL L2 PyProof.Rows PySem PySem.Spec
local macro_rules | `(tactic| walk_at "w") => `(tactic| simp only [wDef0, wDef1, wDef2, wDef3, List.replicate, Nat.reduceSub, wSeq, wIf, wTb, wTr, wBin, wUn, wVar, wC, wCal, wCall, wCallK, wNil, wCons, wConsC, wLst, wTup, wNotT, wAndT, wOrT, wAnd, wOr, wNotE, wIfE, wChain, wNext, wSet, wSetC, wRet, wDrop, wAsg, wPar, wFor, wLc, wYes, wSl, wNoP, wPt, wRng1, wSrcA, wSrcS, wIsI, wIsI2, wCm, wMs, wRev, wPar3, wPar3k, wZipA, wZipLL, Option.bind_some, wDivm, wDget, wPNil, wPCons, wDisp, wDin, wDinS, wEqS, wEqB, wEqNS, wIsN, wInC, wOrdC, wInT, wInNT, wNinT, wNinNT, ix0, ix1,
  wOpt, tK_some, bK_some, bK_le, bK_lt, wGtI, wLtI, wLeI, wGeI, wModI, wFdivI, wMulI, wAddI, wSubI, wEqI, wNeI, wSlL, wSlN, wSlT, wSlS, wLenL, wLenT, wLenS, wIntT, wTupleN, wMin2, wAddNN, wAddLN, wAddNL, wAddLL, wAddTT, wAddSS, wMulN, wMulT, wMulS, fz_d, fz_n, fz_c, allD, put, truD, bName, bTup, bCons, bNil, wipeR,
  List.getElem?_cons_zero, List.getElem?_cons_succ, List.set_cons_zero, List.set_cons_succ, List.length_set, List.length_cons, List.length_nil, Option.map_some, Option.map_none, if_true, Bool.false_eq_true, if_false, Bool.not_true, Bool.not_false, List.map_cons, List.map_nil, true_and, and_true, Nat.reduceAdd, Nat.reduceLeDiff])
local macro_rules | `(tactic| walk_at "b") => `(tactic| simp (disch := assumption) only [ixB0, ixB1, ixB2, DL.subB0, DL.subB2, Option.bind_some, wDef0, wDef1, wDef2, wDef3, List.replicate, Nat.reduceSub, wSeq, wIf, wTb, wTr, wBin, wUn, wVar, wC, wCal, wCall, wCallK, wNil, wCons, wConsC, wLst, wTup, wNotT, wAndT, wOrT, wAnd, wOr, wNotE, wIfE, wChain, wNext, wSet, wSetC, wRet, wDrop, wAsg, wPar, wFor, wLc, wYes, wSl, wNoP, wPt, wRng1, wSrcA, wSrcS, wIsI, wIsI2, wCm, wMs, wRev, wPar3, wPar3k, wZipA, wZipLL, Option.bind_some, wDivm, wDget, wPNil, wPCons, wDisp, wDin, wDinS, wEqS, wEqB, wEqNS, wIsN, wInC, wOrdC, wInT, wInNT, wNinT, wNinNT, ix0, ix1,
  wOpt, tK_some, bK_some, bK_le, bK_lt, wGtI, wLtI, wLeI, wGeI, wModI, wFdivI, wMulI, wAddI, wSubI, wEqI, wNeI, wSlL, wSlN, wSlT, wSlS, wLenL, wLenT, wLenS, wIntT, wTupleN, wMin2, wAddNN, wAddLN, wAddNL, wAddLL, wAddTT, wAddSS, wMulN, wMulT, wMulS, fz_d, fz_n, fz_c, allD, put, truD, bName, bTup, bCons, bNil, wipeR,
  List.getElem?_cons_zero, List.getElem?_cons_succ, List.set_cons_zero, List.set_cons_succ, List.length_set, List.length_cons, List.length_nil, Option.map_some, Option.map_none, if_true, Bool.false_eq_true, if_false, Bool.not_true, Bool.not_false, List.map_cons, List.map_nil, true_and, and_true, Nat.reduceAdd, Nat.reduceLeDiff])
local macro_rules | `(tactic| walk_at "t") => `(tactic| (try walk_at "w"))
local macro_rules | `(tactic| walk_at "x") => `(tactic| simp (maxSteps := 4000000) only [wDef0, wDef1, wDef2, wDef3, List.replicate, Nat.reduceSub, wSeq, wIf, wTb, wTr, wBin, wUn, wVar, wC, wCal, wCall, wCallK, wNil, wCons, wConsC, wLst, wTup, wNotT, wAndT, wOrT, wAnd, wOr, wNotE, wIfE, wChain, wNext, wSet, wSetC, wRet, wDrop, wAsg, wPar, wFor, wLc, wYes, wSl, wNoP, wPt, wRng1, wSrcA, wSrcS, wIsI, wIsI2, wCm, wMs, wRev, wPar3, wPar3k, wZipA, wZipLL, Option.bind_some, wDivm, wDget, wPNil, wPCons, wDisp, wDin, wDinS, wEqS, wEqB, wEqNS, wIsN, wInC, wOrdC, wInT, wInNT, wNinT, wNinNT, ix0, ix1,
  wOpt, tK_some, bK_some, bK_le, bK_lt, wGtI, wLtI, wLeI, wGeI, wModI, wFdivI, wMulI, wAddI, wSubI, wEqI, wNeI, wSlL, wSlN, wSlT, wSlS, wLenL, wLenT, wLenS, wIntT, wTupleN, wMin2, wAddNN, wAddLN, wAddNL, wAddLL, wAddTT, wAddSS, wMulN, wMulT, wMulS, fz_d, fz_n, fz_c, allD, put, truD, bName, bTup, bCons, bNil, wipeR,
  List.getElem?_cons_zero, List.getElem?_cons_succ, List.set_cons_zero, List.set_cons_succ, List.length_set, List.length_cons, List.length_nil, Option.map_some, Option.map_none, if_true, Bool.false_eq_true, if_false, Bool.not_true, Bool.not_false, List.map_cons, List.map_nil, true_and, and_true, Nat.reduceAdd, Nat.reduceLeDiff])
section
variable {κ : Kap} {N : Nat} {d : PyData} {q : DV → Kap → Prop}
theorem num_w (hk : KOk κ) (hd : gd N d = true) (h : q (.d (.bool (isNum d))) κ) : wO (m_is_number [.d d] κ) q := by
  unfold m_is_number
  walk_at "w"
  have hc := isCell_gd (κ := κ) hd
  cases d with
  | dict _ => simp [gd] at hd
  | bool b => exact ⟨hc, hc, (finD0 (q := q) hk rfl).mpr h⟩
  | int i => exact ⟨hc, hc, (finD0 (q := q) hk rfl).mpr h⟩
  | _ => exact ⟨hc, (finD0 (q := q) hk rfl).mpr h⟩
theorem within_w (hk : KOk κ) {lo hi : Int} (hd : gd N d = true) (h : q (.d (.bool (isIn lo hi d))) κ) : wO (m_is_within [.d d, .d (.int lo), .d (.int hi)] κ) q := by
  unfold m_is_within
  walk_at "w"
  refine num_w hk hd ?_
  cases d with
  | int i =>
    simp only [isNum, tK_some, if_true]
    walk_at "w"
    split
    · rename_i g
      rw [isIn, decide_eq_true g, Bool.true_and] at h
      exact (finD0 (q := q) hk rfl).mpr h
    · rename_i g
      rw [isIn, decide_eq_false g, Bool.false_and] at h
      exact (finD0 (q := q) hk rfl).mpr h
  | _ => exact (finD0 (q := q) hk rfl).mpr h
theorem tupOf_w (hk : KOk κ) {n : Nat} (hd : gd N d = true) (h : q (.d (.bool (isTup n d))) κ) : wO (m_is_tuple_of [.d d, .d (.int n)] κ) q := by
  unfold m_is_tuple_of
  walk_at "w"
  have hc := isCell_gd (κ := κ) hd
  cases d with
  | dict _ => simp [gd] at hd
  | tuple ds =>
    refine ⟨hc, ?_⟩
    rw [if_pos (show isT "tuple" (dvD (DV.d (PyData.tuple ds))) = true from rfl)]
    walk_at "w"
    rw [beq_cast]
    exact (finD0 (q := q) hk rfl).mpr h
  | _ => exact ⟨hc, (finD0 (q := q) hk rfl).mpr h⟩
theorem name_w (hk : KOk κ) (hd : gd N d = true) (hw : d.bulk ≤ 1000000) (h : q (.d (.bool (isN d))) κ) : wO (m_is_name [.d d] κ) q := by
  unfold m_is_name
  walk_at "w"
  refine ⟨isCell_gd hd, ?_⟩
  cases d with
  | str x =>
    have hw : x.length ≤ 1000000 := hw
    simp only [show isT "str" (dvD (DV.d (PyData.str x))) = true from rfl, Bool.not_true, Bool.false_eq_true, if_false]
    walk_at "w"
    refine ⟨by omega, ?_⟩
    simp only [isN, isS] at h
    split
    · rename_i g1
      rw [decide_eq_true g1, Bool.true_and] at h
      by_cases g2 : (x.length : Int) ≤ 8
      · rw [decide_eq_true g2, Bool.true_and] at h
        rw [decide_eq_true g2, Bool.not_true, if_neg Bool.false_ne_true]
        refine lcChars (P := small) (fun c _ q hq => ?_) hw ?_
        · walk_at "w"
          rw [small_mem]; exact hq
        · exact (finD0 (q := q) hk rfl).mpr h
      · rw [decide_eq_false g2, Bool.false_and] at h
        rw [decide_eq_false g2, Bool.not_false, if_pos rfl]
        exact (finD0 (q := q) hk rfl).mpr h
    · rename_i g1
      rw [decide_eq_false g1, Bool.false_and, Bool.false_and] at h
      exact (finD0 (q := q) hk rfl).mpr h
  | dict _ => simp [gd] at hd
  | _ => exact (finD0 (q := q) hk rfl).mpr h
theorem isAd_no {x : PyData} (h : isTup 2 x = false) : isAd x = false := by
  unfold isAd
  split
  · simp [isTup] at h
  · rfl
theorem addr_w (hk : KOk κ) (hd : gd N d = true) (hw : d.bulk ≤ 1000000) (h : q (.d (.bool (isAd d))) κ) : wO (m_is_address [.d d] κ) q := by
  unfold m_is_address
  walk_at "w"
  refine tupOf_w (n := 2) hk hd ?_
  walk_at "w"
  cases e : isTup 2 d with
  | false =>
    rw [isAd_no e] at h
    rw [if_neg Bool.false_ne_true]
    exact (finD0 (q := q) hk rfl).mpr h
  | true =>
    obtain ⟨x, y, rfl⟩ := isTup_two e
    obtain ⟨bx, by'⟩ := pair_bulk hw
    have gx : gd N x = true := gd_mem hd (by simp)
    have gy : gd N y = true := gd_mem hd (by simp)
    rw [if_pos rfl]
    walk_at "w"
    refine name_w hk gx bx ?_
    walk_at "w"
    rw [isAd] at h
    cases ex : isN x with
    | false =>
      rw [ex, Bool.false_and] at h
      rw [if_neg Bool.false_ne_true]
      exact (finD0 (q := q) hk rfl).mpr h
    | true =>
      rw [ex, Bool.true_and] at h
      rw [if_pos rfl]
      exact name_w hk gy by' ((finD0 (q := q) hk rfl).mpr h)
theorem short_w (hk : KOk κ) {lo hi : Int} (hd : gd N d = true) (h : q (.d (.bool (isSh lo hi d))) κ) : wO (m_is_short [.d d, .d (.int lo), .d (.int hi)] κ) q := by
  unfold m_is_short
  walk_at "w"
  have hc := isCell_gd (κ := κ) hd
  cases d with
  | dict _ => simp [gd] at hd
  | tuple ds =>
    refine ⟨hc, ?_⟩
    rw [if_pos (show isT "tuple" (dvD (DV.d (PyData.tuple ds))) = true from rfl)]
    walk_at "w"
    split
    · rename_i g
      rw [isSh, decide_eq_true g, Bool.true_and] at h
      exact (finD0 (q := q) hk rfl).mpr h
    · rename_i g
      rw [isSh, decide_eq_false g, Bool.false_and] at h
      exact (finD0 (q := q) hk rfl).mpr h
  | _ => exact ⟨hc, (finD0 (q := q) hk rfl).mpr h⟩
end
section
variable {κ : Kap} {N : Nat} {d : PyData} {q : DV → Kap → Prop}
theorem isSh_two {x : PyData} : isSh 2 2 x = isTup 2 x := by
  cases x with
  | tuple ds =>
    rw [isSh, isTup, ← Bool.decide_and]
    exact decide_eq_decide.mpr ⟨fun h => by omega, fun h => by omega⟩
  | _ => rfl
theorem isSh_five {x : PyData} : isSh 5 5 x = isTup 5 x := by
  cases x with
  | tuple ds =>
    rw [isSh, isTup, ← Bool.decide_and]
    exact decide_eq_decide.mpr ⟨fun h => by omega, fun h => by omega⟩
  | _ => rfl
theorem isSh_three {x : PyData} : isSh 3 3 x = isTup 3 x := by
  cases x with
  | tuple ds =>
    rw [isSh, isTup, ← Bool.decide_and]
    exact decide_eq_decide.mpr ⟨fun h => by omega, fun h => by omega⟩
  | _ => rfl
end

end Law

namespace Law
open DL L2 PyProof.Rows PySem PySem.Spec
local macro_rules | `(tactic| walk_at "w") => `(tactic| simp only [wDef0, wDef1, wDef2, wDef3, List.replicate, Nat.reduceSub, wSeq, wIf, wTb, wTr, wBin, wUn, wVar, wC, wCal, wCall, wCallK, wNil, wCons, wConsC, wLst, wTup, wNotT, wAndT, wOrT, wAnd, wOr, wNotE, wIfE, wChain, wNext, wSet, wSetC, wRet, wDrop, wAsg, wPar, wFor, wLc, wYes, wSl, wNoP, wPt, wRng1, wSrcA, wSrcS, wIsI, wIsI2, wCm, wMs, wRev, wPar3, wPar3k, wZipA, wZipLL, Option.bind_some, wDivm, wDget, wPNil, wPCons, wCget, wCput, wDispC, wLenSet, wTidx, Sx_len, wTupleT, wListL, wListT, ix50, ix51, ix52, ix53, ix54, ix30, ix31, ix32, wDisp, wDin, wDinS, wEqS, wEqB, wEqNS, wIsN, wInC, wOrdC, wInT, wInNT, wNinT, wNinNT, ix0, ix1,
  wOpt, tK_some, bK_some, bK_le, bK_lt, wGtI, wLtI, wLeI, wGeI, wModI, wFdivI, wMulI, wAddI, wSubI, wEqI, wNeI, wSlL, wSlN, wSlT, wSlS, wLenL, wLenT, wLenS, wIntT, wTupleN, wMin2, wAddNN, wAddLN, wAddNL, wAddLL, wAddTT, wAddSS, wMulN, wMulT, wMulS, fz_d, fz_n, fz_c, allD, put, truD, bName, bTup, bCons, bNil, wipeR,
  List.getElem?_cons_zero, List.getElem?_cons_succ, List.set_cons_zero, List.set_cons_succ, List.length_set, List.length_cons, List.length_nil, Option.map_some, Option.map_none, if_true, Bool.false_eq_true, if_false, Bool.not_true, Bool.not_false, List.map_cons, List.map_nil, true_and, and_true, Nat.reduceAdd, Nat.reduceLeDiff])
local macro_rules | `(tactic| walk_at "b") => `(tactic| simp (disch := assumption) only [ixB0, ixB1, ixB2, DL.subB0, DL.subB2, Option.bind_some, wDef0, wDef1, wDef2, wDef3, List.replicate, Nat.reduceSub, wSeq, wIf, wTb, wTr, wBin, wUn, wVar, wC, wCal, wCall, wCallK, wNil, wCons, wConsC, wLst, wTup, wNotT, wAndT, wOrT, wAnd, wOr, wNotE, wIfE, wChain, wNext, wSet, wSetC, wRet, wDrop, wAsg, wPar, wFor, wLc, wYes, wSl, wNoP, wPt, wRng1, wSrcA, wSrcS, wIsI, wIsI2, wCm, wMs, wRev, wPar3, wPar3k, wZipA, wZipLL, Option.bind_some, wDivm, wDget, wPNil, wPCons, wCget, wCput, wDispC, wLenSet, wTidx, Sx_len, wTupleT, wListL, wListT, ix50, ix51, ix52, ix53, ix54, ix30, ix31, ix32, wDisp, wDin, wDinS, wEqS, wEqB, wEqNS, wIsN, wInC, wOrdC, wInT, wInNT, wNinT, wNinNT, ix0, ix1,
  wOpt, tK_some, bK_some, bK_le, bK_lt, wGtI, wLtI, wLeI, wGeI, wModI, wFdivI, wMulI, wAddI, wSubI, wEqI, wNeI, wSlL, wSlN, wSlT, wSlS, wLenL, wLenT, wLenS, wIntT, wTupleN, wMin2, wAddNN, wAddLN, wAddNL, wAddLL, wAddTT, wAddSS, wMulN, wMulT, wMulS, fz_d, fz_n, fz_c, allD, put, truD, bName, bTup, bCons, bNil, wipeR,
  List.getElem?_cons_zero, List.getElem?_cons_succ, List.set_cons_zero, List.set_cons_succ, List.length_set, List.length_cons, List.length_nil, Option.map_some, Option.map_none, if_true, Bool.false_eq_true, if_false, Bool.not_true, Bool.not_false, List.map_cons, List.map_nil, true_and, and_true, Nat.reduceAdd, Nat.reduceLeDiff])
local macro_rules | `(tactic| walk_at "t") => `(tactic| (try walk_at "w"))
local macro_rules | `(tactic| walk_at "x") => `(tactic| simp (maxSteps := 4000000) only [wDef0, wDef1, wDef2, wDef3, List.replicate, Nat.reduceSub, wSeq, wIf, wTb, wTr, wBin, wUn, wVar, wC, wCal, wCall, wCallK, wNil, wCons, wConsC, wLst, wTup, wNotT, wAndT, wOrT, wAnd, wOr, wNotE, wIfE, wChain, wNext, wSet, wSetC, wRet, wDrop, wAsg, wPar, wFor, wLc, wYes, wSl, wNoP, wPt, wRng1, wSrcA, wSrcS, wIsI, wIsI2, wCm, wMs, wRev, wPar3, wPar3k, wZipA, wZipLL, Option.bind_some, wDivm, wDget, wPNil, wPCons, wCget, wCput, wDispC, wLenSet, wTidx, Sx_len, wTupleT, wListL, wListT, ix50, ix51, ix52, ix53, ix54, ix30, ix31, ix32, wDisp, wDin, wDinS, wEqS, wEqB, wEqNS, wIsN, wInC, wOrdC, wInT, wInNT, wNinT, wNinNT, ix0, ix1,
  wOpt, tK_some, bK_some, bK_le, bK_lt, wGtI, wLtI, wLeI, wGeI, wModI, wFdivI, wMulI, wAddI, wSubI, wEqI, wNeI, wSlL, wSlN, wSlT, wSlS, wLenL, wLenT, wLenS, wIntT, wTupleN, wMin2, wAddNN, wAddLN, wAddNL, wAddLL, wAddTT, wAddSS, wMulN, wMulT, wMulS, fz_d, fz_n, fz_c, allD, put, truD, bName, bTup, bCons, bNil, wipeR,
  List.getElem?_cons_zero, List.getElem?_cons_succ, List.set_cons_zero, List.set_cons_succ, List.length_set, List.length_cons, List.length_nil, Option.map_some, Option.map_none, if_true, Bool.false_eq_true, if_false, Bool.not_true, Bool.not_false, List.map_cons, List.map_nil, true_and, and_true, Nat.reduceAdd, Nat.reduceLeDiff])
section
variable {κ : Kap} {N : Nat} {d : PyData} {q : DV → Kap → Prop}
theorem strL_len (ks : List Str) : (strL ks).length = ks.length := List.length_map ..
theorem unlN_w (hk : KOk κ) {ks : List Str} (hl : ks.length < 4000) (h : q (.d (.bool (decide ks.Nodup))) κ) : wO (m_are_unlike [.d (.list (strL ks))] κ) q := by
  unfold m_are_unlike
  walk_at "w"
  rw [lenSetL hl]
  walk_at "w"
  rw [strL_len, once_beq]
  exact (finD0 (q := q) hk rfl).mpr h
theorem unlT_w (hk : KOk κ) {ps : List (List Str)} (hl : ps.length < 13) (h : q (.d (.bool (decide ps.Nodup))) κ) : wO (m_are_unlike [.d (.tuple (ps.map prD))] κ) q := by
  unfold m_are_unlike
  walk_at "w"
  rw [lenSetT hl]
  walk_at "w"
  rw [List.length_map, once_beq]
  exact (finD0 (q := q) hk rfl).mpr h
theorem unlP_w (hk : KOk κ) {ps : List (List Str)} (hl : ps.length < 13) (h : q (.d (.bool (decide ps.Nodup))) κ) : wO (m_are_unlike [.d (.list (ps.map prD))] κ) q := by
  unfold m_are_unlike
  walk_at "w"
  rw [lenSetP hl (x := .d (.list (ps.map prD))) rfl (by simp)]
  walk_at "w"
  rw [List.length_map, once_beq]
  exact (finD0 (q := q) hk rfl).mpr h
theorem sh_bnd {lo hi : Nat} {ds : List PyData} : isSh lo hi (.tuple ds) = decide (lo ≤ ds.length ∧ ds.length ≤ hi) := by
  rw [isSh, ← Bool.decide_and]
  exact decide_eq_decide.mpr ⟨fun h => by omega, fun h => by omega⟩
theorem isAds_no (e : isSh 1 4 d = false) : isAds d = false := by
  cases d with
  | tuple ds =>
    have e : isSh (1 : Nat) (4 : Nat) (.tuple ds) = false := e
    rw [sh_bnd] at e
    rw [isAds, e, Bool.false_and, Bool.false_and]
  | _ => rfl
theorem isAds_yes {ds : List PyData} (e : isSh 1 4 (.tuple ds) = true) : isAds (.tuple ds) = (ds.all isAd && unl2 ds) := by
  have e : isSh (1 : Nat) (4 : Nat) (.tuple ds) = true := e
  rw [sh_bnd] at e
  rw [isAds, e, Bool.true_and]
theorem ads_w (hk : KOk κ) (hd : gd N d = true) (hw : d.bulk ≤ 1000000) (h : q (.d (.bool (isAds d))) κ) : wO (m_are_addresses [.d d] κ) q := by
  unfold m_are_addresses
  walk_at "w"
  refine short_w (lo := 1) (hi := 4) hk hd ?_
  walk_at "w"
  cases e : isSh 1 4 d with
  | false =>
    rw [isAds_no e] at h
    rw [if_neg Bool.false_ne_true]
    exact (finD0 (q := q) hk rfl).mpr h
  | true =>
    obtain ⟨ds, rfl, l1, l2⟩ := isSh_ex e
    rw [isAds_yes e] at h
    rw [if_pos rfl]
    walk_at "w"
    refine lcAll (P := isAd) (fun x m => ⟨_, rfl, fun q hq => ?_⟩) (by omega) ?_
    · simp only [List.set_cons_succ, List.set_cons_zero]
      walk_at "w"
      exact addr_w hk (gd_mem hd m) (tup_bulk hw m) hq
    · walk_at "w"
      cases ea : ds.all isAd with
      | false =>
        rw [ea, Bool.false_and] at h
        rw [if_neg Bool.false_ne_true]
        exact (finD0 (q := q) hk rfl).mpr h
      | true =>
        rw [ea, Bool.true_and] at h
        rw [if_pos rfl]
        obtain ⟨ps, rfl⟩ := ads_prs ea
        rw [unl2_s] at h
        rw [List.length_map] at l2
        exact unlT_w hk (by omega) ((finD0 (q := q) hk rfl).mpr h)
/-! ### ways -/
theorem way_in {s : Str} : wO (opt κ (inD κ (.d (.str s)) (.d (.tuple [.str "plain", .str "marked", .str "packed"])))) q = q (.d (.bool (isWay (.str s)))) κ := wInT (xs := wys)
theorem wayN_lt {s : Str} (h : isWay (.str s) = true) : tidxF T_WAYS s = some (wayN s) := by
  have h : wys.any (· == s) = true := h
  simp only [List.any_cons, List.any_nil, Bool.or_false, Bool.or_eq_true, beq_iff_eq] at h
  rcases h with rfl | rfl | rfl <;> decide +kernel
def ltP : PyData → Bool
  | .tuple [.int a, .int b] => decide (a < b)
  | _ => false
theorem zip_rise : ∀ ns ms : List Nat, (zipD (ns.map fun n => PyData.int (n : Nat)) (ms.map fun n => PyData.int (n : Nat))).all ltP = (ns.zip ms).all fun p => decide (p.1 < p.2)
  | [], ms => by cases ms <;> rfl
  | n :: ns, [] => rfl
  | n :: ns, m :: ms => by
    rw [List.map_cons, List.map_cons, zipD, List.all_cons, List.zip_cons_cons, List.all_cons, zip_rise ns ms]
    congr 1
    exact decide_eq_decide.mpr Int.ofNat_lt
theorem zip_int : ∀ (ns ms : List Nat) (x : PyData), x ∈ zipD (ns.map fun n => PyData.int (n : Nat)) (ms.map fun n => PyData.int (n : Nat)) → ∃ a b : Int, x = .tuple [.int a, .int b]
  | [], ms, x, m => by cases ms <;> cases m
  | n :: ns, [], x, m => by cases m
  | n :: ns, k :: ms, x, m => by
    rw [List.map_cons, List.map_cons, zipD] at m
    rcases List.mem_cons.mp m with rfl | m
    · exact ⟨_, _, rfl⟩
    · exact zip_int ns ms x m
theorem zip_len : ∀ ns ms : List Nat, (zipD (ns.map fun n => PyData.int (n : Nat)) (ms.map fun n => PyData.int (n : Nat))).length ≤ ns.length
  | [], ms => by cases ms <;> exact Nat.le_refl _
  | n :: ns, [] => Nat.zero_le _
  | n :: ns, k :: ms => by
    rw [List.map_cons, List.map_cons, zipD, List.length_cons, List.length_cons]
    exact Nat.succ_le_succ (zip_len ns ms)
theorem isWays_no (e : isSh 1 3 d = false) : isWays d = false := by
  cases d with
  | tuple ds =>
    have e : isSh (1 : Nat) (3 : Nat) (.tuple ds) = false := e
    rw [sh_bnd] at e
    rw [isWays, e, Bool.false_and, Bool.false_and]
  | _ => rfl
theorem isWays_yes {ds : List PyData} (e : isSh 1 3 (.tuple ds) = true) : isWays (.tuple ds) = (ds.all isWay && riseD ds) := by
  have e : isSh (1 : Nat) (3 : Nat) (.tuple ds) = true := e
  rw [sh_bnd] at e
  rw [isWays, e, Bool.true_and]
theorem ways_strs : ∀ {ds : List PyData}, ds.all isWay = true → ∃ ks, ds = strL ks ∧ ∀ k ∈ ks, isWay (.str k) = true
  | [], _ => ⟨[], rfl, fun _ m => nomatch m⟩
  | x :: r, h => by
    rw [List.all_cons, Bool.and_eq_true] at h
    cases x with
    | str s =>
      obtain ⟨ks, rfl, hs⟩ := ways_strs h.2
      exact ⟨s :: ks, rfl, fun k m => by rcases List.mem_cons.mp m with rfl | m; exact h.1; exact hs k m⟩
    | _ => cases h.1
theorem ways_w (hk : KOk κ) (hd : gd N d = true) (hw : d.bulk ≤ 1000000) (h : q (.d (.bool (isWays d))) κ) : wO (m_are_ways [.d d] κ) q := by
  unfold m_are_ways
  walk_at "w"
  refine short_w (lo := 1) (hi := 3) hk hd ?_
  walk_at "w"
  cases e : isSh 1 3 d with
  | false =>
    rw [isWays_no e] at h
    walk_at "w"
    exact (finD0 (q := q) hk rfl).mpr h
  | true =>
    obtain ⟨ds, rfl, l1, l2⟩ := isSh_ex e
    rw [isWays_yes e] at h
    walk_at "w"
    refine lcAll (P := isWay) (fun x m => ⟨_, rfl, fun q hq => ?_⟩) (by omega) ?_
    · simp only [List.set_cons_succ, List.set_cons_zero]
      walk_at "w"
      refine ⟨isCell_gd (gd_mem hd m), ?_⟩
      cases x with
      | str s =>
        simp only [show isT "str" (dvD (DV.d (PyData.str s))) = true from rfl, if_true]
        walk_at "t"
        rw [way_in]
        exact hq
      | dict _ => have := gd_mem hd m; simp [gd] at this
      | _ => exact hq
    · walk_at "w"
      cases ea : ds.all isWay with
      | false =>
        rw [ea, Bool.false_and] at h
        walk_at "w"
        exact (finD0 (q := q) hk rfl).mpr h
      | true =>
        rw [ea, Bool.true_and] at h
        obtain ⟨ks, rfl, hks⟩ := ways_strs ea
        rw [riseD_s] at h
        rw [strL_len] at l2
        walk_at "w"
        refine lcPure (F := fun x => .int (wayN (sOf x))) (fun x m => ⟨_, rfl, fun q hq => ?_⟩) (by rw [strL_len]; simp; omega) ?_
        · obtain ⟨s, ms, rfl⟩ := List.mem_map.mp m
          simp only [List.set_cons_succ, List.set_cons_zero]
          walk_at "w"
          unfold tidxO
          dsimp only
          rw [wayN_lt (hks s ms)]
          exact hq
        · have e1 : (strL ks).map (fun x => PyData.int (wayN (sOf x))) = (ks.map wayN).map fun n => PyData.int (n : Nat) := by
            unfold strL; rw [List.map_map, List.map_map]; rfl
          rw [List.nil_append, e1]
          walk_at "w"
          have e2 : DL.cutD ((ks.map wayN).map fun n => PyData.int (n : Nat)) (some 1) none = ((ks.map wayN).tail).map fun n => PyData.int (n : Nat) := by
            cases ks with
            | nil => rfl
            | cons k r => rw [List.map_cons, List.map_cons, cut1]; rfl
          rw [e2]
          refine lcAll (P := ltP) (fun x m => ?_) ?_ ?_
          · obtain ⟨a, b, rfl⟩ := zip_int _ _ x m
            refine ⟨_, rfl, fun q hq => ?_⟩
            simp only [List.set_cons_succ, List.set_cons_zero]
            walk_at "w"
            exact hq
          · have := zip_len (ks.map wayN) ((ks.map wayN).tail)
            rw [List.length_map] at this
            omega
          · rw [zip_rise]
            walk_at "t"
            exact (finD0 (q := q) hk rfl).mpr h
end

end Law

namespace Law
open DL L2 PyProof.Rows PySem PySem.Spec
local macro_rules | `(tactic| walk_at "w") => `(tactic| simp only [wDef0, wDef1, wDef2, wDef3, List.replicate, Nat.reduceSub, wSeq, wIf, wTb, wTr, wBin, wUn, wVar, wC, wCal, wCall, wCallK, wNil, wCons, wConsC, wLst, wTup, wNotT, wAndT, wOrT, wAnd, wOr, wNotE, wIfE, wChain, wNext, wSet, wSetC, wRet, wDrop, wAsg, wPar, wFor, wLc, wYes, wSl, wNoP, wPt, wRng1, wSrcA, wSrcS, wIsI, wIsI2, wCm, wMs, wRev, wPar3, wPar3k, wZipA, wZipLL, Option.bind_some, wDivm, wDget, wPNil, wPCons, wCget, wCput, wDispC, wLenSet, wTidx, Sx_len, wTupleT, wListL, wListT, ix50, ix51, ix52, ix53, ix54, ix30, ix31, ix32, wDisp, wDin, wDinS, wEqS, wEqB, wEqNS, wIsN, wInC, wOrdC, wInT, wInNT, wNinT, wNinNT, ix0, ix1,
  wOpt, tK_some, bK_some, bK_le, bK_lt, wGtI, wLtI, wLeI, wGeI, wModI, wFdivI, wMulI, wAddI, wSubI, wEqI, wNeI, wSlL, wSlN, wSlT, wSlS, wLenL, wLenT, wLenS, wIntT, wTupleN, wMin2, wAddNN, wAddLN, wAddNL, wAddLL, wAddTT, wAddSS, wMulN, wMulT, wMulS, fz_d, fz_n, fz_c, allD, put, truD, bName, bTup, bCons, bNil, wipeR,
  List.getElem?_cons_zero, List.getElem?_cons_succ, List.set_cons_zero, List.set_cons_succ, List.length_set, List.length_cons, List.length_nil, Option.map_some, Option.map_none, if_true, Bool.false_eq_true, if_false, Bool.not_true, Bool.not_false, List.map_cons, List.map_nil, true_and, and_true, Nat.reduceAdd, Nat.reduceLeDiff])
local macro_rules | `(tactic| walk_at "b") => `(tactic| simp (disch := assumption) only [ixB0, ixB1, ixB2, DL.subB0, DL.subB2, Option.bind_some, wDef0, wDef1, wDef2, wDef3, List.replicate, Nat.reduceSub, wSeq, wIf, wTb, wTr, wBin, wUn, wVar, wC, wCal, wCall, wCallK, wNil, wCons, wConsC, wLst, wTup, wNotT, wAndT, wOrT, wAnd, wOr, wNotE, wIfE, wChain, wNext, wSet, wSetC, wRet, wDrop, wAsg, wPar, wFor, wLc, wYes, wSl, wNoP, wPt, wRng1, wSrcA, wSrcS, wIsI, wIsI2, wCm, wMs, wRev, wPar3, wPar3k, wZipA, wZipLL, Option.bind_some, wDivm, wDget, wPNil, wPCons, wCget, wCput, wDispC, wLenSet, wTidx, Sx_len, wTupleT, wListL, wListT, ix50, ix51, ix52, ix53, ix54, ix30, ix31, ix32, wDisp, wDin, wDinS, wEqS, wEqB, wEqNS, wIsN, wInC, wOrdC, wInT, wInNT, wNinT, wNinNT, ix0, ix1,
  wOpt, tK_some, bK_some, bK_le, bK_lt, wGtI, wLtI, wLeI, wGeI, wModI, wFdivI, wMulI, wAddI, wSubI, wEqI, wNeI, wSlL, wSlN, wSlT, wSlS, wLenL, wLenT, wLenS, wIntT, wTupleN, wMin2, wAddNN, wAddLN, wAddNL, wAddLL, wAddTT, wAddSS, wMulN, wMulT, wMulS, fz_d, fz_n, fz_c, allD, put, truD, bName, bTup, bCons, bNil, wipeR,
  List.getElem?_cons_zero, List.getElem?_cons_succ, List.set_cons_zero, List.set_cons_succ, List.length_set, List.length_cons, List.length_nil, Option.map_some, Option.map_none, if_true, Bool.false_eq_true, if_false, Bool.not_true, Bool.not_false, List.map_cons, List.map_nil, true_and, and_true, Nat.reduceAdd, Nat.reduceLeDiff])
local macro_rules | `(tactic| walk_at "t") => `(tactic| (try walk_at "w"))
local macro_rules | `(tactic| walk_at "x") => `(tactic| simp (maxSteps := 4000000) only [wDef0, wDef1, wDef2, wDef3, List.replicate, Nat.reduceSub, wSeq, wIf, wTb, wTr, wBin, wUn, wVar, wC, wCal, wCall, wCallK, wNil, wCons, wConsC, wLst, wTup, wNotT, wAndT, wOrT, wAnd, wOr, wNotE, wIfE, wChain, wNext, wSet, wSetC, wRet, wDrop, wAsg, wPar, wFor, wLc, wYes, wSl, wNoP, wPt, wRng1, wSrcA, wSrcS, wIsI, wIsI2, wCm, wMs, wRev, wPar3, wPar3k, wZipA, wZipLL, Option.bind_some, wDivm, wDget, wPNil, wPCons, wCget, wCput, wDispC, wLenSet, wTidx, Sx_len, wTupleT, wListL, wListT, ix50, ix51, ix52, ix53, ix54, ix30, ix31, ix32, wDisp, wDin, wDinS, wEqS, wEqB, wEqNS, wIsN, wInC, wOrdC, wInT, wInNT, wNinT, wNinNT, ix0, ix1,
  wOpt, tK_some, bK_some, bK_le, bK_lt, wGtI, wLtI, wLeI, wGeI, wModI, wFdivI, wMulI, wAddI, wSubI, wEqI, wNeI, wSlL, wSlN, wSlT, wSlS, wLenL, wLenT, wLenS, wIntT, wTupleN, wMin2, wAddNN, wAddLN, wAddNL, wAddLL, wAddTT, wAddSS, wMulN, wMulT, wMulS, fz_d, fz_n, fz_c, allD, put, truD, bName, bTup, bCons, bNil, wipeR,
  List.getElem?_cons_zero, List.getElem?_cons_succ, List.set_cons_zero, List.set_cons_succ, List.length_set, List.length_cons, List.length_nil, Option.map_some, Option.map_none, if_true, Bool.false_eq_true, if_false, Bool.not_true, Bool.not_false, List.map_cons, List.map_nil, true_and, and_true, Nat.reduceAdd, Nat.reduceLeDiff])
section
variable {κ : Kap} {N : Nat} {d : PyData} {q : DV → Kap → Prop}
theorem any_mem {x : Str} (ks : List Str) : (strL ks).any (fun z => PyData.eqv z (.str x)) = decide (x ∈ ks) := by
  induction ks with
  | nil => rfl
  | cons k r ih =>
    unfold strL at ih ⊢
    rw [List.map_cons, List.any_cons, ih]
    have : PyData.eqv (.str k) (.str x) = decide (x = k) := by
      by_cases e : x = k
      · subst e; simp [PyData.eqv]
      · have e' : ¬ k = x := fun z => e z.symm
        simp [PyData.eqv, e, e']
    rw [this, ← Bool.decide_or]
    exact decide_eq_decide.mpr List.mem_cons.symm
theorem wInLs {x : Str} {ks : List Str} : wO (opt κ (inD κ (.d (.str x)) (.d (.list (strL ks))))) q = q (.d (.bool (decide (x ∈ ks)))) κ := by
  have e : inD κ (.d (.str x)) (.d (.list (strL ks))) = some (.d (.bool (decide (x ∈ ks)))) := by
    unfold inD inDV
    simp only [show lv κ (.d (.list (strL ks))) = some (strL ks) from rfl]
    rw [if_pos ⟨rfl, flat_strL ks⟩, any_mem]; rfl
  rw [e]; exact propext Iff.rfl
theorem wNinLs {x : Str} {ks : List Str} : wO (opt κ (ninD κ (.d (.str x)) (.d (.list (strL ks))))) q = q (.d (.bool (!decide (x ∈ ks)))) κ := by
  have e : ninD κ (.d (.str x)) (.d (.list (strL ks))) = some (.d (.bool (!decide (x ∈ ks)))) := by
    unfold ninD inDV
    simp only [show lv κ (.d (.list (strL ks))) = some (strL ks) from rfl]
    rw [if_pos ⟨rfl, flat_strL ks⟩, any_mem]; rfl
  rw [e]; exact propext Iff.rfl
theorem isLists_no (e : isSh 0 3 d = false) : isLists d = false := by
  cases d with
  | tuple ds =>
    have e : isSh (0 : Nat) (3 : Nat) (.tuple ds) = false := e
    rw [sh_bnd] at e
    rw [isLists]
    have : decide (ds.length ≤ 3) = false := by rw [← e]; exact decide_eq_decide.mpr ⟨fun h => ⟨Nat.zero_le _, h⟩, fun h => h.2⟩
    rw [this, Bool.false_and]
  | _ => rfl
theorem isLists_yes {ds : List PyData} (e : isSh 0 3 (.tuple ds) = true) : isLists (.tuple ds) = ds.all isLst := by
  have e : isSh (0 : Nat) (3 : Nat) (.tuple ds) = true := e
  rw [sh_bnd] at e
  rw [isLists, decide_eq_true (of_decide_eq_true e).2, Bool.true_and]
theorem isLst_no (e : isTup 2 d = false) : isLst d = false := by
  unfold isLst
  split
  · simp [isTup] at e
  · rfl
theorem lists_w (hk : KOk κ) (hd : gd N d = true) (hw : d.bulk ≤ 1000000) (h : q (.d (.bool (isLists d))) κ) : wO (m_are_lists [.d d] κ) q := by
  unfold m_are_lists
  walk_at "w"
  refine short_w (lo := 0) (hi := 3) hk hd ?_
  walk_at "w"
  cases e : isSh 0 3 d with
  | false =>
    rw [isLists_no e] at h
    walk_at "w"
    exact (finD0 (q := q) hk rfl).mpr h
  | true =>
    obtain ⟨ds, rfl, l1, l2⟩ := isSh_ex e
    rw [isLists_yes e] at h
    walk_at "w"
    refine lcAll (P := isLst) (fun x m => ⟨_, rfl, fun q hq => ?_⟩) (by omega) ((finD0 (q := q) hk rfl).mpr h)
    have gx := gd_mem hd m
    have bx := tup_bulk hw m
    simp only [List.set_cons_succ, List.set_cons_zero]
    walk_at "w"
    refine tupOf_w (n := 2) hk gx ?_
    walk_at "w"
    cases e2 : isTup 2 x with
    | false =>
      rw [isLst_no e2] at hq
      rw [if_neg Bool.false_ne_true]
      exact hq
    | true =>
      obtain ⟨y, z, rfl⟩ := isTup_two e2
      obtain ⟨by', bz⟩ := pair_bulk bx
      rw [if_pos rfl]
      walk_at "w"
      refine name_w hk (gd_mem gx (by simp)) by' ?_
      walk_at "w"
      rw [isLst] at hq
      cases en : isN y with
      | false =>
        rw [en, Bool.false_and] at hq
        rw [if_neg Bool.false_ne_true]
        exact hq
      | true =>
        rw [en, Bool.true_and] at hq
        rw [if_pos rfl]
        exact ads_w hk (gd_mem gx (by simp)) bz hq
theorem isFolk_no (e : isSh 1 4 d = false) : isFolk d = false := by
  cases d with
  | tuple ds =>
    have e : isSh (1 : Nat) (4 : Nat) (.tuple ds) = false := e
    rw [sh_bnd] at e
    rw [isFolk, e, Bool.false_and]
  | _ => rfl
theorem isFolk_yes {ds : List PyData} (e : isSh 1 4 (.tuple ds) = true) : isFolk (.tuple ds) = ds.all isN := by
  have e : isSh (1 : Nat) (4 : Nat) (.tuple ds) = true := e
  rw [sh_bnd] at e
  rw [isFolk, e, Bool.true_and]
theorem isHouse_no (e : isTup 5 d = false) : isHouse d = false := by
  unfold isHouse
  split
  · simp [isTup] at e
  · rfl
theorem heads_lst : ∀ ls : List PyData, ls.all isLst = true → ls.map (fun x => PyData.str (hd1 x)) = strL (ls.map hd1)
  | ls, _ => by unfold strL; rw [List.map_map]; rfl
theorem called_L {p l : PyData} {ks : List Str} (hp : p = .tuple (strL ks)) : strL (called p l) = strL ks ++ (tl l).map fun x => PyData.str (hd1 x) := by
  subst hp
  unfold called
  rw [show tl (.tuple (strL ks)) = strL ks from rfl, sOf_strs]
  unfold strL
  rw [List.map_append, List.map_map]; rfl
theorem house_w (hk : KOk κ) (hd : gd N d = true) (hw : d.bulk ≤ 1000000) (h : q (.d (.bool (isHouse d))) κ) : wO (m_is_house [.d d] κ) q := by
  unfold m_is_house
  walk_at "w"
  refine tupOf_w (n := 5) hk hd ?_
  walk_at "w"
  cases e : isTup 5 d with
  | false =>
    rw [isHouse_no e] at h
    walk_at "w"
    exact (finD0 (q := q) hk rfl).mpr h
  | true =>
    obtain ⟨n, p, l, w, m, rfl⟩ := isTup_five e
    walk_at "w"
    have gs : ∀ x ∈ [n, p, l, w, m], gd N x = true ∧ x.bulk ≤ 1000000 := fun x mx => ⟨gd_mem hd mx, tup_bulk hw mx⟩
    simp only [List.forall_mem_cons] at gs
    obtain ⟨⟨gn, bn⟩, ⟨gp, bp⟩, ⟨gl, bl⟩, ⟨gw, bw⟩, ⟨gm, bm⟩, _⟩ := gs
    refine name_w hk gn bn ?_
    rw [isHouse] at h
    walk_at "w"
    cases en : isN n with
    | false =>
      simp only [en, Bool.false_and] at h
      walk_at "w"
      exact (finD0 (q := q) hk rfl).mpr h
    | true =>
      simp only [en, Bool.true_and] at h
      walk_at "w"
      have no : (d : PyData) → q (.d (.bool false)) κ → wO (fin κ.length (.rt (.d (.bool false)) κ)) q := fun _ h => (finD0 (q := q) hk rfl).mpr h
      refine short_w (lo := 1) (hi := 4) hk gp ?_
      walk_at "w"
      cases e1 : isSh 1 4 p with
      | false =>
        simp only [isFolk_no e1, Bool.false_and] at h
        walk_at "w"
        exact no .none h
      | true =>
        obtain ⟨ds, rfl, l1, l2⟩ := isSh_ex e1
        simp only [isFolk_yes e1] at h
        walk_at "w"
        refine lcAll (P := isN) (fun x mx => ⟨_, rfl, fun q hq => ?_⟩) (by omega) ?_
        · simp only [List.set_cons_succ, List.set_cons_zero]
          walk_at "w"
          exact name_w hk (gd_mem gp mx) (tup_bulk bp mx) hq
        walk_at "w"
        cases e2 : ds.all isN with
        | false =>
          simp only [e2, Bool.false_and] at h
          walk_at "w"
          exact no .none h
        | true =>
          simp only [e2, Bool.true_and] at h
          walk_at "w"
          refine lists_w hk gl bl ?_
          walk_at "w"
          cases e3 : isLists l with
          | false =>
            simp only [e3, Bool.false_and] at h
            walk_at "w"
            exact no .none h
          | true =>
            simp only [e3, Bool.true_and] at h
            walk_at "w"
            obtain ⟨ks, rfl⟩ := names_strs e2
            cases l with
            | tuple ls =>
              have e4 : ls.length ≤ 3 ∧ ls.all isLst = true := by
                rw [isLists, Bool.and_eq_true, decide_eq_true_eq] at e3; exact e3
              walk_at "w"
              refine lcPure (F := fun x => .str (hd1 x)) (fun x mx => ?_) (by have := e4.1; simp; omega) ?_
              · obtain ⟨s, a, rfl, _⟩ := isLst_ex (List.all_eq_true.mp e4.2 x mx)
                refine ⟨_, rfl, fun q hq => ?_⟩
                simp only [List.set_cons_succ, List.set_cons_zero]
                walk_at "w"
                exact hq
              · rw [List.nil_append]
                walk_at "w"
                rw [strL_len] at l2
                have lc : (called (.tuple (strL ks)) (.tuple ls)).length ≤ 7 := by
                  have h2 : (strL (called (.tuple (strL ks)) (.tuple ls))).length = ks.length + ls.length := by rw [called_L rfl, List.length_append, strL_len, List.length_map]; rfl
                  rw [strL_len] at h2
                  have := e4.1; omega
                have ec := called_L (p := .tuple (strL ks)) (l := .tuple ls) rfl
                rw [show tl (.tuple ls) = ls from rfl] at ec
                rw [← ec]
                refine ⟨by rw [strL_len, List.length_map]; omega, ?_⟩
                rw [wInLs]
                walk_at "w"
                cases e5 : decide (("post" : Str) ∈ called (.tuple (strL ks)) (.tuple ls)) with
                | true =>
                  simp only [e5, Bool.not_true, Bool.false_and] at h
                  walk_at "w"
                  exact no .none h
                | false =>
                  simp only [e5, Bool.not_false, Bool.true_and] at h
                  walk_at "w"
                  refine unlN_w hk (by omega) ?_
                  walk_at "w"
                  cases e6 : decide (called (.tuple (strL ks)) (.tuple ls)).Nodup with
                  | false =>
                    simp only [e6, Bool.false_and] at h
                    walk_at "w"
                    exact no .none h
                  | true =>
                    simp only [e6, Bool.true_and] at h
                    walk_at "w"
                    refine ways_w hk gw bw ?_
                    walk_at "w"
                    cases e7 : isWays w with
                    | false =>
                      simp only [e7, Bool.false_and] at h
                      walk_at "w"
                      exact no .none h
                    | true =>
                      simp only [e7, Bool.true_and] at h
                      walk_at "w"
                      exact within_w hk gm ((finD0 (q := q) hk rfl).mpr h)
            | _ => cases e3
end

end Law

namespace Law
open DL L2 PyProof.Rows PySem PySem.Spec
local macro_rules | `(tactic| walk_at "w") => `(tactic| simp only [wDef0, wDef1, wDef2, wDef3, List.replicate, Nat.reduceSub, wSeq, wIf, wTb, wTr, wBin, wUn, wVar, wC, wCal, wCall, wCallK, wNil, wCons, wConsC, wLst, wTup, wNotT, wAndT, wOrT, wAnd, wOr, wNotE, wIfE, wChain, wNext, wSet, wSetC, wRet, wDrop, wAsg, wPar, wFor, wLc, wYes, wSl, wNoP, wPt, wRng1, wSrcA, wSrcS, wIsI, wIsI2, wCm, wMs, wRev, wPar3, wPar3k, wZipA, wZipLL, Option.bind_some, wDivm, wDget, wPNil, wPCons, wCget, wCput, wDispC, wLenSet, wTidx, Sx_len, wTupleT, wListL, wListT, ix50, ix51, ix52, ix53, ix54, ix30, ix31, ix32, wDisp, wDin, wDinS, wEqS, wEqB, wEqNS, wIsN, wInC, wOrdC, wInT, wInNT, wNinT, wNinNT, ix0, ix1,
  wOpt, tK_some, bK_some, bK_le, bK_lt, wGtI, wLtI, wLeI, wGeI, wModI, wFdivI, wMulI, wAddI, wSubI, wEqI, wNeI, wSlL, wSlN, wSlT, wSlS, wLenL, wLenT, wLenS, wIntT, wTupleN, wMin2, wAddNN, wAddLN, wAddNL, wAddLL, wAddTT, wAddSS, wMulN, wMulT, wMulS, fz_d, fz_n, fz_c, allD, put, truD, bName, bTup, bCons, bNil, wipeR,
  List.getElem?_cons_zero, List.getElem?_cons_succ, List.set_cons_zero, List.set_cons_succ, List.length_set, List.length_cons, List.length_nil, Option.map_some, Option.map_none, if_true, Bool.false_eq_true, if_false, Bool.not_true, Bool.not_false, List.map_cons, List.map_nil, true_and, and_true, Nat.reduceAdd, Nat.reduceLeDiff])
local macro_rules | `(tactic| walk_at "b") => `(tactic| simp (disch := assumption) only [ixB0, ixB1, ixB2, DL.subB0, DL.subB2, Option.bind_some, wDef0, wDef1, wDef2, wDef3, List.replicate, Nat.reduceSub, wSeq, wIf, wTb, wTr, wBin, wUn, wVar, wC, wCal, wCall, wCallK, wNil, wCons, wConsC, wLst, wTup, wNotT, wAndT, wOrT, wAnd, wOr, wNotE, wIfE, wChain, wNext, wSet, wSetC, wRet, wDrop, wAsg, wPar, wFor, wLc, wYes, wSl, wNoP, wPt, wRng1, wSrcA, wSrcS, wIsI, wIsI2, wCm, wMs, wRev, wPar3, wPar3k, wZipA, wZipLL, Option.bind_some, wDivm, wDget, wPNil, wPCons, wCget, wCput, wDispC, wLenSet, wTidx, Sx_len, wTupleT, wListL, wListT, ix50, ix51, ix52, ix53, ix54, ix30, ix31, ix32, wDisp, wDin, wDinS, wEqS, wEqB, wEqNS, wIsN, wInC, wOrdC, wInT, wInNT, wNinT, wNinNT, ix0, ix1,
  wOpt, tK_some, bK_some, bK_le, bK_lt, wGtI, wLtI, wLeI, wGeI, wModI, wFdivI, wMulI, wAddI, wSubI, wEqI, wNeI, wSlL, wSlN, wSlT, wSlS, wLenL, wLenT, wLenS, wIntT, wTupleN, wMin2, wAddNN, wAddLN, wAddNL, wAddLL, wAddTT, wAddSS, wMulN, wMulT, wMulS, fz_d, fz_n, fz_c, allD, put, truD, bName, bTup, bCons, bNil, wipeR,
  List.getElem?_cons_zero, List.getElem?_cons_succ, List.set_cons_zero, List.set_cons_succ, List.length_set, List.length_cons, List.length_nil, Option.map_some, Option.map_none, if_true, Bool.false_eq_true, if_false, Bool.not_true, Bool.not_false, List.map_cons, List.map_nil, true_and, and_true, Nat.reduceAdd, Nat.reduceLeDiff])
local macro_rules | `(tactic| walk_at "t") => `(tactic| (try walk_at "w"))
local macro_rules | `(tactic| walk_at "x") => `(tactic| simp (maxSteps := 4000000) only [wDef0, wDef1, wDef2, wDef3, List.replicate, Nat.reduceSub, wSeq, wIf, wTb, wTr, wBin, wUn, wVar, wC, wCal, wCall, wCallK, wNil, wCons, wConsC, wLst, wTup, wNotT, wAndT, wOrT, wAnd, wOr, wNotE, wIfE, wChain, wNext, wSet, wSetC, wRet, wDrop, wAsg, wPar, wFor, wLc, wYes, wSl, wNoP, wPt, wRng1, wSrcA, wSrcS, wIsI, wIsI2, wCm, wMs, wRev, wPar3, wPar3k, wZipA, wZipLL, Option.bind_some, wDivm, wDget, wPNil, wPCons, wCget, wCput, wDispC, wLenSet, wTidx, Sx_len, wTupleT, wListL, wListT, ix50, ix51, ix52, ix53, ix54, ix30, ix31, ix32, wDisp, wDin, wDinS, wEqS, wEqB, wEqNS, wIsN, wInC, wOrdC, wInT, wInNT, wNinT, wNinNT, ix0, ix1,
  wOpt, tK_some, bK_some, bK_le, bK_lt, wGtI, wLtI, wLeI, wGeI, wModI, wFdivI, wMulI, wAddI, wSubI, wEqI, wNeI, wSlL, wSlN, wSlT, wSlS, wLenL, wLenT, wLenS, wIntT, wTupleN, wMin2, wAddNN, wAddLN, wAddNL, wAddLL, wAddTT, wAddSS, wMulN, wMulT, wMulS, fz_d, fz_n, fz_c, allD, put, truD, bName, bTup, bCons, bNil, wipeR,
  List.getElem?_cons_zero, List.getElem?_cons_succ, List.set_cons_zero, List.set_cons_succ, List.length_set, List.length_cons, List.length_nil, Option.map_some, Option.map_none, if_true, Bool.false_eq_true, if_false, Bool.not_true, Bool.not_false, List.map_cons, List.map_nil, true_and, and_true, Nat.reduceAdd, Nat.reduceLeDiff])
section
variable {κ : Kap} {N : Nat} {d : PyData} {q : DV → Kap → Prop}
theorem isLink_no {ks : List Str} (e : isTup 3 d = false) : isLink ks d = false := by
  unfold isLink
  split
  · simp [isTup] at e
  · rfl
theorem isLink_tri {ks : List Str} {x y z : PyData} (hx : isN x = false ∨ isN y = false ∨ isNum z = false) : isLink ks (.tuple [x, y, z]) = false := by
  unfold isLink
  split
  · rename_i a b c e
    cases e
    rcases hx with e | e | e
    · rw [e, Bool.false_and, Bool.false_and, Bool.false_and, Bool.false_and, Bool.false_and]
    · rw [e, Bool.and_false, Bool.false_and, Bool.false_and, Bool.false_and, Bool.false_and]
    · have : isIn 1 4 z = false := by
        cases z with
        | int i => cases e
        | _ => rfl
      rw [this, Bool.and_false, Bool.false_and, Bool.false_and, Bool.false_and]
  · rfl
theorem link_w (hk : KOk κ) {ks : List Str} (hd : gd N d = true) (hw : d.bulk ≤ 1000000) (h : q (.d (.bool (isLink ks d))) κ) : wO (m_is_link [.d d, .d (.list (strL ks))] κ) q := by
  unfold m_is_link
  walk_at "w"
  have no : (d : PyData) → q (.d (.bool false)) κ → wO (fin κ.length (.rt (.d (.bool false)) κ)) q := fun _ h => (finD0 (q := q) hk rfl).mpr h
  refine tupOf_w (n := 3) hk hd ?_
  walk_at "w"
  cases e : isTup 3 d with
  | false =>
    rw [isLink_no e] at h
    walk_at "w"
    exact no .none h
  | true =>
    obtain ⟨x, y, z, rfl⟩ := isTup_three e
    have gs : ∀ u ∈ [x, y, z], gd N u = true ∧ u.bulk ≤ 1000000 := fun u mu => ⟨gd_mem hd mu, tup_bulk hw mu⟩
    simp only [List.forall_mem_cons] at gs
    obtain ⟨⟨gx, bx⟩, ⟨gy, by'⟩, ⟨gz, bz⟩, _⟩ := gs
    walk_at "w"
    refine name_w hk gx bx ?_
    walk_at "w"
    cases ex : isN x with
    | false =>
      rw [isLink_tri (.inl ex)] at h
      walk_at "w"
      exact no .none h
    | true =>
      walk_at "w"
      refine name_w hk gy by' ?_
      walk_at "w"
      cases ey : isN y with
      | false =>
        rw [isLink_tri (.inr (.inl ey))] at h
        walk_at "w"
        exact no .none h
      | true =>
        walk_at "w"
        refine num_w hk gz ?_
        walk_at "w"
        cases ez : isNum z with
        | false =>
          rw [isLink_tri (.inr (.inr ez))] at h
          walk_at "w"
          exact no .none h
        | true =>
          obtain ⟨a, rfl⟩ := isN_ex ex
          obtain ⟨b, rfl⟩ := isN_ex ey
          cases z with
          | int i =>
            have e0 : isLink ks (.tuple [.str a, .str b, .int i]) = (isIn 1 4 (.int i) && decide (a ∈ ks) && decide (b ∈ ks) && !(a == b)) := by
              rw [isLink, ex, ey, Bool.true_and, Bool.true_and]
            rw [e0] at h
            walk_at "w"
            rw [wInLs]
            walk_at "w"
            cases e1 : decide (a ∈ ks) with
            | false =>
              simp only [e1, Bool.and_false, Bool.false_and] at h
              rw [if_neg Bool.false_ne_true]
              exact no .none h
            | true =>
              simp only [e1, Bool.and_true] at h
              rw [if_pos rfl]
              walk_at "t"
              rw [wInLs]
              walk_at "w"
              cases e2 : decide (b ∈ ks) with
              | false =>
                simp only [e2, Bool.and_false, Bool.false_and] at h
                rw [if_neg Bool.false_ne_true]
                exact no .none h
              | true =>
                simp only [e2, Bool.and_true] at h
                rw [if_pos rfl]
                walk_at "t"
                rw [wNeS]
                walk_at "t"
                cases e3 : a == b with
                | true =>
                  simp only [e3, Bool.not_true, Bool.and_false] at h
                  walk_at "w"
                  exact no .none h
                | false =>
                  simp only [e3, Bool.not_false, Bool.and_true] at h
                  walk_at "w"
                  rw [isIn] at h
                  split
                  · rename_i g
                    rw [decide_eq_true g, Bool.true_and] at h
                    exact (finD0 (q := q) hk rfl).mpr h
                  · rename_i g
                    rw [decide_eq_false g, Bool.false_and] at h
                    exact no .none h
          | _ => cases ez
theorem hnames_w (hk : KOk κ) {hs : List PyData} {b : PyData} (hh : hs.all isHouse = true) (hl : hs.length ≤ 1000) (h : q (.n (strL (hs.map hd1))) κ) : wO (m_house_names [.d (.tuple [.tuple hs, b])] κ) q := by
  unfold m_house_names
  walk_at "w"
  refine lcPure (F := fun x => .str (hd1 x)) (fun x mx => ?_) (by simp; omega) ?_
  · obtain ⟨n, p, l, w, m, rfl, _⟩ := isHouse_ex (List.all_eq_true.mp hh x mx)
    refine ⟨_, rfl, fun q hq => ?_⟩
    simp only [List.set_cons_succ, List.set_cons_zero]
    walk_at "w"
    exact hq
  · rw [List.nil_append, show hs.map (fun x => PyData.str (hd1 x)) = strL (hs.map hd1) by unfold strL; rw [List.map_map]; rfl]
    exact (finN0 (q := q) hk rfl).mpr h
theorem isPlan_no (h : isTup 2 d = false ∨ ∃ a b, d = .tuple [a, b] ∧ (isSh 1 5 a = false ∨ isSh 0 8 b = false)) : isPlan d = false := by
  unfold isPlan
  split
  · rename_i hs ls
    rcases h with e | ⟨a, b, e, h⟩
    · simp [isTup] at e
    · cases e
      rcases h with h | h
      · have e : isSh (1 : Nat) (5 : Nat) (.tuple hs) = false := h
        rw [sh_bnd] at e
        rw [e, Bool.false_and, Bool.false_and, Bool.false_and, Bool.false_and, Bool.false_and]
      · have e : isSh (0 : Nat) (8 : Nat) (.tuple ls) = false := h
        rw [sh_bnd] at e
        have : decide (ls.length ≤ 8) = false := by rw [← e]; exact decide_eq_decide.mpr ⟨fun h => ⟨Nat.zero_le _, h⟩, fun h => h.2⟩
        rw [this, Bool.and_false, Bool.false_and, Bool.false_and]
  · rfl
theorem isPlan_h {hs : List PyData} {b : PyData} (e : isSh 1 5 (.tuple hs) = true) (hh : hs.all isHouse = false ∨ decide (hs.map hd1).Nodup = false) : isPlan (.tuple [.tuple hs, b]) = false := by
  cases b with
  | tuple ls =>
    rw [isPlan]
    rcases hh with h | h
    · rw [h, Bool.and_false, Bool.false_and, Bool.false_and, Bool.false_and, Bool.false_and]
    · rw [h, Bool.and_false, Bool.false_and, Bool.false_and, Bool.false_and]
  | _ => rfl
theorem isPlan_yes {hs ls : List PyData} (e1 : isSh 1 5 (.tuple hs) = true) (e2 : hs.all isHouse = true) (e3 : decide (hs.map hd1).Nodup = true) (e4 : isSh 0 8 (.tuple ls) = true) : isPlan (.tuple [.tuple hs, .tuple ls]) = (ls.all (isLink (hs.map hd1)) && decide (ls.map prOf).Nodup) := by
  have e1 : isSh (1 : Nat) (5 : Nat) (.tuple hs) = true := e1
  have e4 : isSh (0 : Nat) (8 : Nat) (.tuple ls) = true := e4
  rw [sh_bnd] at e1 e4
  rw [isPlan, e1, e2, e3, decide_eq_true (of_decide_eq_true e4).2, Bool.true_and, Bool.true_and, Bool.true_and, Bool.true_and]
theorem sort_tx {κ : Kap} {q : DV → Kap → Prop} {ks : List Str} (hl : ks.length ≤ 4000) : wO (opt κ (sortTxD κ [.d (.tuple (strL ks))])) q = q (.n (strL (sortS ks))) κ := by
  have e : sortTxD κ [.d (.tuple (strL ks))] = some (.n (strL (sortS ks))) := by
    unfold sortTxD
    simp only [show seqD κ (.d (.tuple (strL ks))) = some (strL ks) from rfl, Option.bind_some, strsD_L]
    rw [if_pos hl]; rfl
  rw [e]; exact propext Iff.rfl
theorem plan_w (hk : KOk κ) (hd : gd N d = true) (hw : d.bulk ≤ 1000000) (h : q (.d (.bool (isPlan d))) κ) : wO (m_is_plan [.d d] κ) q := by
  unfold m_is_plan
  walk_at "w"
  have no : (d : PyData) → q (.d (.bool false)) κ → wO (fin κ.length (.rt (.d (.bool false)) κ)) q := fun _ h => (finD0 (q := q) hk rfl).mpr h
  refine tupOf_w (n := 2) hk hd ?_
  walk_at "w"
  cases e : isTup 2 d with
  | false =>
    rw [isPlan_no (.inl e)] at h
    walk_at "w"
    exact no .none h
  | true =>
    obtain ⟨a, b, rfl⟩ := isTup_two e
    obtain ⟨ba, bb⟩ := pair_bulk hw
    have ga : gd N a = true := gd_mem hd (by simp)
    have gb : gd N b = true := gd_mem hd (by simp)
    walk_at "w"
    refine short_w (lo := 1) (hi := 5) hk ga ?_
    walk_at "w"
    cases e1 : isSh 1 5 a with
    | false =>
      rw [isPlan_no (.inr ⟨a, b, rfl, .inl e1⟩)] at h
      walk_at "w"
      exact no .none h
    | true =>
      obtain ⟨hs, rfl, l1, l2⟩ := isSh_ex e1
      walk_at "w"
      refine lcAll (P := isHouse) (fun x mx => ⟨_, rfl, fun q hq => ?_⟩) (by omega) ?_
      · simp only [List.set_cons_succ, List.set_cons_zero]
        walk_at "w"
        exact house_w hk (gd_mem ga mx) (tup_bulk ba mx) hq
      walk_at "w"
      cases e2 : hs.all isHouse with
      | false =>
        rw [isPlan_h e1 (.inl e2)] at h
        walk_at "w"
        exact no .none h
      | true =>
        walk_at "w"
        refine hnames_w hk e2 (by omega) ?_
        walk_at "w"
        refine unlN_w hk (by rw [List.length_map]; omega) ?_
        walk_at "w"
        cases e3 : decide (hs.map hd1).Nodup with
        | false =>
          rw [isPlan_h e1 (.inr e3)] at h
          walk_at "w"
          exact no .none h
        | true =>
          walk_at "w"
          refine short_w (lo := 0) (hi := 8) hk gb ?_
          walk_at "w"
          cases e4 : isSh 0 8 b with
          | false =>
            rw [isPlan_no (.inr ⟨_, b, rfl, .inr e4⟩)] at h
            walk_at "w"
            exact no .none h
          | true =>
            obtain ⟨ls, rfl, l3, l4⟩ := isSh_ex e4
            rw [isPlan_yes e1 e2 e3 e4] at h
            walk_at "w"
            refine lcAll (P := isLink (hs.map hd1)) (fun x mx => ⟨_, rfl, fun q hq => ?_⟩) (by omega) ?_
            · simp only [List.set_cons_succ, List.set_cons_zero]
              walk_at "w"
              exact link_w hk (gd_mem gb mx) (tup_bulk bb mx) hq
            walk_at "w"
            cases e5 : ls.all (isLink (hs.map hd1)) with
            | false =>
              rw [e5, Bool.false_and] at h
              walk_at "w"
              exact no .none h
            | true =>
              rw [e5, Bool.true_and] at h
              walk_at "w"
              refine lcPure (F := fun x => prD (prOf x)) (fun x mx => ?_) (by simp; omega) ?_
              · obtain ⟨s, t, c, rfl, _⟩ := isLink_ex (List.all_eq_true.mp e5 x mx)
                refine ⟨_, rfl, fun q hq => ?_⟩
                simp only [List.set_cons_succ, List.set_cons_zero]
                walk_at "w"
                rw [show DL.cutD [PyData.str s, PyData.str t, c] none (some 2) = strL [s, t] from rfl, sort_tx (by simp)]
                walk_at "w"
                exact hq
              · rw [List.nil_append, show ls.map (fun x => prD (prOf x)) = (ls.map prOf).map prD by rw [List.map_map]; rfl]
                walk_at "w"
                exact unlP_w hk (by rw [List.length_map]; omega) ((finD0 (q := q) hk rfl).mpr h)
end

end Law

namespace Law
open DL L2 PyProof.Rows PySem PySem.Spec
local macro_rules | `(tactic| walk_at "w") => `(tactic| simp only [wDef0, wDef1, wDef2, wDef3, List.replicate, Nat.reduceSub, wSeq, wIf, wTb, wTr, wBin, wUn, wVar, wC, wCal, wCall, wCallK, wNil, wCons, wConsC, wLst, wTup, wNotT, wAndT, wOrT, wAnd, wOr, wNotE, wIfE, wChain, wNext, wSet, wSetC, wRet, wDrop, wAsg, wPar, wFor, wLc, wYes, wSl, wNoP, wPt, wRng1, wSrcA, wSrcS, wIsI, wIsI2, wCm, wMs, wRev, wPar3, wPar3k, wZipA, wZipLL, Option.bind_some, wDivm, wDget, wPNil, wPCons, wCget, wCput, wDispC, wLenSet, wTidx, Sx_len, wTupleT, wListL, wListT, ix50, ix51, ix52, ix53, ix54, ix30, ix31, ix32, wDisp, wDin, wDinS, wEqS, wEqB, wEqNS, wIsN, wInC, wOrdC, wInT, wInNT, wNinT, wNinNT, ix0, ix1,
  wOpt, tK_some, bK_some, bK_le, bK_lt, wGtI, wLtI, wLeI, wGeI, wModI, wFdivI, wMulI, wAddI, wSubI, wEqI, wNeI, wSlL, wSlN, wSlT, wSlS, wLenL, wLenT, wLenS, wIntT, wTupleN, wMin2, wAddNN, wAddLN, wAddNL, wAddLL, wAddTT, wAddSS, wMulN, wMulT, wMulS, fz_d, fz_n, fz_c, allD, put, truD, bName, bTup, bCons, bNil, wipeR,
  List.getElem?_cons_zero, List.getElem?_cons_succ, List.set_cons_zero, List.set_cons_succ, List.length_set, List.length_cons, List.length_nil, Option.map_some, Option.map_none, if_true, Bool.false_eq_true, if_false, Bool.not_true, Bool.not_false, List.map_cons, List.map_nil, true_and, and_true, Nat.reduceAdd, Nat.reduceLeDiff])
local macro_rules | `(tactic| walk_at "b") => `(tactic| simp (disch := assumption) only [ixB0, ixB1, ixB2, DL.subB0, DL.subB2, Option.bind_some, wDef0, wDef1, wDef2, wDef3, List.replicate, Nat.reduceSub, wSeq, wIf, wTb, wTr, wBin, wUn, wVar, wC, wCal, wCall, wCallK, wNil, wCons, wConsC, wLst, wTup, wNotT, wAndT, wOrT, wAnd, wOr, wNotE, wIfE, wChain, wNext, wSet, wSetC, wRet, wDrop, wAsg, wPar, wFor, wLc, wYes, wSl, wNoP, wPt, wRng1, wSrcA, wSrcS, wIsI, wIsI2, wCm, wMs, wRev, wPar3, wPar3k, wZipA, wZipLL, Option.bind_some, wDivm, wDget, wPNil, wPCons, wCget, wCput, wDispC, wLenSet, wTidx, Sx_len, wTupleT, wListL, wListT, ix50, ix51, ix52, ix53, ix54, ix30, ix31, ix32, wDisp, wDin, wDinS, wEqS, wEqB, wEqNS, wIsN, wInC, wOrdC, wInT, wInNT, wNinT, wNinNT, ix0, ix1,
  wOpt, tK_some, bK_some, bK_le, bK_lt, wGtI, wLtI, wLeI, wGeI, wModI, wFdivI, wMulI, wAddI, wSubI, wEqI, wNeI, wSlL, wSlN, wSlT, wSlS, wLenL, wLenT, wLenS, wIntT, wTupleN, wMin2, wAddNN, wAddLN, wAddNL, wAddLL, wAddTT, wAddSS, wMulN, wMulT, wMulS, fz_d, fz_n, fz_c, allD, put, truD, bName, bTup, bCons, bNil, wipeR,
  List.getElem?_cons_zero, List.getElem?_cons_succ, List.set_cons_zero, List.set_cons_succ, List.length_set, List.length_cons, List.length_nil, Option.map_some, Option.map_none, if_true, Bool.false_eq_true, if_false, Bool.not_true, Bool.not_false, List.map_cons, List.map_nil, true_and, and_true, Nat.reduceAdd, Nat.reduceLeDiff])
local macro_rules | `(tactic| walk_at "t") => `(tactic| (try walk_at "w"))
local macro_rules | `(tactic| walk_at "x") => `(tactic| simp (maxSteps := 4000000) only [wDef0, wDef1, wDef2, wDef3, List.replicate, Nat.reduceSub, wSeq, wIf, wTb, wTr, wBin, wUn, wVar, wC, wCal, wCall, wCallK, wNil, wCons, wConsC, wLst, wTup, wNotT, wAndT, wOrT, wAnd, wOr, wNotE, wIfE, wChain, wNext, wSet, wSetC, wRet, wDrop, wAsg, wPar, wFor, wLc, wYes, wSl, wNoP, wPt, wRng1, wSrcA, wSrcS, wIsI, wIsI2, wCm, wMs, wRev, wPar3, wPar3k, wZipA, wZipLL, Option.bind_some, wDivm, wDget, wPNil, wPCons, wCget, wCput, wDispC, wLenSet, wTidx, Sx_len, wTupleT, wListL, wListT, ix50, ix51, ix52, ix53, ix54, ix30, ix31, ix32, wDisp, wDin, wDinS, wEqS, wEqB, wEqNS, wIsN, wInC, wOrdC, wInT, wInNT, wNinT, wNinNT, ix0, ix1,
  wOpt, tK_some, bK_some, bK_le, bK_lt, wGtI, wLtI, wLeI, wGeI, wModI, wFdivI, wMulI, wAddI, wSubI, wEqI, wNeI, wSlL, wSlN, wSlT, wSlS, wLenL, wLenT, wLenS, wIntT, wTupleN, wMin2, wAddNN, wAddLN, wAddNL, wAddLL, wAddTT, wAddSS, wMulN, wMulT, wMulS, fz_d, fz_n, fz_c, allD, put, truD, bName, bTup, bCons, bNil, wipeR,
  List.getElem?_cons_zero, List.getElem?_cons_succ, List.set_cons_zero, List.set_cons_succ, List.length_set, List.length_cons, List.length_nil, Option.map_some, Option.map_none, if_true, Bool.false_eq_true, if_false, Bool.not_true, Bool.not_false, List.map_cons, List.map_nil, true_and, and_true, Nat.reduceAdd, Nat.reduceLeDiff])
section
variable {κ l : Kap} {i j : Nat} {q Q : DV → Kap → Prop} {d : PyData} {v : Sv} {T : Int}
theorem take_w (h : In2 i j κ) (hv : Tn T v) (hT : T ≤ 2 ^ 50) {s : Int} (hs : 0 < s ∧ s < 1073741824) (hq : ∀ (x : Int) (v' : Sv), 0 ≤ x → x < s → Tn (T + 1) v' → q (.d (.int x)) (Sx i j κ v')) : wO (m__law_take [.c j, .d (.int s)] (Sx i j κ v)) q := by
  unfold m__law_take
  walk_at "w"
  rw [wCgT h]
  walk_at "w"
  rw [wCpT h]
  walk_at "w"
  rw [wCgC h]
  walk_at "w"
  rw [wLenCs h]
  walk_at "w"
  have c0 : 0 < (v.cs.length : Int) := by have := hv.cs; cases e : v.cs with
    | nil => exact absurd e this
    | cons a r => rw [List.length_cons]; omega
  have t0 := hv.t0
  have t1 := hv.t1
  refine ⟨c0, ?_⟩
  rw [wCgC h]
  have k0 := Int.emod_nonneg (v.t + 1) (show (v.cs.length : Int) ≠ 0 by omega)
  have k1 := Int.emod_lt_of_pos (v.t + 1) c0
  generalize hk : (v.t + 1) % (v.cs.length : Int) = k at k0 k1 ⊢
  have kl : k.toNat < v.cs.length := by omega
  rw [ixCs (v := ⟨v.cs, v.t + 1⟩) h k0 k1 (List.getElem?_eq_getElem kl)]
  generalize hc : v.cs[k.toNat] = c
  walk_at "w"
  rw [wPowI]
  refine ⟨by decide, ?_⟩
  walk_at "w"
  split
  · refine ⟨hs, ?_⟩
    rw [setCs (v := ⟨v.cs, v.t + 1⟩) h (s := 0) (n := 3) k0 k1 rfl rfl]
    walk_at "w"
    rw [finS h]
    refine hq _ _ (Int.emod_nonneg _ (by omega)) (Int.emod_lt_of_pos _ hs.1) ⟨?_, by dsimp only; omega, by dsimp only; omega⟩
    intro e
    have := congrArg List.length e
    rw [List.length_set, List.length_nil] at this
    omega
  · have m1 := fun x : Int => Int.emod_nonneg x (show (2147483647 : Int) ≠ 0 by decide)
    have m2 := fun x : Int => Int.emod_lt_of_pos x (show (0 : Int) < 2147483647 by decide)
    refine ⟨by decide, by decide, by decide, .inr (by decide), .inl ⟨by omega, by omega⟩, .inr (by decide), .inr (by decide), by decide, .inl ⟨by have := m1 ((c % 2147483629 + c / 2147483629 % 40009 * 977 + (v.t + 1) * (v.t + 1) * 6007 + 29) * 48271); omega, by have := m2 ((c % 2147483629 + c / 2147483629 % 40009 * 977 + (v.t + 1) * (v.t + 1) * 6007 + 29) * 48271); omega⟩, by decide, .inr (by decide), .inr (by decide), by decide, by decide, hs.1, ?_⟩
    rw [finS h]
    exact hq _ _ (Int.emod_nonneg _ (by omega)) (Int.emod_lt_of_pos _ hs.1) ⟨hv.cs, by dsimp only; omega, by dsimp only; omega⟩
end

end Law

namespace Law
open DL L2 PyProof.Rows PySem PySem.Spec
local macro_rules | `(tactic| walk_at "w") => `(tactic| simp only [wDef0, wDef1, wDef2, wDef3, List.replicate, Nat.reduceSub, wSeq, wIf, wTb, wTr, wBin, wUn, wVar, wC, wCal, wCall, wCallK, wNil, wCons, wConsC, wLst, wTup, wNotT, wAndT, wOrT, wAnd, wOr, wNotE, wIfE, wChain, wNext, wSet, wSetC, wRet, wDrop, wAsg, wPar, wFor, wLc, wYes, wSl, wNoP, wPt, wRng1, wSrcA, wSrcS, wIsI, wIsI2, wCm, wMs, wRev, wPar3, wPar3k, wZipA, wZipLL, Option.bind_some, wDivm, wDget, wPNil, wPCons, wCget, wCput, wDispC, wLenSet, wTidx, Sx_len, wTupleT, wListL, wListT, ix50, ix51, ix52, ix53, ix54, ix30, ix31, ix32, wDisp, wDin, wDinS, wEqS, wEqB, wEqNS, wIsN, wInC, wOrdC, wInT, wInNT, wNinT, wNinNT, ix0, ix1,
  wOpt, tK_some, bK_some, bK_le, bK_lt, wGtI, wLtI, wLeI, wGeI, wModI, wFdivI, wMulI, wAddI, wSubI, wEqI, wNeI, wSlL, wSlN, wSlT, wSlS, wLenL, wLenT, wLenS, wIntT, wTupleN, wMin2, wAddNN, wAddLN, wAddNL, wAddLL, wAddTT, wAddSS, wMulN, wMulT, wMulS, fz_d, fz_n, fz_c, allD, put, truD, bName, bTup, bCons, bNil, wipeR,
  List.getElem?_cons_zero, List.getElem?_cons_succ, List.set_cons_zero, List.set_cons_succ, List.length_set, List.length_cons, List.length_nil, Option.map_some, Option.map_none, if_true, Bool.false_eq_true, if_false, Bool.not_true, Bool.not_false, List.map_cons, List.map_nil, true_and, and_true, Nat.reduceAdd, Nat.reduceLeDiff])
local macro_rules | `(tactic| walk_at "b") => `(tactic| simp (disch := assumption) only [ixB0, ixB1, ixB2, DL.subB0, DL.subB2, Option.bind_some, wDef0, wDef1, wDef2, wDef3, List.replicate, Nat.reduceSub, wSeq, wIf, wTb, wTr, wBin, wUn, wVar, wC, wCal, wCall, wCallK, wNil, wCons, wConsC, wLst, wTup, wNotT, wAndT, wOrT, wAnd, wOr, wNotE, wIfE, wChain, wNext, wSet, wSetC, wRet, wDrop, wAsg, wPar, wFor, wLc, wYes, wSl, wNoP, wPt, wRng1, wSrcA, wSrcS, wIsI, wIsI2, wCm, wMs, wRev, wPar3, wPar3k, wZipA, wZipLL, Option.bind_some, wDivm, wDget, wPNil, wPCons, wCget, wCput, wDispC, wLenSet, wTidx, Sx_len, wTupleT, wListL, wListT, ix50, ix51, ix52, ix53, ix54, ix30, ix31, ix32, wDisp, wDin, wDinS, wEqS, wEqB, wEqNS, wIsN, wInC, wOrdC, wInT, wInNT, wNinT, wNinNT, ix0, ix1,
  wOpt, tK_some, bK_some, bK_le, bK_lt, wGtI, wLtI, wLeI, wGeI, wModI, wFdivI, wMulI, wAddI, wSubI, wEqI, wNeI, wSlL, wSlN, wSlT, wSlS, wLenL, wLenT, wLenS, wIntT, wTupleN, wMin2, wAddNN, wAddLN, wAddNL, wAddLL, wAddTT, wAddSS, wMulN, wMulT, wMulS, fz_d, fz_n, fz_c, allD, put, truD, bName, bTup, bCons, bNil, wipeR,
  List.getElem?_cons_zero, List.getElem?_cons_succ, List.set_cons_zero, List.set_cons_succ, List.length_set, List.length_cons, List.length_nil, Option.map_some, Option.map_none, if_true, Bool.false_eq_true, if_false, Bool.not_true, Bool.not_false, List.map_cons, List.map_nil, true_and, and_true, Nat.reduceAdd, Nat.reduceLeDiff])
local macro_rules | `(tactic| walk_at "t") => `(tactic| (try walk_at "w"))
local macro_rules | `(tactic| walk_at "x") => `(tactic| simp (maxSteps := 4000000) only [wDef0, wDef1, wDef2, wDef3, List.replicate, Nat.reduceSub, wSeq, wIf, wTb, wTr, wBin, wUn, wVar, wC, wCal, wCall, wCallK, wNil, wCons, wConsC, wLst, wTup, wNotT, wAndT, wOrT, wAnd, wOr, wNotE, wIfE, wChain, wNext, wSet, wSetC, wRet, wDrop, wAsg, wPar, wFor, wLc, wYes, wSl, wNoP, wPt, wRng1, wSrcA, wSrcS, wIsI, wIsI2, wCm, wMs, wRev, wPar3, wPar3k, wZipA, wZipLL, Option.bind_some, wDivm, wDget, wPNil, wPCons, wCget, wCput, wDispC, wLenSet, wTidx, Sx_len, wTupleT, wListL, wListT, ix50, ix51, ix52, ix53, ix54, ix30, ix31, ix32, wDisp, wDin, wDinS, wEqS, wEqB, wEqNS, wIsN, wInC, wOrdC, wInT, wInNT, wNinT, wNinNT, ix0, ix1,
  wOpt, tK_some, bK_some, bK_le, bK_lt, wGtI, wLtI, wLeI, wGeI, wModI, wFdivI, wMulI, wAddI, wSubI, wEqI, wNeI, wSlL, wSlN, wSlT, wSlS, wLenL, wLenT, wLenS, wIntT, wTupleN, wMin2, wAddNN, wAddLN, wAddNL, wAddLL, wAddTT, wAddSS, wMulN, wMulT, wMulS, fz_d, fz_n, fz_c, allD, put, truD, bName, bTup, bCons, bNil, wipeR,
  List.getElem?_cons_zero, List.getElem?_cons_succ, List.set_cons_zero, List.set_cons_succ, List.length_set, List.length_cons, List.length_nil, Option.map_some, Option.map_none, if_true, Bool.false_eq_true, if_false, Bool.not_true, Bool.not_false, List.map_cons, List.map_nil, true_and, and_true, Nat.reduceAdd, Nat.reduceLeDiff])
section
variable {κ l : Kap} {i j : Nat} {q Q : DV → Kap → Prop} {d : PyData} {v : Sv} {T : Int}
abbrev LT : Str := "abcdefghijklmnoqrstuvwxyz"
abbrev WD : List Str := ["end", "begin", "house", "one", "list", "link", "from", "to", "in", "send", "now", "into"]
/-- twelve unlike NAMEs, none of them post -/
structure Nms (ks : List Str) : Prop where
  len : ks.length = 12
  nd : ks.Nodup
  nm : ∀ k ∈ ks, isN (.str k) = true
  po : ("post" : Str) ∉ ks
theorem nms_perm {ks ls : List Str} (p : ks.Perm ls) (h : Nms ls) : Nms ks :=
  ⟨p.length_eq.trans h.len, p.nodup_iff.mpr h.nd, fun k m => h.nm k (p.mem_iff.mp m), fun m => h.po (p.mem_iff.mp m)⟩
theorem nms_wd : Nms WD := ⟨rfl, by decide +kernel, by decide +kernel, by decide +kernel⟩
def ltN (b : Int) (k : Nat) : Nat := LT.cps.toList.getD ((b + 7 * k) % 25).toNat 0
theorem LT_get {n : Nat} (h : n < 25) : LT.cps.toList[n]? = some (LT.cps.toList.getD n 0) := by
  have : LT.cps.toList.length = 25 := by decide +kernel
  rw [List.getD_eq_getElem?_getD, List.getElem?_eq_getElem (by omega)]; rfl
theorem LT_ok {c : Nat} (h : c ∈ LT.cps.toList) : small c = true ∧ c ≠ 112 := by
  have : LT.cps.toList.all (fun c => small c && decide (c ≠ 112)) = true := by decide +kernel
  have := List.all_eq_true.mp this c h
  rw [Bool.and_eq_true, decide_eq_true_eq] at this
  exact this
theorem LT_inj {a b : Nat} (ha : a < 25) (hb : b < 25) (e : LT.cps.toList.getD a 0 = LT.cps.toList.getD b 0) : a = b := by
  have : ((List.range 25).all fun a => (List.range 25).all fun b => decide (LT.cps.toList.getD a 0 = LT.cps.toList.getD b 0) == decide (a = b)) = true := by decide +kernel
  have := List.all_eq_true.mp (List.all_eq_true.mp this a (List.mem_range.mpr ha)) b (List.mem_range.mpr hb)
  rw [beq_iff_eq] at this
  rw [decide_eq_true e] at this
  exact of_decide_eq_true this.symm
/-- the k-th NAME of a stem -/
def nmOf (A B : Str) (b : Int) (k : Nat) : Str := A ++ ⟨#[ltN b k]⟩ ++ B ++ repS "z" (k % 2)
theorem nmOf_cps (A B : Str) (b : Int) (k : Nat) : (nmOf A B b k).cps.toList = A.cps.toList ++ ltN b k :: (B.cps.toList ++ List.replicate (k % 2) 122) := by
  unfold nmOf
  rw [app_cps, app_cps, app_cps, rep_cps]
  rw [show (⟨#[ltN b k]⟩ : Str).cps.toList = [ltN b k] from rfl, show ("z" : Str).cps.toList = [122] from by decide +kernel]
  rw [List.append_assoc, List.append_assoc]
  congr 1
  rw [List.singleton_append]
  congr 2
  have : ∀ n, (List.replicate n [122]).flatten = List.replicate n (122 : Nat) := fun n => by
    induction n with
    | zero => rfl
    | succ n ih => rw [List.replicate_succ, List.flatten_cons, ih]; rfl
  exact this _
theorem nmOf_nms {A B : Str} {b : Int} (hb : 0 ≤ b) (hA : ∀ c ∈ A.cps.toList, c ∈ LT.cps.toList) (hB : ∀ c ∈ B.cps.toList, c ∈ LT.cps.toList) (hl : A.length + B.length ≤ 6) : Nms ((List.range 12).map (nmOf A B b)) := by
  have rng : ∀ k : Nat, ((b + 7 * k) % 25).toNat < 25 := fun k => by
    have := Int.emod_nonneg (b + 7 * k) (show (25 : Int) ≠ 0 by decide)
    have := Int.emod_lt_of_pos (b + 7 * k) (show (0 : Int) < 25 by decide)
    omega
  have ltm : ∀ k : Nat, ltN b k ∈ LT.cps.toList := fun k => List.mem_of_getElem? (LT_get (rng k))
  have lA : A.cps.toList.length = A.length := Array.length_toList
  have lB : B.cps.toList.length = B.length := Array.length_toList
  have each : ∀ k c, c ∈ (nmOf A B b k).cps.toList → small c = true ∧ c ≠ 112 := fun k c m => by
    rw [nmOf_cps] at m
    rcases List.mem_append.mp m with m | m
    · exact LT_ok (hA c m)
    · rcases List.mem_cons.mp m with rfl | m
      · exact LT_ok (ltm k)
      · rcases List.mem_append.mp m with m | m
        · exact LT_ok (hB c m)
        · rw [(List.mem_replicate.mp m).2]; decide
  have len : ∀ k, (nmOf A B b k).length = A.length + 1 + B.length + k % 2 := fun k => by
    rw [show (nmOf A B b k).length = (nmOf A B b k).cps.toList.length from Array.length_toList.symm, nmOf_cps]
    simp only [List.length_append, List.length_cons, List.length_replicate]
    omega
  refine ⟨by simp, ?_, fun x m => ?_, fun m => ?_⟩
  · rw [List.nodup_iff_pairwise_ne, List.pairwise_map]
    refine List.Pairwise.imp_of_mem (fun {x y} mx my h e => ?_) List.nodup_range
    have hx := List.mem_range.mp mx
    have hy := List.mem_range.mp my
    have l1 := len x
    have l2 := len y
    rw [e] at l1
    have par : x % 2 = y % 2 := by omega
    have c1 := nmOf_cps A B b x
    rw [e, nmOf_cps] at c1
    have c2 := List.append_cancel_left c1
    injection c2 with c3
    have c4 := LT_inj (rng y) (rng x) c3
    omega
  · obtain ⟨k, _, rfl⟩ := List.mem_map.mp m
    show isS 1 8 small (.str _) = true
    rw [isS, Bool.and_eq_true, Bool.and_eq_true, decide_eq_true_eq, decide_eq_true_eq, len, List.all_eq_true]
    exact ⟨⟨by omega, by omega⟩, fun c m => (each k c m).1⟩
  · obtain ⟨k, _, e⟩ := List.mem_map.mp m
    have : 112 ∈ (nmOf A B b k).cps.toList := by rw [e]; decide +kernel
    exact (each k 112 this).2 rfl
theorem rot_ok {n : Nat} : Nms (WD.drop n ++ WD.take n) := nms_perm (List.perm_append_comm.trans (by rw [List.take_append_drop])) nms_wd
theorem names_w (h : In2 i j κ) (hv : Tn T v) (hT : T ≤ 2 ^ 49) (hq : ∀ (ks : List Str) (v' : Sv), Nms ks → Tn (T + 20) v' → q (.n (strL ks)) (Sx i j κ v')) : wO (m__law_names [.c j, .d (.int 12)] (Sx i j κ v)) q := by
  unfold m__law_names
  walk_at "w"
  refine take_w h hv (by omega) ⟨by decide, by decide⟩ fun b v1 b0 b1 hv1 => ?_
  walk_at "w"
  refine take_w h hv1 (by omega) ⟨by decide, by decide⟩ fun w v2 w0 w1 hv2 => ?_
  walk_at "w"
  refine take_w h hv2 (by omega) ⟨by decide, by decide⟩ fun n v3 n0 n1 hv3 => ?_
  walk_at "w"
  refine ⟨⟨by omega, by omega⟩, ?_⟩
  refine lcSx (B := 1) (P := fun x => ∃ c ∈ LT.cps.toList, x = .str ⟨#[c]⟩) (by decide) (fun d v4 T' q m hv4 hT' hq => ?_) (by rw [rngD_len]; simp; omega) hv3 (by simp) fun ys v4 hy ly hv4 => ?_
  · rw [rngD_len] at hT'
    simp only [List.set_cons_succ, List.set_cons_zero]
    walk_at "w"
    refine take_w h hv4 (by omega) ⟨by decide, by decide⟩ fun x v5 x0 x1 hv5 => ?_
    refine wIxS (by decide +kernel) x0 (by rw [show (LT.length : Int) = 25 by decide +kernel]; exact x1) fun c mc => ?_
    exact hq _ _ ⟨c, mc, rfl⟩ hv5
  rw [rngD_len] at hv4 ly
  obtain ⟨cs, rfl, hcs⟩ : ∃ cs : List Nat, ys = cs.map (fun c => PyData.str ⟨#[c]⟩) ∧ ∀ c ∈ cs, c ∈ LT.cps.toList := by
    clear ly
    induction ys with
    | nil => exact ⟨[], rfl, fun _ m => nomatch m⟩
    | cons y r ih =>
      obtain ⟨c, mc, rfl⟩ := hy y List.mem_cons_self
      obtain ⟨cs, e, hc⟩ := ih fun x m => hy x (List.mem_cons_of_mem _ m)
      exact ⟨c :: cs, by rw [e]; rfl, fun x m => by rcases List.mem_cons.mp m with rfl | m; exact mc; exact hc x m⟩
  rw [List.length_map] at ly
  walk_at "w"
  refine join_w (by simp at ly; omega) fun st hst => ?_
  have lst : st.length = cs.length := by rw [← hst]; exact Array.length_toList.symm
  have lcs : cs.length ≤ 6 := by simp at ly; omega
  walk_at "w"
  cases ew : w == 0 with
  | true =>
    rw [if_pos rfl]
    have r0 := Int.emod_nonneg b (show (12 : Int) ≠ 0 by decide)
    have r1 := Int.emod_lt_of_pos b (show (0 : Int) < 12 by decide)
    rw [← show strL WD = [PyData.str "end", .str "begin", .str "house", .str "one", .str "list", .str "link", .str "from", .str "to", .str "in", .str "send", .str "now", .str "into"] from rfl]
    rw [cutDrop r0, cutTake r0]
    have e : (strL WD).drop (b % 12).toNat ++ (strL WD).take (b % 12).toNat = strL (WD.drop (b % 12).toNat ++ WD.take (b % 12).toNat) := by
      unfold strL; rw [List.map_append, List.map_drop, List.map_take]
    have ok := rot_ok (n := (b % 12).toNat)
    have e3 : (strL (WD.drop (b % 12).toNat ++ WD.take (b % 12).toNat)).take (Int.toNat 12) = strL (WD.drop (b % 12).toNat ++ WD.take (b % 12).toNat) := List.take_of_length_le (by rw [show (strL (WD.drop (b % 12).toNat ++ WD.take (b % 12).toNat)).length = _ from List.length_map .., ok.len]; decide)
    rw [e, cutTake (by decide), e3]
    refine ⟨by decide, by decide, ?_, ?_⟩
    · rw [List.length_drop, List.length_take, show (strL WD).length = 12 from rfl]; omega
    · rw [finSn h]
      exact hq _ v4 ok (hv4.up (by omega))
  | false =>
    rw [if_neg Bool.false_ne_true]
    refine ⟨by omega, by omega, ?_⟩
    refine take_w h hv4 (by simp at hv4 ⊢; omega) ⟨by omega, by omega⟩ fun p v5 p0 p1 hv5 => ?_
    have w2 : w ≠ 0 := fun z => by rw [z] at ew; cases ew
    walk_at "w"
    refine wIxN (by omega) (by simp; omega) fun y my => ?_
    obtain ⟨a, rfl, a0, a1⟩ : ∃ a : Int, y = .int a ∧ 0 ≤ a ∧ a ≤ st.length := by
      simp only [List.mem_cons, List.not_mem_nil, or_false] at my
      rcases my with rfl | rfl | rfl
      · exact ⟨_, rfl, by omega, by omega⟩
      · exact ⟨_, rfl, by omega, by omega⟩
      · exact ⟨_, rfl, by omega, by omega⟩
    refine ⟨by decide, ?_⟩
    rw [Sx_len, show ([Cell.lst []] : Kap) = [cl []] from rfl, Sx_app h, fz_d]
    have hA : ∀ c ∈ (cutS st none (some a)).cps.toList, c ∈ LT.cps.toList := fun c m => hcs c (by rw [← hst]; exact cutS_mem c m)
    have hB : ∀ c ∈ (cutS st (some a) none).cps.toList, c ∈ LT.cps.toList := fun c m => hcs c (by rw [← hst]; exact cutS_mem c m)
    have lAB : (cutS st none (some a)).length + (cutS st (some a) none).length ≤ 6 := by
      rw [show (cutS st none (some a)).length = (cutS st none (some a)).cps.toList.length from Array.length_toList.symm, show (cutS st (some a) none).length = (cutS st (some a) none).cps.toList.length from Array.length_toList.symm, cutS_take a0, cutS_drop a0, List.length_take, List.length_drop, hst]
      omega
    generalize hgA : cutS st none (some a) = A at hA lAB
    generalize hgB : cutS st (some a) none = B at hB lAB
    refine wForI (fun r ρ κ1 => ∃ m n x9 x10, m + n = 12 ∧ r = (List.range' m n).map (fun k => PyData.int (k : Nat)) ∧ ρ = [some (.c j), some (.d (.int 12)), some (.d (.str LT)), some (.d (.int b)), some (.d (.int w)), some (.d (.str st)), some (.d (.list (strL WD))), some (.d (.int a)), some (.c κ.length), x9, x10, none] ∧ κ1 = Sx i j (κ ++ [cl ((List.range m).map fun k => PyData.str (nmOf A B b k))]) v5) _ _ _ ⟨0, 12, _, _, rfl, rfl, rfl, rfl⟩ ?_ ?_
    · rintro ρ κ1 ⟨m, n, x9, x10, hmn, hr, rfl, rfl⟩
      have n0 : n = 0 := by
        cases n with
        | zero => rfl
        | succ n => rw [List.range'_succ, List.map_cons] at hr; cases hr
      subst n0
      obtain rfl : m = 12 := hmn
      dsimp only
      walk_at "w"
      rw [finSc h]
      rw [show (List.range 12).map (fun k => PyData.str (nmOf A B b k)) = strL ((List.range 12).map (nmOf A B b)) by unfold strL; rw [List.map_map]; rfl]
      exact hq _ v5 (nmOf_nms b0 hA hB lAB) (hv5.up (by omega))
    · rintro d r ρ κ1 ⟨m, n, x9, x10, hmn, hr, rfl, rfl⟩
      cases n with
      | zero => cases hr
      | succ n =>
        rw [List.range'_succ, List.map_cons] at hr
        injection hr with hd hr
        subst hd
        dsimp only [bName]
        simp only [List.set_cons_succ, List.set_cons_zero]
        walk_at "w"
        have g0 := Int.emod_nonneg (b + 7 * (m : Int)) (show (25 : Int) ≠ 0 by decide)
        have g1 := Int.emod_lt_of_pos (b + 7 * (m : Int)) (show (0 : Int) < 25 by decide)
        refine ⟨by omega, .inl (by decide), by decide, ?_⟩
        rw [ixStr (by decide +kernel) g0 (LT_get (by omega))]
        walk_at "w"
        rw [hgA, hgB]
        have z2 : ((m : Int) % 2).toNat = m % 2 := by omega
        have z0 : ((m : Int) % 2) < 2 := Int.emod_lt_of_pos _ (by decide)
        have lc : (⟨#[LT.cps.toList.getD ((b + 7 * (m : Int)) % 25).toNat 0]⟩ : Str).length = 1 := rfl
        refine ⟨by rw [lc]; omega, by omega, ?_⟩
        have zl : ("z" : Str).length = 1 := by decide +kernel
        rw [Sx_last h]
        dsimp only
        refine ⟨by rw [app_len, lc]; omega, by decide, ⟨by omega, by omega, by rw [zl, z2]; omega⟩, ?_, ?_⟩
        · rw [app_len, app_len, lc, len_rep, zl, z2]; omega
        rw [app_w (by simp; omega)]
        dsimp only
        rw [Sx_setLast h]
        refine ⟨m + 1, n, _, _, by omega, hr, rfl, ?_⟩
        rw [List.range_succ, z2]
        simp only [cl, List.map_append]; rfl
end

end Law

namespace Law
open DL L2 PyProof.Rows PySem PySem.Spec
local macro_rules | `(tactic| walk_at "w") => `(tactic| simp only [wDef0, wDef1, wDef2, wDef3, List.replicate, Nat.reduceSub, wSeq, wIf, wTb, wTr, wBin, wUn, wVar, wC, wCal, wCall, wCallK, wNil, wCons, wConsC, wLst, wTup, wNotT, wAndT, wOrT, wAnd, wOr, wNotE, wIfE, wChain, wNext, wSet, wSetC, wRet, wDrop, wAsg, wPar, wFor, wLc, wYes, wSl, wNoP, wPt, wRng1, wSrcA, wSrcS, wIsI, wIsI2, wCm, wMs, wRev, wPar3, wPar3k, wZipA, wZipLL, Option.bind_some, wDivm, wDget, wPNil, wPCons, wCget, wCput, wDispC, wLenSet, wTidx, Sx_len, wTupleT, wListL, wListT, ix50, ix51, ix52, ix53, ix54, ix30, ix31, ix32, wDisp, wDin, wDinS, wEqS, wEqB, wEqNS, wIsN, wInC, wOrdC, wInT, wInNT, wNinT, wNinNT, ix0, ix1,
  wOpt, tK_some, bK_some, bK_le, bK_lt, wGtI, wLtI, wLeI, wGeI, wModI, wFdivI, wMulI, wAddI, wSubI, wEqI, wNeI, wSlL, wSlN, wSlT, wSlS, wLenL, wLenT, wLenS, wIntT, wTupleN, wMin2, wAddNN, wAddLN, wAddNL, wAddLL, wAddTT, wAddSS, wMulN, wMulT, wMulS, fz_d, fz_n, fz_c, allD, put, truD, bName, bTup, bCons, bNil, wipeR,
  List.getElem?_cons_zero, List.getElem?_cons_succ, List.set_cons_zero, List.set_cons_succ, List.length_set, List.length_cons, List.length_nil, Option.map_some, Option.map_none, if_true, Bool.false_eq_true, if_false, Bool.not_true, Bool.not_false, List.map_cons, List.map_nil, true_and, and_true, Nat.reduceAdd, Nat.reduceLeDiff])
local macro_rules | `(tactic| walk_at "b") => `(tactic| simp (disch := assumption) only [ixB0, ixB1, ixB2, DL.subB0, DL.subB2, Option.bind_some, wDef0, wDef1, wDef2, wDef3, List.replicate, Nat.reduceSub, wSeq, wIf, wTb, wTr, wBin, wUn, wVar, wC, wCal, wCall, wCallK, wNil, wCons, wConsC, wLst, wTup, wNotT, wAndT, wOrT, wAnd, wOr, wNotE, wIfE, wChain, wNext, wSet, wSetC, wRet, wDrop, wAsg, wPar, wFor, wLc, wYes, wSl, wNoP, wPt, wRng1, wSrcA, wSrcS, wIsI, wIsI2, wCm, wMs, wRev, wPar3, wPar3k, wZipA, wZipLL, Option.bind_some, wDivm, wDget, wPNil, wPCons, wCget, wCput, wDispC, wLenSet, wTidx, Sx_len, wTupleT, wListL, wListT, ix50, ix51, ix52, ix53, ix54, ix30, ix31, ix32, wDisp, wDin, wDinS, wEqS, wEqB, wEqNS, wIsN, wInC, wOrdC, wInT, wInNT, wNinT, wNinNT, ix0, ix1,
  wOpt, tK_some, bK_some, bK_le, bK_lt, wGtI, wLtI, wLeI, wGeI, wModI, wFdivI, wMulI, wAddI, wSubI, wEqI, wNeI, wSlL, wSlN, wSlT, wSlS, wLenL, wLenT, wLenS, wIntT, wTupleN, wMin2, wAddNN, wAddLN, wAddNL, wAddLL, wAddTT, wAddSS, wMulN, wMulT, wMulS, fz_d, fz_n, fz_c, allD, put, truD, bName, bTup, bCons, bNil, wipeR,
  List.getElem?_cons_zero, List.getElem?_cons_succ, List.set_cons_zero, List.set_cons_succ, List.length_set, List.length_cons, List.length_nil, Option.map_some, Option.map_none, if_true, Bool.false_eq_true, if_false, Bool.not_true, Bool.not_false, List.map_cons, List.map_nil, true_and, and_true, Nat.reduceAdd, Nat.reduceLeDiff])
local macro_rules | `(tactic| walk_at "t") => `(tactic| (try walk_at "w"))
local macro_rules | `(tactic| walk_at "x") => `(tactic| simp (maxSteps := 4000000) only [wDef0, wDef1, wDef2, wDef3, List.replicate, Nat.reduceSub, wSeq, wIf, wTb, wTr, wBin, wUn, wVar, wC, wCal, wCall, wCallK, wNil, wCons, wConsC, wLst, wTup, wNotT, wAndT, wOrT, wAnd, wOr, wNotE, wIfE, wChain, wNext, wSet, wSetC, wRet, wDrop, wAsg, wPar, wFor, wLc, wYes, wSl, wNoP, wPt, wRng1, wSrcA, wSrcS, wIsI, wIsI2, wCm, wMs, wRev, wPar3, wPar3k, wZipA, wZipLL, Option.bind_some, wDivm, wDget, wPNil, wPCons, wCget, wCput, wDispC, wLenSet, wTidx, Sx_len, wTupleT, wListL, wListT, ix50, ix51, ix52, ix53, ix54, ix30, ix31, ix32, wDisp, wDin, wDinS, wEqS, wEqB, wEqNS, wIsN, wInC, wOrdC, wInT, wInNT, wNinT, wNinNT, ix0, ix1,
  wOpt, tK_some, bK_some, bK_le, bK_lt, wGtI, wLtI, wLeI, wGeI, wModI, wFdivI, wMulI, wAddI, wSubI, wEqI, wNeI, wSlL, wSlN, wSlT, wSlS, wLenL, wLenT, wLenS, wIntT, wTupleN, wMin2, wAddNN, wAddLN, wAddNL, wAddLL, wAddTT, wAddSS, wMulN, wMulT, wMulS, fz_d, fz_n, fz_c, allD, put, truD, bName, bTup, bCons, bNil, wipeR,
  List.getElem?_cons_zero, List.getElem?_cons_succ, List.set_cons_zero, List.set_cons_succ, List.length_set, List.length_cons, List.length_nil, Option.map_some, Option.map_none, if_true, Bool.false_eq_true, if_false, Bool.not_true, Bool.not_false, List.map_cons, List.map_nil, true_and, and_true, Nat.reduceAdd, Nat.reduceLeDiff])
section
def plD (nm fk ls wy mo : PyData) (hs : List PyData) (lk : PyData) : PyData := .tuple [.tuple (.tuple [nm, fk, ls, wy, mo] :: hs), lk]
def hsD (x : PyData) : PyData := .tuple [x, .tuple [.str "a"], .tuple [], .tuple [.str "packed"], .int 9000]
abbrev wyP : PyData := .tuple [.str "plain"]
theorem ways_P : isWays wyP = true := by decide +kernel
theorem isN_a : isN (.str "a") = true := by decide +kernel
theorem isW_pk : isWays (.tuple [.str "packed"]) = true := by decide +kernel
theorem post_a : ("post" : Str) ≠ "a" := by decide +kernel
theorem in400 : isIn 400 9000 (.int 400) = true := by decide +kernel
theorem in9000 : isIn 400 9000 (.int 9000) = true := by decide +kernel
theorem folk1 {a : Str} : isFolk (.tuple [.str a]) = isN (.str a) := by simp [isFolk]
theorem lists0 : isLists (.tuple []) = true := by simp [isLists]
theorem hs_ok {a : Str} (h : isN (.str a) = true) : isHouse (hsD (.str a)) = true := by
  unfold hsD isHouse
  simp only [h, folk1, isN_a, lists0, isW_pk, in9000, Bool.true_and, Bool.and_true]
  simp [called, tl, sOf, post_a]
theorem hs_hd {a : Str} : hd1 (hsD (.str a)) = a := rfl
theorem nodup0 : decide (([] : List (List Str)).Nodup) = true := by simp
/-- a house alone -/
theorem pl_one {n : Str} {fk ls wy mo : PyData} : isPlan (plD (.str n) fk ls wy mo [] (.tuple [])) = isHouse (.tuple [.str n, fk, ls, wy, mo]) := by
  unfold plD isPlan
  simp
/-- people -/
theorem evF {n : Str} {l : List Str} (hn : isN (.str n) = true) (hl : ∀ x ∈ l, isN (.str x) = true) (nd : l.Nodup) (po : ("post" : Str) ∉ l) : isPlan (plD (.str n) (.tuple (strL l)) (.tuple []) wyP (.int 400) [] (.tuple [])) = decide (1 ≤ l.length ∧ l.length ≤ 4) := by
  rw [pl_one, isHouse, hn, lists0, ways_P, in400]
  have e1 : (strL l).all isN = true := by
    rw [List.all_eq_true]; intro x m; obtain ⟨s, ms, rfl⟩ := List.mem_map.mp m; exact hl s ms
  have e2 : called (.tuple (strL l)) (.tuple []) = l := by
    unfold called; rw [show (tl (.tuple (strL l))) = strL l from rfl, sOf_strs]; simp [tl]
  rw [e2, isFolk, e1, decide_eq_false po, decide_eq_true nd]
  simp [strL]
/-- lists -/
theorem evL {n m : Str} {l : List Str} (hn : isN (.str n) = true) (hm : isN (.str m) = true) (hl : ∀ x ∈ l, isN (.str x) = true) (nd : (m :: l).Nodup) (po : ("post" : Str) ∉ m :: l) :
    isPlan (plD (.str n) (.tuple [.str m]) (.tuple (l.map fun x => .tuple [.str x, .tuple [.tuple [.str m, .str n]]])) wyP (.int 400) [] (.tuple [])) = decide (l.length ≤ 3) := by
  rw [pl_one, isHouse, hn, folk1, hm, ways_P, in400]
  have e1 : (l.map fun x => PyData.tuple [.str x, .tuple [.tuple [.str m, .str n]]]).all isLst = true := by
    rw [List.all_map, List.all_eq_true]; intro x mx
    show (isN (.str x) && isAds (.tuple [.tuple [.str m, .str n]])) = true
    rw [hl x mx, isAds]
    have : unl2 [PyData.tuple [.str m, .str n]] = true := by
      rw [show [PyData.tuple [.str m, .str n]] = [[m, n]].map prD from rfl, unl2_s]; simp
    rw [this]
    simp [isAd, hm, hn]
  have e2 : called (.tuple [.str m]) (.tuple (l.map fun x => .tuple [.str x, .tuple [.tuple [.str m, .str n]]])) = m :: l := by
    unfold called tl
    dsimp only
    rw [List.map_map]
    show [m] ++ l.map (fun x => x) = m :: l
    rw [List.map_id']; rfl
  rw [e2, isLists, e1, decide_eq_false po, decide_eq_true nd]
  simp
/-- addresses -/
theorem evAdr {n m k : Str} {l : List Str} (hn : isN (.str n) = true) (hm : isN (.str m) = true) (hk : isN (.str k) = true) (hl : ∀ x ∈ l, isN (.str x) = true) (nd : l.Nodup) (nd2 : m ≠ k) (po : ("post" : Str) ∉ [m, k]) :
    isPlan (plD (.str n) (.tuple [.str m]) (.tuple [.tuple [.str k, .tuple (l.map fun x => .tuple [.str x, .str n])]]) wyP (.int 400) [] (.tuple [])) = decide (1 ≤ l.length ∧ l.length ≤ 4) := by
  rw [pl_one, isHouse, hn, folk1, hm, ways_P, in400]
  have e1 : (l.map fun x => PyData.tuple [.str x, .str n]).all isAd = true := by
    rw [List.all_map, List.all_eq_true]; intro x mx
    show (isN (.str x) && isN (.str n)) = true
    rw [hl x mx, hn]; rfl
  have e2 : called (.tuple [.str m]) (.tuple [.tuple [.str k, .tuple (l.map fun x => .tuple [.str x, .str n])]]) = [m, k] := rfl
  have e3 : unl2 (l.map fun x => PyData.tuple [.str x, .str n]) = true := by
    rw [show (l.map fun x => PyData.tuple [.str x, .str n]) = (l.map fun x => [x, n]).map prD by rw [List.map_map]; rfl, unl2_s, decide_eq_true_eq]
    rw [List.nodup_iff_pairwise_ne, List.pairwise_map]
    exact List.Pairwise.imp (fun h e => h (by injection e)) (List.nodup_iff_pairwise_ne.mp nd)
  rw [e2, decide_eq_false po]
  simp [isLists, isLst, hk, isAds, e1, e3, nd2]
/-- houses -/
theorem hsN {n m : Str} (hn : isN (.str n) = true) (hm : isN (.str m) = true) (po : ("post" : Str) ≠ m) : isHouse (.tuple [.str n, .tuple [.str m], .tuple [], wyP, .int 400]) = true := by
  rw [isHouse, hn, folk1, hm, ways_P, in400, lists0]
  simp [called, tl, sOf, po]
theorem evH {n m : Str} {l : List Str} (hn : isN (.str n) = true) (hm : isN (.str m) = true) (po : ("post" : Str) ≠ m) (hl : ∀ x ∈ l, isN (.str x) = true) {lk : List PyData} :
    isPlan (plD (.str n) (.tuple [.str m]) (.tuple []) wyP (.int 400) (l.map fun x => hsD (.str x)) (.tuple lk)) = (decide (l.length ≤ 4) && decide (n :: l).Nodup && decide (lk.length ≤ 8) && lk.all (isLink (n :: l)) && decide (lk.map prOf).Nodup) := by
  unfold plD isPlan
  dsimp only
  have e1 : (l.map fun x => hsD (.str x)).all isHouse = true := by
    rw [List.all_map, List.all_eq_true]; intro x mx; exact hs_ok (hl x mx)
  have e2 : (PyData.tuple [.str n, .tuple [.str m], .tuple [], wyP, .int 400] :: l.map fun x => hsD (.str x)).map hd1 = n :: l := by
    rw [List.map_cons, List.map_map]
    show n :: l.map (fun x => x) = n :: l
    rw [List.map_id']
  rw [e2, List.all_cons, hsN hn hm po, e1]
  simp
theorem ev0 {n m : Str} {wy mo : PyData} (hn : isN (.str n) = true) (hm : isN (.str m) = true) (po : ("post" : Str) ≠ m) : isPlan (plD (.str n) (.tuple [.str m]) (.tuple []) wy mo [] (.tuple [])) = (isWays wy && isIn 400 9000 mo) := by
  rw [pl_one, isHouse, hn, folk1, hm, lists0]
  simp [called, tl, sOf, po]
theorem sortS_two {a b c d : Str} : sortS [a, b] = sortS [c, d] ↔ (a = c ∧ b = d) ∨ (a = d ∧ b = c) := by
  constructor
  · intro e
    have p : [a, b].Perm [c, d] := ((List.mergeSort_perm [a, b] txtLe).symm.trans (by rw [show [a, b].mergeSort txtLe = [c, d].mergeSort txtLe from e])).trans (List.mergeSort_perm [c, d] txtLe)
    have m : a ∈ [c, d] := p.mem_iff.mp (List.mem_cons_self ..)
    simp only [List.mem_cons, List.not_mem_nil, or_false] at m
    rcases m with rfl | rfl
    · have p2 := (List.perm_cons _).mp p
      have m2 : b ∈ [d] := p2.mem_iff.mp (List.mem_cons_self ..)
      exact .inl ⟨rfl, List.mem_singleton.mp m2⟩
    · have p2 := (List.perm_cons _).mp (p.trans (List.Perm.swap _ _ _))
      have m2 : b ∈ [c] := p2.mem_iff.mp (List.mem_cons_self ..)
      exact .inr ⟨rfl, List.mem_singleton.mp m2⟩
  · rintro (⟨rfl, rfl⟩ | ⟨rfl, rfl⟩)
    · rfl
    · exact sortS_perm (List.Perm.swap _ _ _)
end
section
theorem un1 {a b : Str} : unl2 [PyData.tuple [.str a, .str b]] = true := by
  rw [show [PyData.tuple [.str a, .str b]] = [[a, b]].map prD from rfl, unl2_s]; simp
theorem un2 {a b c d : Str} : unl2 [PyData.tuple [.str a, .str b], .tuple [.str c, .str d]] = !(decide (a = c) && decide (b = d)) := by
  rw [show [PyData.tuple [.str a, .str b], .tuple [.str c, .str d]] = [[a, b], [c, d]].map prD from rfl, unl2_s]
  by_cases h1 : a = c <;> by_cases h2 : b = d <;> simp [h1, h2]
theorem isN_post : isN (.str "post") = true := by decide +kernel
theorem isIn1 {k : Int} : isIn 1 4 (.int k) = (decide (1 ≤ k) && decide (k ≤ 4)) := rfl
theorem hsD_eq {x : PyData} : hsD x = .tuple [x, .tuple [.str "a"], .tuple [], .tuple [.str "packed"], .int 9000] := rfl
structure N4 (a b c e : Str) : Prop where
  na : isN (.str a) = true
  nb : isN (.str b) = true
  nc : isN (.str c) = true
  ne : isN (.str e) = true
  ab : a ≠ b
  ac : a ≠ c
  ae : a ≠ e
  bc : b ≠ c
  be : b ≠ e
  ce : c ≠ e
  pa : ("post" : Str) ≠ a
  pb : ("post" : Str) ≠ b
  pc : ("post" : Str) ≠ c
  pe : ("post" : Str) ≠ e
def here (a b : Str) : PyData := .tuple [.tuple [.str b, .str a]]
def SL (a b c e : Str) : List ((List (PyData × PyData)) × PyData × Bool) := [
  ([(.str "folk", .tuple [.str b, .str c, .str b])], plD (.str a) (.tuple [.str b, .str c, .str b]) (.tuple []) wyP (.int 400) [] (.tuple []), false),
  ([(.str "folk", .tuple [.str b, .str "post"])], plD (.str a) (.tuple [.str b, .str "post"]) (.tuple []) wyP (.int 400) [] (.tuple []), false),
  ([(.str "lists", .tuple [.tuple [.str b, here a b]])], plD (.str a) (.tuple [.str b]) (.tuple [.tuple [.str b, here a b]]) wyP (.int 400) [] (.tuple []), false),
  ([(.str "lists", .tuple [.tuple [.str c, here a b], .tuple [.str c, here a b]])], plD (.str a) (.tuple [.str b]) (.tuple [.tuple [.str c, here a b], .tuple [.str c, here a b]]) wyP (.int 400) [] (.tuple []), false),
  ([(.str "lists", .tuple [.tuple [.str "post", here a b]])], plD (.str a) (.tuple [.str b]) (.tuple [.tuple [.str "post", here a b]]) wyP (.int 400) [] (.tuple []), false),
  ([(.str "lists", .tuple [.tuple [.str c, .tuple [.tuple [.str b, .str a], .tuple [.str b, .str a]]]])], plD (.str a) (.tuple [.str b]) (.tuple [.tuple [.str c, .tuple [.tuple [.str b, .str a], .tuple [.str b, .str a]]]]) wyP (.int 400) [] (.tuple []), false),
  ([(.str "more", .tuple [hsD (.str c), hsD (.str c)])], plD (.str a) (.tuple [.str b]) (.tuple []) wyP (.int 400) [hsD (.str c), hsD (.str c)] (.tuple []), false),
  ([(.str "more", .tuple [hsD (.str a)])], plD (.str a) (.tuple [.str b]) (.tuple []) wyP (.int 400) [hsD (.str a)] (.tuple []), false),
  ([(.str "more", .tuple [hsD (.str c)]), (.str "links", .tuple [.tuple [.str a, .str a, .int 1]])], plD (.str a) (.tuple [.str b]) (.tuple []) wyP (.int 400) [hsD (.str c)] (.tuple [.tuple [.str a, .str a, .int 1]]), false),
  ([(.str "more", .tuple [hsD (.str c)]), (.str "links", .tuple [.tuple [.str a, .str c, .int 1], .tuple [.str c, .str a, .int 2]])], plD (.str a) (.tuple [.str b]) (.tuple []) wyP (.int 400) [hsD (.str c)] (.tuple [.tuple [.str a, .str c, .int 1], .tuple [.str c, .str a, .int 2]]), false),
  ([(.str "more", .tuple [hsD (.str c)]), (.str "links", .tuple [.tuple [.str a, .str e, .int 1]])], plD (.str a) (.tuple [.str b]) (.tuple []) wyP (.int 400) [hsD (.str c)] (.tuple [.tuple [.str a, .str e, .int 1]]), false),
  ([(.str "more", .tuple [hsD (.str c)]), (.str "links", .tuple [.tuple [.str a, .str c, .int 1], .tuple [.str a, .str c, .int 1]])], plD (.str a) (.tuple [.str b]) (.tuple []) wyP (.int 400) [hsD (.str c)] (.tuple [.tuple [.str a, .str c, .int 1], .tuple [.str a, .str c, .int 1]]), false),
  ([(.str "folk", .list [.str b])], plD (.str a) (.list [.str b]) (.tuple []) wyP (.int 400) [] (.tuple []), false),
  ([(.str "lists", .tuple [.tuple [.str c, .tuple [.tuple [.str b]]]])], plD (.str a) (.tuple [.str b]) (.tuple [.tuple [.str c, .tuple [.tuple [.str b]]]]) wyP (.int 400) [] (.tuple []), false),
  ([(.str "folk", .tuple [.str a])], plD (.str a) (.tuple [.str a]) (.tuple []) wyP (.int 400) [] (.tuple []), true),
  ([(.str "lists", .tuple [.tuple [.str a, here a b]])], plD (.str a) (.tuple [.str b]) (.tuple [.tuple [.str a, here a b]]) wyP (.int 400) [] (.tuple []), true),
  ([(.str "more", .tuple [hsD (.str c)]), (.str "folk", .tuple [.str e, .str c]), (.str "links", .tuple [.tuple [.str c, .str a, .int 2]])], plD (.str a) (.tuple [.str e, .str c]) (.tuple []) wyP (.int 400) [hsD (.str c)] (.tuple [.tuple [.str c, .str a, .int 2]]), true),
  ([(.str "name", .str "post")], plD (.str "post") (.tuple [.str b]) (.tuple []) wyP (.int 400) [] (.tuple []), true),
  ([(.str "lists", .tuple [.tuple [.str c, .tuple [.tuple [.str "post", .str e], .tuple [.str c, .str a]]]])], plD (.str a) (.tuple [.str b]) (.tuple [.tuple [.str c, .tuple [.tuple [.str "post", .str e], .tuple [.str c, .str a]]]]) wyP (.int 400) [] (.tuple []), true),
  ([(.str "lists", .tuple [.tuple [.str c, here a b]])], plD (.str a) (.tuple [.str b]) (.tuple [.tuple [.str c, here a b]]) wyP (.int 400) [] (.tuple []), true)]
theorem SL_ok {a b c e : Str} (h : N4 a b c e) : ∀ x ∈ SL a b c e, isPlan x.2.1 = x.2.2 := by
  have := h.na; have := h.nb; have := h.nc; have := h.ne
  have ab := h.ab; have ac := h.ac; have ae := h.ae; have bc := h.bc; have be := h.be; have ce := h.ce
  have pa := h.pa; have pb := h.pb; have pc := h.pc; have pe := h.pe
  have e1 := hs_ok h.na; have e2 := hs_ok h.nc
  have ww := ways_P
  have i4 := in400
  have np := isN_post
  intro x m
  simp only [SL, List.mem_cons, List.not_mem_nil, or_false] at m
  rcases m with rfl | rfl | rfl | rfl | rfl | rfl | rfl | rfl | rfl | rfl | rfl | rfl | rfl | rfl | rfl | rfl | rfl | rfl | rfl | rfl <;> simp only [plD, isPlan, List.all_cons, List.all_nil, List.map_cons, List.map_nil, e1, e2, hs_hd, Bool.true_and, Bool.and_true] <;> clear e1 e2 <;> simp (decide := true) [*, isHouse, isFolk, isLists, isLst, isAds, isAd, un1, un2, here, called, tl, sOf, hd1, hs_hd, isLink, isIn1, prOf, sortS_two, ab.symm, ac.symm, ae.symm, bc.symm, be.symm, ce.symm, pa.symm, pb.symm, pc.symm, pe.symm]
end

end Law

namespace Law
open DL L2 PyProof.Rows PySem PySem.Spec
local macro_rules | `(tactic| walk_at "w") => `(tactic| simp only [wDef0, wDef1, wDef2, wDef3, List.replicate, Nat.reduceSub, wSeq, wIf, wTb, wTr, wBin, wUn, wVar, wC, wCal, wCall, wCallK, wNil, wCons, wConsC, wLst, wTup, wNotT, wAndT, wOrT, wAnd, wOr, wNotE, wIfE, wChain, wNext, wSet, wSetC, wRet, wDrop, wAsg, wPar, wFor, wLc, wYes, wSl, wNoP, wPt, wRng1, wSrcA, wSrcS, wIsI, wIsI2, wCm, wMs, wRev, wPar3, wPar3k, wZipA, wZipLL, Option.bind_some, wDivm, wDget, wPNil, wPCons, wCget, wCput, wDispC, wLenSet, wTidx, Sx_len, wTupleT, wListL, wListT, ix50, ix51, ix52, ix53, ix54, ix30, ix31, ix32, wDisp, wDin, wDinS, wEqS, wEqB, wEqNS, wIsN, wInC, wOrdC, wInT, wInNT, wNinT, wNinNT, ix0, ix1,
  wOpt, tK_some, bK_some, bK_le, bK_lt, wGtI, wLtI, wLeI, wGeI, wModI, wFdivI, wMulI, wAddI, wSubI, wEqI, wNeI, wSlL, wSlN, wSlT, wSlS, wLenL, wLenT, wLenS, wIntT, wTupleN, wMin2, wAddNN, wAddLN, wAddNL, wAddLL, wAddTT, wAddSS, wMulN, wMulT, wMulS, fz_d, fz_n, fz_c, allD, put, truD, bName, bTup, bCons, bNil, wipeR,
  List.getElem?_cons_zero, List.getElem?_cons_succ, List.set_cons_zero, List.set_cons_succ, List.length_set, List.length_cons, List.length_nil, Option.map_some, Option.map_none, if_true, Bool.false_eq_true, if_false, Bool.not_true, Bool.not_false, List.map_cons, List.map_nil, true_and, and_true, Nat.reduceAdd, Nat.reduceLeDiff])
local macro_rules | `(tactic| walk_at "b") => `(tactic| simp (disch := assumption) only [ixB0, ixB1, ixB2, DL.subB0, DL.subB2, Option.bind_some, wDef0, wDef1, wDef2, wDef3, List.replicate, Nat.reduceSub, wSeq, wIf, wTb, wTr, wBin, wUn, wVar, wC, wCal, wCall, wCallK, wNil, wCons, wConsC, wLst, wTup, wNotT, wAndT, wOrT, wAnd, wOr, wNotE, wIfE, wChain, wNext, wSet, wSetC, wRet, wDrop, wAsg, wPar, wFor, wLc, wYes, wSl, wNoP, wPt, wRng1, wSrcA, wSrcS, wIsI, wIsI2, wCm, wMs, wRev, wPar3, wPar3k, wZipA, wZipLL, Option.bind_some, wDivm, wDget, wPNil, wPCons, wCget, wCput, wDispC, wLenSet, wTidx, Sx_len, wTupleT, wListL, wListT, ix50, ix51, ix52, ix53, ix54, ix30, ix31, ix32, wDisp, wDin, wDinS, wEqS, wEqB, wEqNS, wIsN, wInC, wOrdC, wInT, wInNT, wNinT, wNinNT, ix0, ix1,
  wOpt, tK_some, bK_some, bK_le, bK_lt, wGtI, wLtI, wLeI, wGeI, wModI, wFdivI, wMulI, wAddI, wSubI, wEqI, wNeI, wSlL, wSlN, wSlT, wSlS, wLenL, wLenT, wLenS, wIntT, wTupleN, wMin2, wAddNN, wAddLN, wAddNL, wAddLL, wAddTT, wAddSS, wMulN, wMulT, wMulS, fz_d, fz_n, fz_c, allD, put, truD, bName, bTup, bCons, bNil, wipeR,
  List.getElem?_cons_zero, List.getElem?_cons_succ, List.set_cons_zero, List.set_cons_succ, List.length_set, List.length_cons, List.length_nil, Option.map_some, Option.map_none, if_true, Bool.false_eq_true, if_false, Bool.not_true, Bool.not_false, List.map_cons, List.map_nil, true_and, and_true, Nat.reduceAdd, Nat.reduceLeDiff])
local macro_rules | `(tactic| walk_at "t") => `(tactic| (try walk_at "w"))
local macro_rules | `(tactic| walk_at "x") => `(tactic| simp (maxSteps := 4000000) only [wDef0, wDef1, wDef2, wDef3, List.replicate, Nat.reduceSub, wSeq, wIf, wTb, wTr, wBin, wUn, wVar, wC, wCal, wCall, wCallK, wNil, wCons, wConsC, wLst, wTup, wNotT, wAndT, wOrT, wAnd, wOr, wNotE, wIfE, wChain, wNext, wSet, wSetC, wRet, wDrop, wAsg, wPar, wFor, wLc, wYes, wSl, wNoP, wPt, wRng1, wSrcA, wSrcS, wIsI, wIsI2, wCm, wMs, wRev, wPar3, wPar3k, wZipA, wZipLL, Option.bind_some, wDivm, wDget, wPNil, wPCons, wCget, wCput, wDispC, wLenSet, wTidx, Sx_len, wTupleT, wListL, wListT, ix50, ix51, ix52, ix53, ix54, ix30, ix31, ix32, wDisp, wDin, wDinS, wEqS, wEqB, wEqNS, wIsN, wInC, wOrdC, wInT, wInNT, wNinT, wNinNT, ix0, ix1,
  wOpt, tK_some, bK_some, bK_le, bK_lt, wGtI, wLtI, wLeI, wGeI, wModI, wFdivI, wMulI, wAddI, wSubI, wEqI, wNeI, wSlL, wSlN, wSlT, wSlS, wLenL, wLenT, wLenS, wIntT, wTupleN, wMin2, wAddNN, wAddLN, wAddNL, wAddLL, wAddTT, wAddSS, wMulN, wMulT, wMulS, fz_d, fz_n, fz_c, allD, put, truD, bName, bTup, bCons, bNil, wipeR,
  List.getElem?_cons_zero, List.getElem?_cons_succ, List.set_cons_zero, List.set_cons_succ, List.length_set, List.length_cons, List.length_nil, Option.map_some, Option.map_none, if_true, Bool.false_eq_true, if_false, Bool.not_true, Bool.not_false, List.map_cons, List.map_nil, true_and, and_true, Nat.reduceAdd, Nat.reduceLeDiff])
section
variable {κ l : Kap} {ρ : Rho} {i j n N : Nat} {q Q : DV → Kap → Prop} {d : PyData} {v : Sv} {T : Int}
def bs (nm fk ls wy mo mr lk : PyData) : List (L2.Key × DV) := [(.inr "name", .d nm), (.inr "folk", .d fk), (.inr "lists", .d ls), (.inr "ways", .d wy), (.inr "most", .d mo), (.inr "more", .d mr), (.inr "links", .d lk)]
section
variable {nm fk ls wy mo mr lk x y z : PyData}
theorem mgN : dmergeO (bs nm fk ls wy mo mr lk) [(.inr "name", .d x)] = some (bs x fk ls wy mo mr lk) := by kernel_rfl
theorem mgF : dmergeO (bs nm fk ls wy mo mr lk) [(.inr "folk", .d x)] = some (bs nm x ls wy mo mr lk) := by kernel_rfl
theorem mgL : dmergeO (bs nm fk ls wy mo mr lk) [(.inr "lists", .d x)] = some (bs nm fk x wy mo mr lk) := by kernel_rfl
theorem mgW : dmergeO (bs nm fk ls wy mo mr lk) [(.inr "ways", .d x)] = some (bs nm fk ls x mo mr lk) := by kernel_rfl
theorem mgM : dmergeO (bs nm fk ls wy mo mr lk) [(.inr "most", .d x)] = some (bs nm fk ls wy x mr lk) := by kernel_rfl
theorem mgO : dmergeO (bs nm fk ls wy mo mr lk) [(.inr "more", .d x)] = some (bs nm fk ls wy mo x lk) := by kernel_rfl
theorem mgOK : dmergeO (bs nm fk ls wy mo mr lk) [(.inr "more", .d x), (.inr "links", .d z)] = some (bs nm fk ls wy mo x z) := by kernel_rfl
theorem mgOFK : dmergeO (bs nm fk ls wy mo mr lk) [(.inr "more", .d x), (.inr "folk", .d y), (.inr "links", .d z)] = some (bs nm y ls wy mo x z) := by kernel_rfl
theorem mg0 : dmergeO (bs nm fk ls wy mo mr lk) [] = some (bs nm fk ls wy mo mr lk) := rfl
theorem lkN : dlk (bs nm fk ls wy mo mr lk) (.inr "name") = some (.d nm) := by kernel_rfl
theorem lkF : dlk (bs nm fk ls wy mo mr lk) (.inr "folk") = some (.d fk) := by kernel_rfl
theorem lkL : dlk (bs nm fk ls wy mo mr lk) (.inr "lists") = some (.d ls) := by kernel_rfl
theorem lkW : dlk (bs nm fk ls wy mo mr lk) (.inr "ways") = some (.d wy) := by kernel_rfl
theorem lkM : dlk (bs nm fk ls wy mo mr lk) (.inr "most") = some (.d mo) := by kernel_rfl
theorem lkO : dlk (bs nm fk ls wy mo mr lk) (.inr "more") = some (.d mr) := by kernel_rfl
theorem lkK : dlk (bs nm fk ls wy mo mr lk) (.inr "links") = some (.d lk) := by kernel_rfl
theorem bs_nd : ((bs nm fk ls wy mo mr lk).map (·.1)).Nodup := by
  show ([.inr "name", .inr "folk", .inr "lists", .inr "ways", .inr "most", .inr "more", .inr "links"] : List L2.Key).Nodup
  decide +kernel
theorem cg_w {kvs : List (L2.Key × DV)} {k : Str} {x : DV} (e : dlk kvs (.inr k) = some x) : wO (cgetO (.c κ.length) (.d (.str k)) (κ ++ [.dic kvs])) q = q x (κ ++ [.dic kvs]) := by
  unfold cgetO
  dsimp only
  rw [get_app]
  dsimp only [DL.keyOf]
  rw [e]
  exact propext Iff.rfl
end
theorem upd_w {c s t : Nat} {kvs more r : List (L2.Key × DV)} {ds : List (PyData × PyData)} (h1 : ρ[s]? = some (some (.c c))) (h2 : ρ[t]? = some (some (.d (.dict ds)))) (h3 : κ[c]? = some (.dic kvs)) (hd : dicKV ds = some more) (hl : kvs.length + more.length ≤ 1000) (hr : dmergeO kvs more = some r)
    (h : q (.d .none) (κ.set c (.dic r))) : wO (mUpd (mVar s) (mCons (mVar t) mNil) ρ κ) q := by
  have e : mUpd (mVar s) (mCons (mVar t) mNil) ρ κ = .ok (.d .none) (κ.set c (.dic r)) := by
    unfold mUpd mVar
    rw [h1]
    dsimp only [Out.bind]
    rw [h3]
    dsimp only
    unfold mCons mNil
    dsimp only
    rw [h2]
    dsimp only [Out.bind, fz]
    unfold updO
    dsimp only
    rw [h3, hd]
    dsimp only
    rw [if_pos hl, hr]
  rw [e]; exact h
theorem set_app2 {x y : Cell} : (κ ++ [x]).set κ.length y = κ ++ [y] := by
  rw [List.set_append_right _ _ (Nat.le_refl _), Nat.sub_self]; rfl
theorem kok_bs (h : KOk κ) {nm fk ls wy mo mr lk : PyData} : KOk (κ ++ [.dic (bs nm fk ls wy mo mr lk)]) := by
  have e : (κ ++ [cl []]).set κ.length (.dic (bs nm fk ls wy mo mr lk)) = κ ++ [.dic (bs nm fk ls wy mo mr lk)] := set_app1
  rw [← e]
  exact KOk.setC (h.app []) (by simp [bs, Cell.below, DV.below])
theorem ixZ {a : PyData} {r : List PyData} : ixD κ (.d (.list (a :: r))) (.d (.int 0)) = some (.d a) := by
  show (atI (a :: r) 0).map DV.d = _
  unfold atI ixN
  rw [if_pos (by decide), if_pos (by rw [List.length_cons]; omega)]; rfl
theorem ixO {a b : PyData} {r : List PyData} : ixD κ (.d (.list (a :: b :: r))) (.d (.int 1)) = some (.d b) := by
  show (atI (a :: b :: r) 1).map DV.d = _
  unfold atI ixN
  rw [if_pos (by decide), if_pos (by rw [List.length_cons, List.length_cons]; omega)]; rfl
theorem with_w (hk : KOk κ) {a b : PyData} {rs : List PyData} {ds : List (PyData × PyData)} {more : List (L2.Key × DV)} {nm fk ls wy mo lk : PyData} {hs : List PyData} (hd : dicKV ds = some more) (hl : more.length ≤ 10)
    (hr : dmergeO (bs a (.tuple [b]) (.tuple []) (.tuple [.str "plain"]) (.int 400) (.tuple []) (.tuple [])) more = some (bs nm fk ls wy mo (.tuple hs) lk)) (hh : hs.length ≤ 1000)
    (hP : Gd 65536 100000 20 (plD nm fk ls wy mo hs lk)) (h : q (.d (.bool (isPlan (plD nm fk ls wy mo hs lk)))) κ) : wO (m__law_with [.d (.list (a :: b :: rs)), .d (.dict ds)] κ) q := by
  unfold m__law_with
  walk_at "w"
  simp only [ixZ, ixO]
  walk_at "w"
  try simp only [ixZ, ixO]
  walk_at "t"
  refine ⟨by decide +kernel, ?_⟩
  refine upd_w (kvs := bs a (.tuple [b]) (.tuple []) (.tuple [.str "plain"]) (.int 400) (.tuple []) (.tuple [])) rfl rfl get_app hd (by show 7 + more.length ≤ 1000; omega) hr ?_
  rw [set_app2]
  simp only [cg_w lkN, cg_w lkF, cg_w lkL, cg_w lkW, cg_w lkM, cg_w lkO, cg_w lkK]
  walk_at "w"
  try simp only [cg_w lkN, cg_w lkF, cg_w lkL, cg_w lkW, cg_w lkM, cg_w lkO, cg_w lkK]
  walk_at "t"
  try simp only [cg_w lkN, cg_w lkF, cg_w lkL, cg_w lkW, cg_w lkM, cg_w lkO, cg_w lkK]
  walk_at "t"
  refine ⟨by omega, ?_⟩
  refine plan_w (kok_bs hk) hP.g (by have := hP.w; exact Nat.le_trans this (by decide)) ?_
  exact (finD (q := q) hk rfl).mpr h
theorem lhouse_w (hk : KOk κ) (h : q (.d (hsD d)) κ) : wO (m__law_house [.d d] κ) q := by
  unfold m__law_house
  walk_at "w"
  exact (finD0 (q := q) hk rfl).mpr h
end

end Law

namespace Law
open DL L2 PyProof.Rows PySem PySem.Spec
local macro_rules | `(tactic| walk_at "w") => `(tactic| simp only [wDef0, wDef1, wDef2, wDef3, List.replicate, Nat.reduceSub, wSeq, wIf, wTb, wTr, wBin, wUn, wVar, wC, wCal, wCall, wCallK, wNil, wCons, wConsC, wLst, wTup, wNotT, wAndT, wOrT, wAnd, wOr, wNotE, wIfE, wChain, wNext, wSet, wSetC, wRet, wDrop, wAsg, wPar, wFor, wLc, wYes, wSl, wNoP, wPt, wRng1, wSrcA, wSrcS, wIsI, wIsI2, wCm, wMs, wRev, wPar3, wPar3k, wZipA, wZipLL, Option.bind_some, wDivm, wDget, wPNil, wPCons, wCget, wCput, wDispC, wLenSet, wTidx, Sx_len, wTupleT, wListL, wListT, ix50, ix51, ix52, ix53, ix54, ix30, ix31, ix32, wDisp, wDin, wDinS, wEqS, wEqB, wEqNS, wIsN, wInC, wOrdC, wInT, wInNT, wNinT, wNinNT, ix0, ix1,
  wOpt, tK_some, bK_some, bK_le, bK_lt, wGtI, wLtI, wLeI, wGeI, wModI, wFdivI, wMulI, wAddI, wSubI, wEqI, wNeI, wSlL, wSlN, wSlT, wSlS, wLenL, wLenT, wLenS, wIntT, wTupleN, wMin2, wAddNN, wAddLN, wAddNL, wAddLL, wAddTT, wAddSS, wMulN, wMulT, wMulS, fz_d, fz_n, fz_c, allD, put, truD, bName, bTup, bCons, bNil, wipeR,
  List.getElem?_cons_zero, List.getElem?_cons_succ, List.set_cons_zero, List.set_cons_succ, List.length_set, List.length_cons, List.length_nil, Option.map_some, Option.map_none, if_true, Bool.false_eq_true, if_false, Bool.not_true, Bool.not_false, List.map_cons, List.map_nil, true_and, and_true, Nat.reduceAdd, Nat.reduceLeDiff])
local macro_rules | `(tactic| walk_at "b") => `(tactic| simp (disch := assumption) only [ixB0, ixB1, ixB2, DL.subB0, DL.subB2, Option.bind_some, wDef0, wDef1, wDef2, wDef3, List.replicate, Nat.reduceSub, wSeq, wIf, wTb, wTr, wBin, wUn, wVar, wC, wCal, wCall, wCallK, wNil, wCons, wConsC, wLst, wTup, wNotT, wAndT, wOrT, wAnd, wOr, wNotE, wIfE, wChain, wNext, wSet, wSetC, wRet, wDrop, wAsg, wPar, wFor, wLc, wYes, wSl, wNoP, wPt, wRng1, wSrcA, wSrcS, wIsI, wIsI2, wCm, wMs, wRev, wPar3, wPar3k, wZipA, wZipLL, Option.bind_some, wDivm, wDget, wPNil, wPCons, wCget, wCput, wDispC, wLenSet, wTidx, Sx_len, wTupleT, wListL, wListT, ix50, ix51, ix52, ix53, ix54, ix30, ix31, ix32, wDisp, wDin, wDinS, wEqS, wEqB, wEqNS, wIsN, wInC, wOrdC, wInT, wInNT, wNinT, wNinNT, ix0, ix1,
  wOpt, tK_some, bK_some, bK_le, bK_lt, wGtI, wLtI, wLeI, wGeI, wModI, wFdivI, wMulI, wAddI, wSubI, wEqI, wNeI, wSlL, wSlN, wSlT, wSlS, wLenL, wLenT, wLenS, wIntT, wTupleN, wMin2, wAddNN, wAddLN, wAddNL, wAddLL, wAddTT, wAddSS, wMulN, wMulT, wMulS, fz_d, fz_n, fz_c, allD, put, truD, bName, bTup, bCons, bNil, wipeR,
  List.getElem?_cons_zero, List.getElem?_cons_succ, List.set_cons_zero, List.set_cons_succ, List.length_set, List.length_cons, List.length_nil, Option.map_some, Option.map_none, if_true, Bool.false_eq_true, if_false, Bool.not_true, Bool.not_false, List.map_cons, List.map_nil, true_and, and_true, Nat.reduceAdd, Nat.reduceLeDiff])
local macro_rules | `(tactic| walk_at "t") => `(tactic| (try walk_at "w"))
local macro_rules | `(tactic| walk_at "x") => `(tactic| simp (maxSteps := 4000000) only [wDef0, wDef1, wDef2, wDef3, List.replicate, Nat.reduceSub, wSeq, wIf, wTb, wTr, wBin, wUn, wVar, wC, wCal, wCall, wCallK, wNil, wCons, wConsC, wLst, wTup, wNotT, wAndT, wOrT, wAnd, wOr, wNotE, wIfE, wChain, wNext, wSet, wSetC, wRet, wDrop, wAsg, wPar, wFor, wLc, wYes, wSl, wNoP, wPt, wRng1, wSrcA, wSrcS, wIsI, wIsI2, wCm, wMs, wRev, wPar3, wPar3k, wZipA, wZipLL, Option.bind_some, wDivm, wDget, wPNil, wPCons, wCget, wCput, wDispC, wLenSet, wTidx, Sx_len, wTupleT, wListL, wListT, ix50, ix51, ix52, ix53, ix54, ix30, ix31, ix32, wDisp, wDin, wDinS, wEqS, wEqB, wEqNS, wIsN, wInC, wOrdC, wInT, wInNT, wNinT, wNinNT, ix0, ix1,
  wOpt, tK_some, bK_some, bK_le, bK_lt, wGtI, wLtI, wLeI, wGeI, wModI, wFdivI, wMulI, wAddI, wSubI, wEqI, wNeI, wSlL, wSlN, wSlT, wSlS, wLenL, wLenT, wLenS, wIntT, wTupleN, wMin2, wAddNN, wAddLN, wAddNL, wAddLL, wAddTT, wAddSS, wMulN, wMulT, wMulS, fz_d, fz_n, fz_c, allD, put, truD, bName, bTup, bCons, bNil, wipeR,
  List.getElem?_cons_zero, List.getElem?_cons_succ, List.set_cons_zero, List.set_cons_succ, List.length_set, List.length_cons, List.length_nil, Option.map_some, Option.map_none, if_true, Bool.false_eq_true, if_false, Bool.not_true, Bool.not_false, List.map_cons, List.map_nil, true_and, and_true, Nat.reduceAdd, Nat.reduceLeDiff])
section
variable {κ l : Kap} {ρ : Rho} {i j n N : Nat} {q Q : DV → Kap → Prop} {d : PyData} {v : Sv} {T : Int}
theorem lcP2 {G : MG} {el : ME} : ∀ {ps : List (PyData × PyData)} {acc : List PyData}, (∀ p ∈ ps, ∃ ρ', G (.d p.1) ρ κ = some (ρ', κ) ∧ ∀ q : DV → Kap → Prop, q (.d p.2) κ → wO (el ρ' κ) q) → acc.length + ps.length ≤ 1000000 →
    Q (.n (acc ++ ps.map (·.2))) κ → wO (lcGo G mYes el ρ (ps.map (·.1)) acc κ) Q
  | [], acc, _, _, h => by rw [List.map_nil, List.append_nil] at h; exact h
  | d :: r, acc, hs, hl, h => by
    obtain ⟨ρ', e, st⟩ := hs d (List.mem_cons_self ..)
    rw [List.length_cons] at hl
    rw [List.map_cons, wLcCons, e]
    dsimp only
    rw [wYes, if_pos rfl]
    refine st _ ?_
    simp only [fz]
    refine ⟨by omega, lcP2 (fun y m => hs y (List.mem_cons_of_mem _ m)) (by rw [List.length_append, List.length_singleton]; omega) ?_⟩
    rw [List.append_assoc]; exact h
theorem addCN {xs ys : List PyData} (h : κ[n]? = some (cl xs)) : wO (opt κ (addB κ (.c n) (.n ys))) q = (xs.length + ys.length ≤ 16000000 ∧ q (.n (xs ++ ys)) κ) := by
  have e : lv κ (.c n) = some xs := by
    unfold lv
    dsimp only
    rw [h]
    exact allD_map xs
  show wO (opt _ (addD _ (.c _) (.n ys))) q = _
  unfold addD
  simp only [e]
  exact wIf2
def bl (bs : List Bool) : List PyData := bs.map .bool
theorem hdA_bl (bs : List Bool) : PyData.hasDictAll (bl bs) = false := by
  unfold bl
  induction bs with
  | nil => rfl
  | cons k r ih => rw [List.map_cons, PyData.hasDictAll, ih]; rfl
theorem dpA_bl (bs : List Bool) : PyData.depthAll (bl bs) = 0 := by
  unfold bl
  induction bs with
  | nil => rfl
  | cons k r ih => rw [List.map_cons, PyData.depthAll, ih]; rfl
theorem eqv_bl (bs : List Bool) : PyData.eqvAll (bl bs) (bl bs) = true := by
  unfold bl
  induction bs with
  | nil => rfl
  | cons k r ih => rw [List.map_cons, PyData.eqvAll, ih, PyData.eqv]; cases k <;> rfl
theorem dat_c {bs : List Bool} (h : κ[n]? = some (cl (bl bs))) : dat κ (.c n) = some (.list (bl bs)) := by
  have e : lv κ (.c n) = some (bl bs) := by
    unfold lv
    dsimp only
    rw [h]
    exact allD_map _
  unfold dat
  dsimp only
  rw [e, Option.bind_some, if_pos (hdA_bl bs)]
theorem dat_n {bs : List Bool} : dat κ (.n (bl bs)) = some (.list (bl bs)) := by
  unfold dat
  dsimp only
  rw [show lv κ (.n (bl bs)) = some (bl bs) from rfl, Option.bind_some, if_pos (hdA_bl bs)]
theorem eqBl {x y : DV} {bs : List Bool} (hx : dat κ x = some (.list (bl bs))) (hy : dat κ y = some (.list (bl bs))) : wO (opt κ (eqD κ x y)) q = q (.d (.bool true)) κ := by
  have e : eqD κ x y = some (.d (.bool true)) := by
    unfold eqD eqDV
    rw [hx, hy]
    dsimp only
    rw [if_pos (by rw [PyData.depth, dpA_bl]; decide), PyData.eqv, eqv_bl]; rfl
  rw [e]; exact propext Iff.rfl
end
section
variable {κ l : Kap} {ρ : Rho} {i j n N : Nat} {q Q : DV → Kap → Prop} {d : PyData} {v : Sv} {T : Int}
theorem gdNm {s : Str} (h : isN (.str s) = true) : Gd 65536 8 0 (.str s) := by
  have h : isS 1 8 small (.str s) = true := h
  rw [isS, Bool.and_eq_true, Bool.and_eq_true, decide_eq_true_eq, decide_eq_true_eq] at h
  exact gd_str (by have := h.1.2; omega) (asc_small h.2)
theorem gdCon {x : PyData} {W D : Nat} (h : (gd 65536 x && decide (x.bulk ≤ W) && decide (x.depth ≤ D)) = true) : Gd 65536 W D x := by
  rw [Bool.and_eq_true, Bool.and_eq_true] at h
  exact ⟨h.1.1, of_decide_eq_true h.1.2, of_decide_eq_true h.2⟩
theorem gdPl {nm fk ls wy mo lk : PyData} {hs : List PyData} (h1 : Gd 65536 1000 8 nm) (h2 : Gd 65536 1000 8 fk) (h3 : Gd 65536 1000 8 ls) (h4 : Gd 65536 1000 8 wy) (h5 : Gd 65536 1000 8 mo) (h6 : ∀ x ∈ hs, Gd 65536 1000 8 x) (h7 : Gd 65536 1000 8 lk) (hl : hs.length ≤ 10) : Gd 65536 100000 20 (plD nm fk ls wy mo hs lk) := by
  have a1 : Gd 65536 5005 9 (.tuple [nm, fk, ls, wy, mo]) := Gd.tup (n := 5) (W := 1000) (D := 8) (fun x m => by
    simp only [List.mem_cons, List.not_mem_nil, or_false] at m
    rcases m with rfl | rfl | rfl | rfl | rfl <;> assumption) (Nat.le_refl _)
  have a2 : Gd 65536 55066 10 (.tuple (.tuple [nm, fk, ls, wy, mo] :: hs)) := Gd.tup (n := 11) (W := 5005) (D := 9) (fun x m => by
    rcases List.mem_cons.mp m with rfl | m
    · exact a1
    · exact (h6 x m).up (by decide) (by decide)) (by rw [List.length_cons]; omega)
  exact (a2.pair h7).up (by decide) (by decide)
theorem gdHs {a : Str} (h : isN (.str a) = true) : Gd 65536 1000 8 (hsD (.str a)) := by
  have : Gd 65536 505 3 (hsD (.str a)) := Gd.tup (n := 5) (W := 100) (D := 2) (fun x m => by
    simp only [List.mem_cons, List.not_mem_nil, or_false] at m
    rcases m with rfl | rfl | rfl | rfl | rfl
    · exact (gdNm h).up (by decide) (by decide)
    · exact gdCon (by decide +kernel)
    · exact gdCon (by decide +kernel)
    · exact gdCon (by decide +kernel)
    · exact gdCon (by decide +kernel)) (Nat.le_refl _)
  exact this.up (by decide) (by decide)
theorem gdStrs {t : List Str} (h : ∀ x ∈ t, isN (.str x) = true) (hl : t.length ≤ 12) : Gd 65536 1000 8 (.tuple (strL t)) :=
  (Gd.tup (n := 12) (W := 8) (D := 0) (fun x m => by obtain ⟨s, ms, rfl⟩ := List.mem_map.mp m; exact gdNm (h s ms)) (by rw [show (strL t).length = t.length from List.length_map ..]; exact hl)).up (by decide) (by decide)
theorem gdE {x : PyData} (h : (gd 65536 x && decide (x.bulk ≤ 1000) && decide (x.depth ≤ 8)) = true) : Gd 65536 1000 8 x := gdCon h
theorem gd0 : Gd 65536 1000 8 (.tuple []) := gdE (by decide +kernel)
theorem gdWy : Gd 65536 1000 8 wyP := gdE (by decide +kernel)
theorem gd4 : Gd 65536 1000 8 (.int 400) := gdE (by decide +kernel)
theorem gdS1 {a : Str} (h : isN (.str a) = true) : Gd 65536 1000 8 (.str a) := (gdNm h).up (by decide) (by decide)
theorem gdT1 {a : Str} (h : isN (.str a) = true) : Gd 65536 1000 8 (.tuple [.str a]) := gdStrs (t := [a]) (fun x m => by rw [List.mem_singleton.mp m]; exact h) (by simp)
theorem kok_cl (h : KOk κ) (bs : List Bool) : KOk (κ ++ [cl (bl bs)]) := h.app _
end
section
def szB1 : MS := (mSeq (mPar 4 5 false false (mCal tupleD (mCons (mSl slD (mVar 0) (mPt (mC (.int 1))) (mPt (mBin addB (mC (.int 1)) (mVar 3)))) (mNil))) (mCal tupleD (mCons (mLc (mSrcA (mSl slD (mVar 0) (mPt (mC (.int 2))) (mPt (mBin addB (mC (.int 2)) (mVar 3))))) (bName 10) (mYes) (mTup (mCons (mVar 10) (mCons (mTup (mCons (mTup (mCons (mBin ixD (mVar 0) (mC (.int 1))) (mCons (mBin ixD (mVar 0) (mC (.int 0))) (mNil)))) (mNil))) (mNil)))) [10]) (mNil)))) (mSeq (mSet 6 (mCal tupleD (mCons (mLc (mSrcA (mSl slD (mVar 0) (mPt (mC (.int 1))) (mPt (mBin addB (mC (.int 1)) (mVar 3))))) (bName 10) (mYes) (mTup (mCons (mVar 10) (mCons (mBin ixD (mVar 0) (mC (.int 0))) (mNil)))) [10]) (mNil)))) (mSeq (mSet 7 (mCal tupleD (mCons (mLc (mSrcA (mSl slD (mVar 0) (mPt (mC (.int 1))) (mPt (mBin addB (mC (.int 1)) (mVar 3))))) (bName 10) (mYes) (mCall m__law_house (mCons (mVar 10) (mNil))) [10]) (mNil)))) (mSeq (mSetC 1 (mBin addB (mVar 1) (mLst (mCons (mCall m__law_with (mCons (mVar 0) (mCons (mDisp (mPCons (.inr "folk") (mVar 4) (mPNil))) (mNil)))) (mCons (mCall m__law_with (mCons (mVar 0) (mCons (mDisp (mPCons (.inr "lists") (mVar 5) (mPNil))) (mNil)))) (mNil)))))) (mSeq (mSetC 1 (mBin addB (mVar 1) (mLst (mCons (mCall m__law_with (mCons (mVar 0) (mCons (mDisp (mPCons (.inr "lists") (mTup (mCons (mTup (mCons (mBin ixD (mVar 0) (mC (.int 2))) (mCons (mVar 6) (mNil)))) (mNil))) (mPNil))) (mNil)))) (mCons (mCall m__law_with (mCons (mVar 0) (mCons (mDisp (mPCons (.inr "more") (mVar 7) (mPNil))) (mNil)))) (mNil)))))) (mSetC 2 (mBin addB (mVar 2) (mLst (mCons (mChain (intD ltF) (intD ltF) (mC (.int 0)) (mVar 3) (mC (.int 5))) (mCons (mBin (intD ltF) (mVar 3) (mC (.int 4))) (mCons (mChain (intD ltF) (intD ltF) (mC (.int 0)) (mVar 3) (mC (.int 5))) (mCons (mBin (intD ltF) (mVar 3) (mC (.int 5))) (mNil)))))))))))))
def szB2 : MS := (mSet 8 (mBin addB (mVar 8) (mLc (mSrcA (mSl slD (mVar 0) (mPt (mBin addB (mVar 9) (mC (.int 1)))) (mPt (mC (.int 5))))) (bName 11) (mYes) (mTup (mCons (mVar 11) (mCons (mBin ixD (mVar 0) (mVar 9)) (mCons (mC (.int 1)) (mNil))))) [11])))
def szB3 : MS := (mSeq (mDrop (mCm appF (mVar 1) (mCons (mCall m__law_with (mCons (mVar 0) (mCons (mDisp (mPCons (.inr "more") (mVar 7) (mPCons (.inr "links") (mCal tupleD (mCons (mSl slD (mVar 8) (mNoP) (mPt (mVar 3))) (mNil))) (mPNil)))) (mNil)))) (mNil)))) (mDrop (mCm appF (mVar 2) (mCons (mBin (intD ltF) (mVar 3) (mC (.int 9))) (mNil)))))
theorem sz_eq : m__law_sizes_right = mDef 1 12 (mSeq (mPar 1 2 true true (mLst (mNil)) (mLst (mNil))) (mSeq (mFor (mRng1 (mCons (mC (.int 8)) (mNil))) (bName 3) szB1) (mSeq (mPar 7 8 false false (mCal tupleD (mCons (mLc (mSrcA (mSl slD (mVar 0) (mPt (mC (.int 1))) (mPt (mC (.int 5))))) (bName 10) (mYes) (mCall m__law_house (mCons (mVar 10) (mNil))) [10]) (mNil))) (mLst (mNil))) (mSeq (mFor (mRng1 (mCons (mC (.int 5)) (mNil))) (bName 9) szB2) (mSeq (mFor (mRng1 (mCons (mC (.int 11)) (mNil))) (bName 3) szB3) (mRet (mBin eqD (mVar 1) (mVar 2)))))))) := rfl
def nuB1 : MS := (mSeq (mDrop (mCm appF (mVar 1) (mCons (mCall m__law_with (mCons (mVar 0) (mCons (mDisp (mPCons (.inr "most") (mVar 4) (mPNil))) (mNil)))) (mNil)))) (mDrop (mCm appF (mVar 2) (mCons (mBin inD (mVar 4) (mTup (mCons (mC (.int 400)) (mCons (mC (.int 9000)) (mNil))))) (mNil)))))
def nuB2 : MS := (mSeq (mDrop (mCm appF (mVar 1) (mCons (mCall m__law_with (mCons (mVar 0) (mCons (mDisp (mPCons (.inr "more") (mVar 3) (mPCons (.inr "links") (mTup (mCons (mTup (mCons (mBin ixD (mVar 0) (mC (.int 0))) (mCons (mBin ixD (mVar 0) (mC (.int 2))) (mCons (mVar 4) (mNil))))) (mNil))) (mPNil)))) (mNil)))) (mNil)))) (mDrop (mCm appF (mVar 2) (mCons (mAnd (mBin inD (mVar 4) (mTup (mCons (mC (.int 1)) (mCons (mC (.int 4)) (mNil))))) (mNot (mIsI "bool" (mVar 4)))) (mNil)))))
theorem nu_eq : m__law_numbers_right = mDef 1 8 (mSeq (mPar3 1 2 3 (mConsC (mLst (mNil)) (mConsC (mLst (mNil)) (mCons (mTup (mCons (mCall m__law_house (mCons (mBin ixD (mVar 0) (mC (.int 2))) (mNil))) (mNil))) (mNil))))) (mSeq (mFor (mSrcA (mTup (mCons (mC (.int 399)) (mCons (mC (.int 400)) (mCons (mC (.int 9000)) (mCons (mC (.int 9001)) (mCons (mC (.int 0)) (mCons (mUn negB (mC (.int 400))) (mCons (mC (.bool true)) (mCons (mC .none) (mCons (mC (.str "400")) (mNil)))))))))))) (bName 4) nuB1) (mSeq (mFor (mSrcA (mTup (mCons (mC (.int 0)) (mCons (mC (.int 1)) (mCons (mC (.int 4)) (mCons (mC (.int 5)) (mCons (mUn negB (mC (.int 1))) (mCons (mC (.bool true)) (mCons (mC .none) (mCons (mC (.str "1")) (mNil))))))))))) (bName 4) nuB2) (mSeq (mSet 5 (mLst (mCons (mTup (mCons (mC (.str "plain")) (mNil))) (mCons (mTup (mCons (mC (.str "packed")) (mNil))) (mCons (mTup (mCons (mC (.str "plain")) (mCons (mC (.str "packed")) (mNil)))) (mCons (mTup (mCons (mC (.str "plain")) (mCons (mC (.str "marked")) (mCons (mC (.str "packed")) (mNil))))) (mCons (mTup (mCons (mC (.str "marked")) (mCons (mC (.str "packed")) (mNil)))) (mNil)))))))) (mSeq (mSet 6 (mLst (mCons (mTup (mNil)) (mCons (mTup (mCons (mC (.str "packed")) (mCons (mC (.str "plain")) (mNil)))) (mCons (mTup (mCons (mC (.str "plain")) (mCons (mC (.str "plain")) (mNil)))) (mCons (mTup (mCons (mC (.str "Plain")) (mNil))) (mCons (mLst (mCons (mC (.str "plain")) (mNil))) (mCons (mC (.str "plain")) (mCons (mTup (mCons (mC .none) (mNil))) (mCons (mTup (mCons (mC (.str "marked")) (mCons (mC (.str "plain")) (mNil)))) (mNil))))))))))) (mSeq (mSetC 1 (mBin addB (mVar 1) (mLc (mSrcA (mBin addB (mVar 5) (mVar 6))) (bName 7) (mYes) (mCall m__law_with (mCons (mVar 0) (mCons (mDisp (mPCons (.inr "ways") (mVar 7) (mPNil))) (mNil)))) [7]))) (mRet (mBin eqD (mVar 1) (mBin addB (mBin addB (mVar 2) (mBin mulD (mLst (mCons (mC (.bool true)) (mNil))) (mC (.int 5)))) (mBin mulD (mLst (mCons (mC (.bool false)) (mNil))) (mC (.int 8)))))))))))) := rfl
end
section
variable {κ l : Kap} {ρ : Rho} {i j n N : Nat} {q Q : DV → Kap → Prop} {d : PyData} {v : Sv} {T : Int}
theorem ix2' {a b c : PyData} {r : List PyData} : ixD κ (.d (.list (a :: b :: c :: r))) (.d (.int 2)) = some (.d c) := by
  show (atI (a :: b :: c :: r) 2).map DV.d = _
  unfold atI ixN
  rw [if_pos (by decide), if_pos (by simp only [List.length_cons]; omega)]; rfl
theorem szB1_w (hk : KOk κ) {a b c : Str} {r : List Str} (hN : Nms (a :: b :: c :: r)) {k : Nat} (k7 : k < 8) {L : List Bool} {i1 i2 : Nat} (h1 : κ[i1]? = some (cl (bl L))) (h2 : κ[i2]? = some (cl (bl L))) (lL : L.length ≤ 1000) {x4 x5 x6 x7 x8 x9 x10 x11 : Option DV} {Z : Po}
    (hZ : ∀ (L' : List Bool) (κ' : Kap) (i1' i2' : Nat) (y4 y5 y6 y7 y10 : Option DV), KOk κ' → (∃ l, κ' = κ ++ l) → κ'[i1']? = some (cl (bl L')) → κ'[i2']? = some (cl (bl L')) → L'.length ≤ L.length + 4 → i1' ≠ i2' → κ.length ≤ i1' ∧ κ.length ≤ i2' →
      Z.nx [some (.d (.list (.str a :: .str b :: .str c :: strL r))), some (.c i1'), some (.c i2'), some (.d (.int k)), y4, y5, y6, y7, x8, x9, y10, x11] κ') :
    wP (szB1 [some (.d (.list (.str a :: .str b :: .str c :: strL r))), some (.c i1), some (.c i2), some (.d (.int k)), x4, x5, x6, x7, x8, x9, x10, x11] κ) Z := by
  have lks := hN.len
  simp only [List.length_cons] at lks
  have e1 : (DL.cutD (.str a :: .str b :: .str c :: strL r) (some 1) (some (1 + (k : Int)))) = strL ((b :: c :: r).take k) := by
    rw [cutMid (by decide) (by omega)]
    unfold strL
    rw [show Int.toNat 1 = 1 from rfl, show (1 + (k : Int)).toNat - 1 = k by omega, List.map_take]
    rfl
  have e2 : (DL.cutD (.str a :: .str b :: .str c :: strL r) (some 2) (some (2 + (k : Int)))) = strL ((c :: r).take k) := by
    rw [cutMid (by decide) (by omega)]
    unfold strL
    rw [show Int.toNat 2 = 2 from rfl, show (2 + (k : Int)).toNat - 2 = k by omega, List.map_take]
    rfl
  have s1 : ∀ x ∈ (b :: c :: r).take k, x ∈ a :: b :: c :: r := fun x m => List.mem_cons_of_mem _ (List.mem_of_mem_take m)
  have s2 : ∀ x ∈ (c :: r).take k, x ∈ a :: b :: c :: r := fun x m => List.mem_cons_of_mem _ (List.mem_cons_of_mem _ (List.mem_of_mem_take m))
  have l1 : ((b :: c :: r).take k).length = k := by rw [List.length_take]; simp only [List.length_cons]; omega
  have l2 : ((c :: r).take k).length = k := by rw [List.length_take]; simp only [List.length_cons]; omega
  have na := hN.nm a (by simp); have nb := hN.nm b (by simp); have nc := hN.nm c (by simp)
  have pb : ("post" : Str) ≠ b := fun z => hN.po (by rw [z]; simp)
  have pc : ("post" : Str) ≠ c := fun z => hN.po (by rw [z]; simp)
  have nd := hN.nd
  have nd0 : (a :: (b :: c :: r).take k).Nodup := List.Sublist.nodup ((List.take_sublist _ _).cons₂ _) nd
  have nd1 : ((b :: c :: r).take k).Nodup := (List.nodup_cons.mp nd0).2
  have nd2 : (b :: (c :: r).take k).Nodup := List.Sublist.nodup ((List.take_sublist _ _).cons₂ _) (List.nodup_cons.mp nd).2
  have bc : b ≠ c := fun z => (List.nodup_cons.mp (List.nodup_cons.mp nd).2).1 (by rw [z]; simp)
  generalize hg1 : (b :: c :: r).take k = t1 at e1 s1 l1 nd0 nd1
  generalize hg2 : (c :: r).take k = t2 at e2 s2 l2 nd2
  have m1 : ∀ x ∈ t1, isN (.str x) = true := fun x m => hN.nm x (s1 x m)
  have m2 : ∀ x ∈ t2, isN (.str x) = true := fun x m => hN.nm x (s2 x m)
  have p1 : ("post" : Str) ∉ t1 := fun m => hN.po (s1 _ m)
  have p2 : ("post" : Str) ∉ b :: t2 := fun m => by
    rcases List.mem_cons.mp m with m | m
    · exact pb m
    · exact hN.po (s2 _ m)
  have L1 : (strL t1).length ≤ 7 := by rw [show (strL t1).length = t1.length from List.length_map ..]; omega
  have L2' : (strL t2).length ≤ 7 := by rw [show (strL t2).length = t2.length from List.length_map ..]; omega
  unfold szB1
  walk_at "w"
  rw [e1]
  walk_at "t"
  rw [e2]
  refine lcPure (F := fun x => .tuple [x, .tuple [.tuple [.str b, .str a]]]) (fun x mx => ⟨_, rfl, fun q hq => ?_⟩) (by rw [List.length_nil]; omega) ?_
  · simp only [List.set_cons_succ, List.set_cons_zero]
    walk_at "w"
    simp only [ixZ, ixO]
    walk_at "w"
    try simp only [ixZ, ixO]
    walk_at "t"
    exact hq
  rw [List.nil_append, show (strL t2).map (fun x => PyData.tuple [x, .tuple [.tuple [.str b, .str a]]]) = t2.map fun x => .tuple [.str x, .tuple [.tuple [.str b, .str a]]] by unfold strL; rw [List.map_map]; rfl]
  walk_at "w"
  refine lcPure (F := fun x => .tuple [x, .str a]) (fun x mx => ⟨_, rfl, fun q hq => ?_⟩) (by rw [List.length_nil]; omega) ?_
  · simp only [List.set_cons_succ, List.set_cons_zero]
    walk_at "w"
    simp only [ixZ, ixO]
    walk_at "t"
    exact hq
  rw [List.nil_append, show (strL t1).map (fun x => PyData.tuple [x, .str a]) = t1.map fun x => .tuple [.str x, .str a] by unfold strL; rw [List.map_map]; rfl]
  walk_at "w"
  refine lcPure (F := hsD) (fun x mx => ⟨_, rfl, fun q hq => ?_⟩) (by rw [List.length_nil]; omega) ?_
  · simp only [List.set_cons_succ, List.set_cons_zero]
    walk_at "w"
    exact lhouse_w hk hq
  rw [List.nil_append, show (strL t1).map hsD = t1.map fun x => hsD (.str x) by unfold strL; rw [List.map_map]; rfl]
  walk_at "w"
  simp only [allKD, Option.map_some, keyDt]
  refine ⟨by simp, ?_⟩
  refine with_w hk rfl (by show 1 ≤ 10; decide) mgF (by simp) (gdPl (gdS1 na) (gdStrs m1 (by omega)) gd0 gdWy gd4 (by simp) gd0 (by simp)) ?_
  rw [evF na m1 nd1 p1]
  walk_at "t"
  try simp only [allKD, Option.map_some, keyDt]
  refine ⟨by simp, ?_⟩
  refine with_w hk rfl (by show 1 ≤ 10; decide) mgL (by simp) (gdPl (gdS1 na) (gdT1 nb) ?_ gdWy gd4 (by simp) gd0 (by simp)) ?_
  · exact (Gd.tup (n := 8) (W := 30) (D := 4) (fun x m => by
      obtain ⟨s, ms, rfl⟩ := List.mem_map.mp m
      exact ((gdNm (m2 s ms)).pair (Gd.tup (n := 1) (W := 18) (D := 1) (fun x m => by rw [List.mem_singleton.mp m]; exact (gdNm nb).pair (gdNm na)) (Nat.le_refl _))).up (by decide) (by decide)) (by rw [List.length_map]; omega)).up (by decide) (by decide)
  rw [evL na nb m2 nd2 p2]
  walk_at "t"
  rw [addCN h1]
  refine ⟨by simp [bl]; omega, ?_⟩
  rw [show ∀ x y : Bool, bl L ++ [PyData.bool x, .bool y] = bl (L ++ [x, y]) from fun x y => by unfold bl; rw [List.map_append]; rfl]
  dsimp only
  simp only [ix2']
  walk_at "t"
  refine ⟨by simp, ?_⟩
  generalize hg3 : L ++ [decide (1 ≤ t1.length ∧ t1.length ≤ 4), decide (t2.length ≤ 3)] = L3
  have hk3 : KOk (κ ++ [Cell.lst (List.map DV.d (bl L3))]) := hk.app _
  refine with_w hk3 rfl (by show 1 ≤ 10; decide) mgL (by simp) (gdPl (gdS1 na) (gdT1 nb) ?_ gdWy gd4 (by simp) gd0 (by simp)) ?_
  · exact (Gd.tup (n := 1) (W := 165) (D := 4) (fun x m => by
      rw [List.mem_singleton.mp m]
      exact ((gdNm nc).pair (Gd.tup (n := 8) (W := 18) (D := 1) (fun x m => by obtain ⟨s, ms, rfl⟩ := List.mem_map.mp m; exact (gdNm (m1 s ms)).pair (gdNm na)) (by rw [List.length_map]; omega))).up (by decide) (by decide)) (Nat.le_refl _)).up (by decide) (by decide)
  rw [evAdr na nb nc m1 nd1 bc (by simp [pb, pc])]
  walk_at "t"
  refine ⟨by simp, ?_⟩
  refine with_w hk3 rfl (by show 1 ≤ 10; decide) mgO (by rw [List.length_map]; omega) (gdPl (gdS1 na) (gdT1 nb) gd0 gdWy gd4 (fun x m => by obtain ⟨s, ms, rfl⟩ := List.mem_map.mp m; exact gdHs (m1 s ms)) gd0 (by rw [List.length_map]; omega)) ?_
  rw [evH na nb pb m1]
  walk_at "t"
  rw [addCN (n := κ.length) (xs := bl L3) get_app]
  refine ⟨by simp [bl, ← hg3]; omega, ?_⟩
  dsimp only
  have V : (decide (t1.length ≤ 4) && decide (a :: t1).Nodup && decide True && [].all (isLink (a :: t1)) && decide ([] : List (List Str)).Nodup) = decide (k ≤ 4) := by
    rw [l1, decide_eq_true nd0]; simp
  have i2l : i2 < κ.length := (List.getElem?_eq_some_iff.mp h2).1
  have T4 : bl L3 ++ [PyData.bool (decide (1 ≤ t1.length ∧ t1.length ≤ 4)), PyData.bool (decide (t1.length ≤ 4) && decide (a :: t1).Nodup && decide True && [].all (isLink (a :: t1)) && decide ([] : List (List Str)).Nodup)] = bl (L ++ [decide (1 ≤ k ∧ k ≤ 4), decide (k ≤ 3), decide (1 ≤ k ∧ k ≤ 4), decide (k ≤ 4)]) := by
    rw [V, ← hg3, l1, l2]
    simp [bl]
  rw [T4]
  have D5 : decide ((k : Int) < 5) = decide (k ≤ 4) := decide_eq_decide.mpr (by omega)
  have D4 : decide ((k : Int) < 4) = decide (k ≤ 3) := decide_eq_decide.mpr (by omega)
  have fin4 : ∀ (u : Bool) (x y z w x10 : Option DV), u = decide (1 ≤ k ∧ k ≤ 4) → wO (opt (κ ++ [cl (bl L3)] ++ [Cell.lst (List.map DV.d (bl (L ++ [decide (1 ≤ k ∧ k ≤ 4), decide (k ≤ 3), decide (1 ≤ k ∧ k ≤ 4), decide (k ≤ 4)])))]) (addB (κ ++ [cl (bl L3)] ++ [Cell.lst (List.map DV.d (bl (L ++ [decide (1 ≤ k ∧ k ≤ 4), decide (k ≤ 3), decide (1 ≤ k ∧ k ≤ 4), decide (k ≤ 4)])))]) (DV.c i2) (DV.n [PyData.bool u, PyData.bool (decide (k ≤ 3)), PyData.bool u, PyData.bool (decide (k ≤ 4))]))) fun x0 κ1 => match x0 with
      | DV.n xs => Z.nx [some (DV.d (PyData.list (PyData.str a :: PyData.str b :: PyData.str c :: strL r))), some (DV.c (List.length (κ ++ [cl (bl L3)]))), some (DV.c (List.length κ1)), some (DV.d (PyData.int k)), x, y, z, w, x8, x9, x10, x11] (κ1 ++ [Cell.lst (List.map DV.d xs)])
      | x => False := fun u x y z w x10 hu => by
    have hl : (κ ++ [cl (bl L3)] ++ [Cell.lst (List.map DV.d (bl (L ++ [decide (1 ≤ k ∧ k ≤ 4), decide (k ≤ 3), decide (1 ≤ k ∧ k ≤ 4), decide (k ≤ 4)])))])[i2]? = some (cl (bl L)) := by
      rw [List.getElem?_append_left (by simp; omega), List.getElem?_append_left i2l]; exact h2
    rw [addCN hl]
    refine ⟨by simp [bl]; omega, ?_⟩
    rw [show bl L ++ [PyData.bool u, .bool (decide (k ≤ 3)), .bool u, .bool (decide (k ≤ 4))] = bl (L ++ [decide (1 ≤ k ∧ k ≤ 4), decide (k ≤ 3), decide (1 ≤ k ∧ k ≤ 4), decide (k ≤ 4)]) by subst hu; simp [bl]]
    dsimp only
    generalize hg4 : L ++ [decide (1 ≤ k ∧ k ≤ 4), decide (k ≤ 3), decide (1 ≤ k ∧ k ≤ 4), decide (k ≤ 4)] = L4
    refine hZ L4 _ _ _ _ _ _ _ _ (((hk.app _).app _).app _) ⟨_, by rw [List.append_assoc, List.append_assoc]⟩ ?_ get_app (by rw [← hg4, List.length_append]; simp) (by simp) ⟨by simp, by simp⟩
    rw [List.getElem?_append_left (by simp)]
    exact get_app
  by_cases h0 : 0 < (k : Int)
  · rw [if_pos h0, if_pos h0, D5, D4]
    exact fin4 _ _ _ _ _ _ (decide_eq_decide.mpr (by omega))
  · rw [if_neg h0, if_neg h0, D5, D4]
    exact fin4 _ _ _ _ _ _ (decide_eq_false (by omega)).symm
end

end Law

namespace Law
open DL L2 PyProof.Rows PySem PySem.Spec
local macro_rules | `(tactic| walk_at "w") => `(tactic| simp only [wDef0, wDef1, wDef2, wDef3, List.replicate, Nat.reduceSub, wSeq, wIf, wTb, wTr, wBin, wUn, wVar, wC, wCal, wCall, wCallK, wNil, wCons, wConsC, wLst, wTup, wNotT, wAndT, wOrT, wAnd, wOr, wNotE, wIfE, wChain, wNext, wSet, wSetC, wRet, wDrop, wAsg, wPar, wFor, wLc, wYes, wSl, wNoP, wPt, wRng1, wSrcA, wSrcS, wIsI, wIsI2, wCm, wMs, wRev, wPar3, wPar3k, wZipA, wZipLL, Option.bind_some, wDivm, wDget, wPNil, wPCons, wCget, wCput, wDispC, wLenSet, wTidx, Sx_len, wTupleT, wListL, wListT, ix50, ix51, ix52, ix53, ix54, ix30, ix31, ix32, wDisp, wDin, wDinS, wEqS, wEqB, wEqNS, wIsN, wInC, wOrdC, wInT, wInNT, wNinT, wNinNT, ix0, ix1,
  wOpt, tK_some, bK_some, bK_le, bK_lt, wGtI, wLtI, wLeI, wGeI, wModI, wFdivI, wMulI, wAddI, wSubI, wEqI, wNeI, wSlL, wSlN, wSlT, wSlS, wLenL, wLenT, wLenS, wIntT, wTupleN, wMin2, wAddNN, wAddLN, wAddNL, wAddLL, wAddTT, wAddSS, wMulN, wMulT, wMulS, fz_d, fz_n, fz_c, allD, put, truD, bName, bTup, bCons, bNil, wipeR,
  List.getElem?_cons_zero, List.getElem?_cons_succ, List.set_cons_zero, List.set_cons_succ, List.length_set, List.length_cons, List.length_nil, Option.map_some, Option.map_none, if_true, Bool.false_eq_true, if_false, Bool.not_true, Bool.not_false, List.map_cons, List.map_nil, true_and, and_true, Nat.reduceAdd, Nat.reduceLeDiff])
local macro_rules | `(tactic| walk_at "b") => `(tactic| simp (disch := assumption) only [ixB0, ixB1, ixB2, DL.subB0, DL.subB2, Option.bind_some, wDef0, wDef1, wDef2, wDef3, List.replicate, Nat.reduceSub, wSeq, wIf, wTb, wTr, wBin, wUn, wVar, wC, wCal, wCall, wCallK, wNil, wCons, wConsC, wLst, wTup, wNotT, wAndT, wOrT, wAnd, wOr, wNotE, wIfE, wChain, wNext, wSet, wSetC, wRet, wDrop, wAsg, wPar, wFor, wLc, wYes, wSl, wNoP, wPt, wRng1, wSrcA, wSrcS, wIsI, wIsI2, wCm, wMs, wRev, wPar3, wPar3k, wZipA, wZipLL, Option.bind_some, wDivm, wDget, wPNil, wPCons, wCget, wCput, wDispC, wLenSet, wTidx, Sx_len, wTupleT, wListL, wListT, ix50, ix51, ix52, ix53, ix54, ix30, ix31, ix32, wDisp, wDin, wDinS, wEqS, wEqB, wEqNS, wIsN, wInC, wOrdC, wInT, wInNT, wNinT, wNinNT, ix0, ix1,
  wOpt, tK_some, bK_some, bK_le, bK_lt, wGtI, wLtI, wLeI, wGeI, wModI, wFdivI, wMulI, wAddI, wSubI, wEqI, wNeI, wSlL, wSlN, wSlT, wSlS, wLenL, wLenT, wLenS, wIntT, wTupleN, wMin2, wAddNN, wAddLN, wAddNL, wAddLL, wAddTT, wAddSS, wMulN, wMulT, wMulS, fz_d, fz_n, fz_c, allD, put, truD, bName, bTup, bCons, bNil, wipeR,
  List.getElem?_cons_zero, List.getElem?_cons_succ, List.set_cons_zero, List.set_cons_succ, List.length_set, List.length_cons, List.length_nil, Option.map_some, Option.map_none, if_true, Bool.false_eq_true, if_false, Bool.not_true, Bool.not_false, List.map_cons, List.map_nil, true_and, and_true, Nat.reduceAdd, Nat.reduceLeDiff])
local macro_rules | `(tactic| walk_at "t") => `(tactic| (try walk_at "w"))
local macro_rules | `(tactic| walk_at "x") => `(tactic| simp (maxSteps := 4000000) only [wDef0, wDef1, wDef2, wDef3, List.replicate, Nat.reduceSub, wSeq, wIf, wTb, wTr, wBin, wUn, wVar, wC, wCal, wCall, wCallK, wNil, wCons, wConsC, wLst, wTup, wNotT, wAndT, wOrT, wAnd, wOr, wNotE, wIfE, wChain, wNext, wSet, wSetC, wRet, wDrop, wAsg, wPar, wFor, wLc, wYes, wSl, wNoP, wPt, wRng1, wSrcA, wSrcS, wIsI, wIsI2, wCm, wMs, wRev, wPar3, wPar3k, wZipA, wZipLL, Option.bind_some, wDivm, wDget, wPNil, wPCons, wCget, wCput, wDispC, wLenSet, wTidx, Sx_len, wTupleT, wListL, wListT, ix50, ix51, ix52, ix53, ix54, ix30, ix31, ix32, wDisp, wDin, wDinS, wEqS, wEqB, wEqNS, wIsN, wInC, wOrdC, wInT, wInNT, wNinT, wNinNT, ix0, ix1,
  wOpt, tK_some, bK_some, bK_le, bK_lt, wGtI, wLtI, wLeI, wGeI, wModI, wFdivI, wMulI, wAddI, wSubI, wEqI, wNeI, wSlL, wSlN, wSlT, wSlS, wLenL, wLenT, wLenS, wIntT, wTupleN, wMin2, wAddNN, wAddLN, wAddNL, wAddLL, wAddTT, wAddSS, wMulN, wMulT, wMulS, fz_d, fz_n, fz_c, allD, put, truD, bName, bTup, bCons, bNil, wipeR,
  List.getElem?_cons_zero, List.getElem?_cons_succ, List.set_cons_zero, List.set_cons_succ, List.length_set, List.length_cons, List.length_nil, Option.map_some, Option.map_none, if_true, Bool.false_eq_true, if_false, Bool.not_true, Bool.not_false, List.map_cons, List.map_nil, true_and, and_true, Nat.reduceAdd, Nat.reduceLeDiff])
section
variable {κ l : Kap} {ρ : Rho} {i j n N : Nat} {q Q : DV → Kap → Prop} {d : PyData} {v : Sv} {T : Int}
def lkD (x y : Str) : PyData := .tuple [.str x, .str y, .int 1]
def PR (a b c e f : Str) : List PyData := [lkD b a, lkD c a, lkD e a, lkD f a, lkD c b, lkD e b, lkD f b, lkD e c, lkD f c, lkD f e]
abbrev nmsD (a b c e f : Str) (r : List Str) : PyData := .list (.str a :: .str b :: .str c :: .str e :: .str f :: strL r)
structure N5 (a b c e f : Str) : Prop where
  na : isN (.str a) = true
  nb : isN (.str b) = true
  nc : isN (.str c) = true
  ne : isN (.str e) = true
  nf : isN (.str f) = true
  nd : [a, b, c, e, f].Nodup
  pb : ("post" : Str) ≠ b
theorem n5_of {a b c e f : Str} {r : List Str} (h : Nms (a :: b :: c :: e :: f :: r)) : N5 a b c e f := by
  refine ⟨h.nm _ (by simp), h.nm _ (by simp), h.nm _ (by simp), h.nm _ (by simp), h.nm _ (by simp), ?_, fun z => h.po (by rw [z]; simp)⟩
  exact List.Sublist.nodup (List.sublist_append_left [a, b, c, e, f] r) h.nd
theorem PR_len {a b c e f : Str} : (PR a b c e f).length = 10 := rfl
theorem PR_link {a b c e f : Str} (h : N5 a b c e f) : (PR a b c e f).all (isLink [a, b, c, e, f]) = true := by
  have := h.na; have := h.nb; have := h.nc; have := h.ne; have := h.nf
  have nd := h.nd
  simp only [List.nodup_cons, List.mem_cons, List.not_mem_nil, or_false, not_or] at nd
  obtain ⟨⟨n1, n2, n3, n4⟩, ⟨n5, n6, n7⟩, ⟨n8, n9⟩, n10, _⟩ := nd
  have s1 := Ne.symm n1; have s2 := Ne.symm n2; have s3 := Ne.symm n3; have s4 := Ne.symm n4; have s5 := Ne.symm n5
  have s6 := Ne.symm n6; have s7 := Ne.symm n7; have s8 := Ne.symm n8; have s9 := Ne.symm n9; have s10 := Ne.symm n10
  have i1 : isIn 1 4 (.int 1) = true := by decide
  simp [PR, lkD, isLink, *]
theorem PR_nd {a b c e f : Str} (h : N5 a b c e f) : ((PR a b c e f).map prOf).Nodup := by
  have nd := h.nd
  simp only [List.nodup_cons, List.mem_cons, List.not_mem_nil, or_false, not_or] at nd
  obtain ⟨⟨n1, n2, n3, n4⟩, ⟨n5, n6, n7⟩, ⟨n8, n9⟩, n10, _⟩ := nd
  have s1 := Ne.symm n1; have s2 := Ne.symm n2; have s3 := Ne.symm n3; have s4 := Ne.symm n4; have s5 := Ne.symm n5
  have s6 := Ne.symm n6; have s7 := Ne.symm n7; have s8 := Ne.symm n8; have s9 := Ne.symm n9; have s10 := Ne.symm n10
  simp [PR, lkD, prOf, sortS_two, *]
theorem PR_ev {a b c e f : Str} (h : N5 a b c e f) {k : Nat} (hk : k < 11) : isPlan (plD (.str a) (.tuple [.str b]) (.tuple []) wyP (.int 400) ([b, c, e, f].map fun x => hsD (.str x)) (.tuple ((PR a b c e f).take k))) = decide (k < 9) := by
  rw [evH h.na h.nb h.pb (fun x m => by
    simp only [List.mem_cons, List.not_mem_nil, or_false] at m
    rcases m with rfl | rfl | rfl | rfl
    · exact h.nb
    · exact h.nc
    · exact h.ne
    · exact h.nf)]
  have e1 : ((PR a b c e f).take k).all (isLink [a, b, c, e, f]) = true := by
    rw [List.all_eq_true]; intro x m
    exact List.all_eq_true.mp (PR_link h) x (List.mem_of_mem_take m)
  have e2 : (((PR a b c e f).take k).map prOf).Nodup := List.Sublist.nodup ((List.take_sublist _ _).map _) (PR_nd h)
  have e3 : ((PR a b c e f).take k).length = k := by rw [List.length_take, PR_len]; omega
  rw [e1, decide_eq_true e2, e3, decide_eq_true h.nd]
  simp only [List.length_cons, List.length_nil, Bool.and_true]
  simp
  omega
theorem st2 {nm : List PyData} {j : Nat} {y : Str} {xs : List Str} {acc : List PyData} (hc : DL.cutD nm (some ((j : Int) + 1)) (some 5) = strL xs) (hy : atI nm (j : Int) = some (.str y)) (lx : xs.length ≤ 10) (la : acc.length ≤ 1000) {x1 x2 x3 x4 x5 x6 x7 x10 x11 : Option DV} {Z : Po}
    (hZ : Z.nx [some (.d (.list nm)), x1, x2, x3, x4, x5, x6, x7, some (.d (.list (acc ++ xs.map fun x => lkD x y))), some (.d (.int j)), x10, x11] κ) : wP (szB2 [some (.d (.list nm)), x1, x2, x3, x4, x5, x6, x7, some (.d (.list acc)), some (.d (.int j)), x10, x11] κ) Z := by
  have hy' : ∀ κ, ixD κ (.d (.list nm)) (.d (.int j)) = some (.d (.str y)) := fun κ => by
    show (atI nm (j : Int)).map DV.d = _
    rw [hy]; rfl
  unfold szB2
  walk_at "w"
  rw [hc]
  refine lcPure (F := fun x => .tuple [x, .str y, .int 1]) (fun x mx => ⟨_, rfl, fun q hq => ?_⟩) (by rw [List.length_nil, show (strL xs).length = xs.length from List.length_map ..]; omega) ?_
  · simp only [List.set_cons_succ, List.set_cons_zero]
    walk_at "w"
    rw [hy']
    walk_at "t"
    exact hq
  rw [List.nil_append, show (strL xs).map (fun x => PyData.tuple [x, .str y, .int 1]) = xs.map fun x => lkD x y by unfold strL; rw [List.map_map]; rfl]
  walk_at "w"
  refine ⟨by rw [List.length_map]; omega, ?_⟩
  exact hZ
theorem lp2 {a b c e f : Str} {r : List Str} {x1 x2 x3 x4 x5 x6 x7 x9 x10 x11 : Option DV} {Z : Po} (lr : r.length = 7)
    (hZ : Z.nx [some (.d (nmsD a b c e f r)), x1, x2, x3, x4, x5, x6, x7, some (.d (.list (PR a b c e f))), some (.d (.int 4)), x10, x11] κ) :
    wP (forGo (bName 9) szB2 (rngD 0 5) [some (.d (nmsD a b c e f r)), x1, x2, x3, x4, x5, x6, x7, some (.d (.list [])), x9, x10, x11] κ) Z := by
  have at' : ∀ {k : Nat} {y : PyData} {nm : List PyData}, k < nm.length → nm[k]? = some y → atI nm (k : Int) = some y := fun {k y nm} h e => by
    unfold atI ixN
    rw [if_pos (by omega), if_pos (by omega)]
    exact e
  have cu : ∀ j : Nat, j < 5 → DL.cutD (.str a :: .str b :: .str c :: .str e :: .str f :: strL r) (some ((j : Int) + 1)) (some 5) = strL (([a, b, c, e, f] ++ r).drop (j + 1) |>.take (4 - j)) := fun j hj => by
    rw [cutMid (by omega) (by omega), show ((j : Int) + 1).toNat = j + 1 by omega, show Int.toNat 5 - (j + 1) = 4 - j by omega]
    unfold strL
    rw [List.map_take, List.map_drop]; rfl
  have ln : (PyData.str a :: .str b :: .str c :: .str e :: .str f :: strL r).length = 12 := by
    simp only [List.length_cons]; rw [show (strL r).length = r.length from List.length_map ..]; omega
  rw [show rngD 0 5 = [.int (0 : Nat), .int (1 : Nat), .int (2 : Nat), .int (3 : Nat), .int (4 : Nat)] from rfl]
  rw [wForCons]
  refine st2 (j := 0) (y := a) (xs := [b, c, e, f]) (acc := []) (cu 0 (by omega)) (at' (by omega) rfl) (by simp) (by simp) ?_
  dsimp only
  rw [wForCons]
  refine st2 (j := 1) (y := b) (xs := [c, e, f]) (cu 1 (by omega)) (at' (by omega) rfl) (by simp) (by simp) ?_
  dsimp only
  rw [wForCons]
  refine st2 (j := 2) (y := c) (xs := [e, f]) (cu 2 (by omega)) (at' (by omega) rfl) (by simp) (by simp) ?_
  dsimp only
  rw [wForCons]
  refine st2 (j := 3) (y := e) (xs := [f]) (cu 3 (by omega)) (at' (by omega) rfl) (by simp) (by simp) ?_
  dsimp only
  rw [wForCons]
  refine st2 (j := 4) (y := f) (xs := []) (cu 4 (by omega)) (at' (by omega) rfl) (by simp) (by simp) ?_
  exact hZ
theorem szB3_w (hk : KOk κ) {a b c e f : Str} {r : List Str} (h5 : N5 a b c e f) {k : Nat} (hk11 : k < 11) {L : List Bool} {i1 i2 : Nat} (h1 : κ[i1]? = some (cl (bl L))) (h2 : κ[i2]? = some (cl (bl L))) (ne : i1 ≠ i2) (lL : L.length ≤ 1000) {x4 x5 x6 x9 x10 x11 : Option DV} {Z : Po}
    (hZ : ∀ (L' : List Bool) (κ' : Kap), KOk κ' → κ' = (κ.set i1 (cl (bl L'))).set i2 (cl (bl L')) → κ'[i1]? = some (cl (bl L')) → κ'[i2]? = some (cl (bl L')) → L'.length ≤ L.length + 1 →
      Z.nx [some (.d (nmsD a b c e f r)), some (.c i1), some (.c i2), some (.d (.int k)), x4, x5, x6, some (.d (.tuple ([b, c, e, f].map fun x => hsD (.str x)))), some (.d (.list (PR a b c e f))), x9, x10, x11] κ') :
    wP (szB3 [some (.d (nmsD a b c e f r)), some (.c i1), some (.c i2), some (.d (.int k)), x4, x5, x6, some (.d (.tuple ([b, c, e, f].map fun x => hsD (.str x)))), some (.d (.list (PR a b c e f))), x9, x10, x11] κ) Z := by
  unfold szB3
  walk_at "w"
  rw [h1]
  dsimp only
  simp only [allKD, Option.map_some, keyDt]
  refine ⟨by decide +kernel, ?_⟩
  rw [cutTake (by omega), show Int.toNat (k : Int) = k by omega]
  have gl : ∀ x y : Str, isN (.str x) = true → isN (.str y) = true → Gd 65536 30 1 (lkD x y) := fun x y hx hy => (Gd.tup (n := 3) (W := 8) (D := 0) (fun z m => by
    simp only [List.mem_cons, List.not_mem_nil, or_false] at m
    rcases m with rfl | rfl | rfl
    · exact gdNm hx
    · exact gdNm hy
    · exact gdCon (by decide +kernel)) (Nat.le_refl _)).up (by decide) (by decide)
  refine with_w (hs := [b, c, e, f].map fun x => hsD (.str x)) hk rfl (by show 2 ≤ 10; decide) mgOK (by simp) (gdPl (gdS1 h5.na) (gdT1 h5.nb) gd0 gdWy gd4 (fun x m => by
    simp only [List.map_cons, List.map_nil, List.mem_cons, List.not_mem_nil, or_false] at m
    rcases m with rfl | rfl | rfl | rfl
    · exact gdHs h5.nb
    · exact gdHs h5.nc
    · exact gdHs h5.ne
    · exact gdHs h5.nf) ((Gd.tup (n := 10) (W := 30) (D := 1) (fun x m => by
      have m := List.mem_of_mem_take m
      simp only [PR, List.mem_cons, List.not_mem_nil, or_false] at m
      rcases m with rfl | rfl | rfl | rfl | rfl | rfl | rfl | rfl | rfl | rfl
      · exact gl _ _ h5.nb h5.na
      · exact gl _ _ h5.nc h5.na
      · exact gl _ _ h5.ne h5.na
      · exact gl _ _ h5.nf h5.na
      · exact gl _ _ h5.nc h5.nb
      · exact gl _ _ h5.ne h5.nb
      · exact gl _ _ h5.nf h5.nb
      · exact gl _ _ h5.ne h5.nc
      · exact gl _ _ h5.nf h5.nc
      · exact gl _ _ h5.nf h5.ne) (by rw [List.length_take, PR_len]; omega)).up (by decide) (by decide)) (by simp)) ?_
  rw [PR_ev h5 hk11, h1]
  dsimp only
  rw [fz_d, app_w (by unfold bl; rw [List.length_map]; omega)]
  dsimp only
  rw [List.getElem?_set_ne ne, h2]
  dsimp only
  rw [app_w (by unfold bl; rw [List.length_map]; omega)]
  dsimp only
  have eb : bl L ++ [PyData.bool (decide (k < 9))] = bl (L ++ [decide (k < 9)]) := by simp [bl]
  have eb2 : bl L ++ [PyData.bool (decide ((k : Int) < 9))] = bl (L ++ [decide (k < 9)]) := by
    rw [show decide ((k : Int) < 9) = decide (k < 9) from decide_eq_decide.mpr (by omega)]; exact eb
  rw [eb, eb2]
  have i1l : i1 < κ.length := (List.getElem?_eq_some_iff.mp h1).1
  have i2l : i2 < κ.length := (List.getElem?_eq_some_iff.mp h2).1
  refine hZ (L ++ [decide (k < 9)]) _ (KOk.setC (KOk.setC hk (cl_below _)) (by rw [List.length_set]; exact cl_below _)) rfl ?_ ?_ (by simp)
  · rw [List.getElem?_set_ne (Ne.symm ne), List.getElem?_set_self (by exact i1l)]
  · rw [List.getElem?_set_self (by rw [List.length_set]; exact i2l)]
end

end Law

namespace Law
open DL L2 PyProof.Rows PySem PySem.Spec
local macro_rules | `(tactic| walk_at "w") => `(tactic| simp only [wDef0, wDef1, wDef2, wDef3, List.replicate, Nat.reduceSub, wSeq, wIf, wTb, wTr, wBin, wUn, wVar, wC, wCal, wCall, wCallK, wNil, wCons, wConsC, wLst, wTup, wNotT, wAndT, wOrT, wAnd, wOr, wNotE, wIfE, wChain, wNext, wSet, wSetC, wRet, wDrop, wAsg, wPar, wFor, wLc, wYes, wSl, wNoP, wPt, wRng1, wSrcA, wSrcS, wIsI, wIsI2, wCm, wMs, wRev, wPar3, wPar3k, wZipA, wZipLL, Option.bind_some, wDivm, wDget, wPNil, wPCons, wCget, wCput, wDispC, wLenSet, wTidx, Sx_len, wTupleT, wListL, wListT, ix50, ix51, ix52, ix53, ix54, ix30, ix31, ix32, wDisp, wDin, wDinS, wEqS, wEqB, wEqNS, wIsN, wInC, wOrdC, wInT, wInNT, wNinT, wNinNT, ix0, ix1,
  wOpt, tK_some, bK_some, bK_le, bK_lt, wGtI, wLtI, wLeI, wGeI, wModI, wFdivI, wMulI, wAddI, wSubI, wEqI, wNeI, wSlL, wSlN, wSlT, wSlS, wLenL, wLenT, wLenS, wIntT, wTupleN, wMin2, wAddNN, wAddLN, wAddNL, wAddLL, wAddTT, wAddSS, wMulN, wMulT, wMulS, fz_d, fz_n, fz_c, allD, put, truD, bName, bTup, bCons, bNil, wipeR,
  List.getElem?_cons_zero, List.getElem?_cons_succ, List.set_cons_zero, List.set_cons_succ, List.length_set, List.length_cons, List.length_nil, Option.map_some, Option.map_none, if_true, Bool.false_eq_true, if_false, Bool.not_true, Bool.not_false, List.map_cons, List.map_nil, true_and, and_true, Nat.reduceAdd, Nat.reduceLeDiff])
local macro_rules | `(tactic| walk_at "b") => `(tactic| simp (disch := assumption) only [ixB0, ixB1, ixB2, DL.subB0, DL.subB2, Option.bind_some, wDef0, wDef1, wDef2, wDef3, List.replicate, Nat.reduceSub, wSeq, wIf, wTb, wTr, wBin, wUn, wVar, wC, wCal, wCall, wCallK, wNil, wCons, wConsC, wLst, wTup, wNotT, wAndT, wOrT, wAnd, wOr, wNotE, wIfE, wChain, wNext, wSet, wSetC, wRet, wDrop, wAsg, wPar, wFor, wLc, wYes, wSl, wNoP, wPt, wRng1, wSrcA, wSrcS, wIsI, wIsI2, wCm, wMs, wRev, wPar3, wPar3k, wZipA, wZipLL, Option.bind_some, wDivm, wDget, wPNil, wPCons, wCget, wCput, wDispC, wLenSet, wTidx, Sx_len, wTupleT, wListL, wListT, ix50, ix51, ix52, ix53, ix54, ix30, ix31, ix32, wDisp, wDin, wDinS, wEqS, wEqB, wEqNS, wIsN, wInC, wOrdC, wInT, wInNT, wNinT, wNinNT, ix0, ix1,
  wOpt, tK_some, bK_some, bK_le, bK_lt, wGtI, wLtI, wLeI, wGeI, wModI, wFdivI, wMulI, wAddI, wSubI, wEqI, wNeI, wSlL, wSlN, wSlT, wSlS, wLenL, wLenT, wLenS, wIntT, wTupleN, wMin2, wAddNN, wAddLN, wAddNL, wAddLL, wAddTT, wAddSS, wMulN, wMulT, wMulS, fz_d, fz_n, fz_c, allD, put, truD, bName, bTup, bCons, bNil, wipeR,
  List.getElem?_cons_zero, List.getElem?_cons_succ, List.set_cons_zero, List.set_cons_succ, List.length_set, List.length_cons, List.length_nil, Option.map_some, Option.map_none, if_true, Bool.false_eq_true, if_false, Bool.not_true, Bool.not_false, List.map_cons, List.map_nil, true_and, and_true, Nat.reduceAdd, Nat.reduceLeDiff])
local macro_rules | `(tactic| walk_at "t") => `(tactic| (try walk_at "w"))
local macro_rules | `(tactic| walk_at "x") => `(tactic| simp (maxSteps := 4000000) only [wDef0, wDef1, wDef2, wDef3, List.replicate, Nat.reduceSub, wSeq, wIf, wTb, wTr, wBin, wUn, wVar, wC, wCal, wCall, wCallK, wNil, wCons, wConsC, wLst, wTup, wNotT, wAndT, wOrT, wAnd, wOr, wNotE, wIfE, wChain, wNext, wSet, wSetC, wRet, wDrop, wAsg, wPar, wFor, wLc, wYes, wSl, wNoP, wPt, wRng1, wSrcA, wSrcS, wIsI, wIsI2, wCm, wMs, wRev, wPar3, wPar3k, wZipA, wZipLL, Option.bind_some, wDivm, wDget, wPNil, wPCons, wCget, wCput, wDispC, wLenSet, wTidx, Sx_len, wTupleT, wListL, wListT, ix50, ix51, ix52, ix53, ix54, ix30, ix31, ix32, wDisp, wDin, wDinS, wEqS, wEqB, wEqNS, wIsN, wInC, wOrdC, wInT, wInNT, wNinT, wNinNT, ix0, ix1,
  wOpt, tK_some, bK_some, bK_le, bK_lt, wGtI, wLtI, wLeI, wGeI, wModI, wFdivI, wMulI, wAddI, wSubI, wEqI, wNeI, wSlL, wSlN, wSlT, wSlS, wLenL, wLenT, wLenS, wIntT, wTupleN, wMin2, wAddNN, wAddLN, wAddNL, wAddLL, wAddTT, wAddSS, wMulN, wMulT, wMulS, fz_d, fz_n, fz_c, allD, put, truD, bName, bTup, bCons, bNil, wipeR,
  List.getElem?_cons_zero, List.getElem?_cons_succ, List.set_cons_zero, List.set_cons_succ, List.length_set, List.length_cons, List.length_nil, Option.map_some, Option.map_none, if_true, Bool.false_eq_true, if_false, Bool.not_true, Bool.not_false, List.map_cons, List.map_nil, true_and, and_true, Nat.reduceAdd, Nat.reduceLeDiff])
section
variable {κ l : Kap} {ρ : Rho} {i j n N : Nat} {q Q : DV → Kap → Prop} {d : PyData} {v : Sv} {T : Int}
theorem sizes_w (hk : KOk κ) {a b c e f : Str} {r : List Str} (hN : Nms (a :: b :: c :: e :: f :: r)) (h : q (.d (.bool true)) κ) : wO (m__law_sizes_right [.d (nmsD a b c e f r)] κ) q := by
  have h5 := n5_of hN
  have lr : r.length = 7 := by have := hN.len; simp only [List.length_cons] at this; omega
  rw [sz_eq]
  walk_at "w"
  refine ⟨by decide, ?_⟩
  refine wForI (fun rr ρ κ1 => ∃ m n L i1 i2 y3 y4 y5 y6 y7 y10, m + n = 8 ∧ rr = (List.range' m n).map (fun k => PyData.int (k : Nat)) ∧ ρ = [some (.d (nmsD a b c e f r)), some (.c i1), some (.c i2), y3, y4, y5, y6, y7, none, none, y10, none] ∧ KOk κ1 ∧ κ1[i1]? = some (cl (bl L)) ∧ κ1[i2]? = some (cl (bl L)) ∧ L.length ≤ 4 * m ∧ i1 ≠ i2 ∧ κ.length ≤ i1 ∧ κ.length ≤ i2 ∧ κ1.take κ.length = κ) _ _ _
    ⟨0, 8, [], κ.length, (κ ++ [Cell.lst []]).length, _, _, _, _, _, _, rfl, rfl, rfl, (hk.app []).app [], ?_, get_app, by decide, by simp, by simp, by simp, by simp⟩ ?_ ?_
  · rw [List.getElem?_append_left (by simp)]; exact get_app
  · rintro ρ κ1 ⟨m, n, L, i1, i2, y3, y4, y5, y6, y7, y10, hmn, hr, rfl, hk1, g1, g2, lL, ne, li1, li2, tk⟩
    have n0 : n = 0 := by
      cases n with
      | zero => rfl
      | succ n => rw [List.range'_succ, List.map_cons] at hr; cases hr
    subst n0
    dsimp only
    walk_at "w"
    have ec : DL.cutD (PyData.str a :: .str b :: .str c :: .str e :: .str f :: strL r) (some 1) (some 5) = strL [b, c, e, f] := by
      rw [cutMid (by decide) (by decide)]; rfl
    rw [ec]
    refine lcPure (F := hsD) (fun x mx => ⟨_, rfl, fun q hq => ?_⟩) (by simp [strL]) ?_
    · simp only [List.set_cons_succ, List.set_cons_zero]
      walk_at "w"
      exact lhouse_w hk1 hq
    rw [List.nil_append, show (strL [b, c, e, f]).map hsD = [b, c, e, f].map fun x => hsD (.str x) from rfl]
    generalize hgm : ([b, c, e, f].map fun x => hsD (.str x)) = M
    walk_at "w"
    refine ⟨by decide, ?_⟩
    refine lp2 lr ?_
    dsimp only
    refine ⟨by decide, ?_⟩
    subst hgm
    refine wForI (fun rr ρ κ1 => ∃ m n L y3, m + n = 11 ∧ rr = (List.range' m n).map (fun k => PyData.int (k : Nat)) ∧ ρ = [some (.d (nmsD a b c e f r)), some (.c i1), some (.c i2), y3, y4, y5, y6, some (.d (.tuple ([b, c, e, f].map fun x => hsD (.str x)))), some (.d (.list (PR a b c e f))), some (.d (.int 4)), y10, none] ∧ KOk κ1 ∧ κ1[i1]? = some (cl (bl L)) ∧ κ1[i2]? = some (cl (bl L)) ∧ L.length ≤ 32 + m ∧ κ1.take κ.length = κ) _ _ _
      ⟨0, 11, L, _, rfl, rfl, rfl, hk1, g1, g2, by omega, tk⟩ ?_ ?_
    · rintro ρ κ2 ⟨m', n', L', z3, hmn', hr', rfl, hk2, h1', h2', lL', tk'⟩
      dsimp only
      walk_at "t"
      rw [eqBl (dat_c h1') (dat_c h2')]
      rw [← List.take_append_drop κ.length κ2, tk']
      exact (finD (q := q) hk rfl).mpr h
    · rintro d rr ρ κ2 ⟨m', n', L', z3, hmn', hr', rfl, hk2, h1', h2', lL', tk'⟩
      cases n' with
      | zero => cases hr'
      | succ n' =>
        rw [List.range'_succ, List.map_cons] at hr'
        injection hr' with hd hr'
        subst hd
        dsimp only [bName]
        simp only [List.set_cons_succ, List.set_cons_zero]
        refine szB3_w hk2 h5 (by omega) h1' h2' ne (by omega) fun L'' κ' hk' hl g1' g2' lL'' => ?_
        refine ⟨m' + 1, n', L'', _, by omega, hr', rfl, hk', g1', g2', by omega, ?_⟩
        rw [hl, List.take_set_of_le li2, List.take_set_of_le li1]
        exact tk'
  · rintro d rr ρ κ1 ⟨m, n, L, i1, i2, y3, y4, y5, y6, y7, y10, hmn, hr, rfl, hk1, g1, g2, lL, ne, li1, li2, tk⟩
    cases n with
    | zero => cases hr
    | succ n =>
      rw [List.range'_succ, List.map_cons] at hr
      injection hr with hd hr
      subst hd
      dsimp only [bName]
      simp only [List.set_cons_succ, List.set_cons_zero]
      refine szB1_w hk1 hN (by omega) g1 g2 (by omega) fun L' κ' i1' i2' z4 z5 z6 z7 z10 hk' hl h1' h2' lL' ne' li' => ?_
      obtain ⟨l, rfl⟩ := hl
      have kl : κ.length ≤ κ1.length := by rw [← tk, List.length_take]; omega
      refine ⟨m + 1, n, L', i1', i2', _, _, _, _, _, _, by omega, hr, rfl, hk', h1', h2', by omega, ne', by omega, by omega, ?_⟩
      rw [List.take_append_of_le_length kl]; exact tk
end

end Law

namespace Law
open DL L2 PyProof.Rows PySem PySem.Spec
local macro_rules | `(tactic| walk_at "w") => `(tactic| simp only [wDef0, wDef1, wDef2, wDef3, List.replicate, Nat.reduceSub, wSeq, wIf, wTb, wTr, wBin, wUn, wVar, wC, wCal, wCall, wCallK, wNil, wCons, wConsC, wLst, wTup, wNotT, wAndT, wOrT, wAnd, wOr, wNotE, wIfE, wChain, wNext, wSet, wSetC, wRet, wDrop, wAsg, wPar, wFor, wLc, wYes, wSl, wNoP, wPt, wRng1, wSrcA, wSrcS, wIsI, wIsI2, wCm, wMs, wRev, wPar3, wPar3k, wZipA, wZipLL, Option.bind_some, wDivm, wDget, wPNil, wPCons, wCget, wCput, wDispC, wLenSet, wTidx, Sx_len, wTupleT, wListL, wListT, ix50, ix51, ix52, ix53, ix54, ix30, ix31, ix32, wDisp, wDin, wDinS, wEqS, wEqB, wEqNS, wIsN, wInC, wOrdC, wInT, wInNT, wNinT, wNinNT, ix0, ix1,
  wOpt, tK_some, bK_some, bK_le, bK_lt, wGtI, wLtI, wLeI, wGeI, wModI, wFdivI, wMulI, wAddI, wSubI, wEqI, wNeI, wSlL, wSlN, wSlT, wSlS, wLenL, wLenT, wLenS, wIntT, wTupleN, wMin2, wAddNN, wAddLN, wAddNL, wAddLL, wAddTT, wAddSS, wMulN, wMulT, wMulS, fz_d, fz_n, fz_c, allD, put, truD, bName, bTup, bCons, bNil, wipeR,
  List.getElem?_cons_zero, List.getElem?_cons_succ, List.set_cons_zero, List.set_cons_succ, List.length_set, List.length_cons, List.length_nil, Option.map_some, Option.map_none, if_true, Bool.false_eq_true, if_false, Bool.not_true, Bool.not_false, List.map_cons, List.map_nil, true_and, and_true, Nat.reduceAdd, Nat.reduceLeDiff])
local macro_rules | `(tactic| walk_at "b") => `(tactic| simp (disch := assumption) only [ixB0, ixB1, ixB2, DL.subB0, DL.subB2, Option.bind_some, wDef0, wDef1, wDef2, wDef3, List.replicate, Nat.reduceSub, wSeq, wIf, wTb, wTr, wBin, wUn, wVar, wC, wCal, wCall, wCallK, wNil, wCons, wConsC, wLst, wTup, wNotT, wAndT, wOrT, wAnd, wOr, wNotE, wIfE, wChain, wNext, wSet, wSetC, wRet, wDrop, wAsg, wPar, wFor, wLc, wYes, wSl, wNoP, wPt, wRng1, wSrcA, wSrcS, wIsI, wIsI2, wCm, wMs, wRev, wPar3, wPar3k, wZipA, wZipLL, Option.bind_some, wDivm, wDget, wPNil, wPCons, wCget, wCput, wDispC, wLenSet, wTidx, Sx_len, wTupleT, wListL, wListT, ix50, ix51, ix52, ix53, ix54, ix30, ix31, ix32, wDisp, wDin, wDinS, wEqS, wEqB, wEqNS, wIsN, wInC, wOrdC, wInT, wInNT, wNinT, wNinNT, ix0, ix1,
  wOpt, tK_some, bK_some, bK_le, bK_lt, wGtI, wLtI, wLeI, wGeI, wModI, wFdivI, wMulI, wAddI, wSubI, wEqI, wNeI, wSlL, wSlN, wSlT, wSlS, wLenL, wLenT, wLenS, wIntT, wTupleN, wMin2, wAddNN, wAddLN, wAddNL, wAddLL, wAddTT, wAddSS, wMulN, wMulT, wMulS, fz_d, fz_n, fz_c, allD, put, truD, bName, bTup, bCons, bNil, wipeR,
  List.getElem?_cons_zero, List.getElem?_cons_succ, List.set_cons_zero, List.set_cons_succ, List.length_set, List.length_cons, List.length_nil, Option.map_some, Option.map_none, if_true, Bool.false_eq_true, if_false, Bool.not_true, Bool.not_false, List.map_cons, List.map_nil, true_and, and_true, Nat.reduceAdd, Nat.reduceLeDiff])
local macro_rules | `(tactic| walk_at "t") => `(tactic| (try walk_at "w"))
local macro_rules | `(tactic| walk_at "x") => `(tactic| simp (maxSteps := 4000000) only [wDef0, wDef1, wDef2, wDef3, List.replicate, Nat.reduceSub, wSeq, wIf, wTb, wTr, wBin, wUn, wVar, wC, wCal, wCall, wCallK, wNil, wCons, wConsC, wLst, wTup, wNotT, wAndT, wOrT, wAnd, wOr, wNotE, wIfE, wChain, wNext, wSet, wSetC, wRet, wDrop, wAsg, wPar, wFor, wLc, wYes, wSl, wNoP, wPt, wRng1, wSrcA, wSrcS, wIsI, wIsI2, wCm, wMs, wRev, wPar3, wPar3k, wZipA, wZipLL, Option.bind_some, wDivm, wDget, wPNil, wPCons, wCget, wCput, wDispC, wLenSet, wTidx, Sx_len, wTupleT, wListL, wListT, ix50, ix51, ix52, ix53, ix54, ix30, ix31, ix32, wDisp, wDin, wDinS, wEqS, wEqB, wEqNS, wIsN, wInC, wOrdC, wInT, wInNT, wNinT, wNinNT, ix0, ix1,
  wOpt, tK_some, bK_some, bK_le, bK_lt, wGtI, wLtI, wLeI, wGeI, wModI, wFdivI, wMulI, wAddI, wSubI, wEqI, wNeI, wSlL, wSlN, wSlT, wSlS, wLenL, wLenT, wLenS, wIntT, wTupleN, wMin2, wAddNN, wAddLN, wAddNL, wAddLL, wAddTT, wAddSS, wMulN, wMulT, wMulS, fz_d, fz_n, fz_c, allD, put, truD, bName, bTup, bCons, bNil, wipeR,
  List.getElem?_cons_zero, List.getElem?_cons_succ, List.set_cons_zero, List.set_cons_succ, List.length_set, List.length_cons, List.length_nil, Option.map_some, Option.map_none, if_true, Bool.false_eq_true, if_false, Bool.not_true, Bool.not_false, List.map_cons, List.map_nil, true_and, and_true, Nat.reduceAdd, Nat.reduceLeDiff])
section
variable {κ l : Kap} {ρ : Rho} {i j n N : Nat} {q Q : DV → Kap → Prop} {d : PyData} {v : Sv} {T : Int}
theorem nuB1_w (hk : KOk κ) {a b : Str} {rs : List PyData} (na : isN (.str a) = true) (nb : isN (.str b) = true) (pb : ("post" : Str) ≠ b) {x : PyData} {w : Bool} (gx : Gd 65536 1000 8 x) (hw : isIn 400 9000 x = w) (hin : ∀ κ, inD κ (.d x) (.d (.tuple [.int 400, .int 9000])) = some (.d (.bool w))) {L : List Bool} {i1 i2 : Nat} (h1 : κ[i1]? = some (cl (bl L))) (h2 : κ[i2]? = some (cl (bl L))) (ne : i1 ≠ i2) (lL : L.length ≤ 1000) {x3 x5 x6 x7 : Option DV} {Z : Po}
    (hZ : ∀ (L' : List Bool) (κ' : Kap), KOk κ' → κ' = (κ.set i1 (cl (bl L'))).set i2 (cl (bl L')) → κ'[i1]? = some (cl (bl L')) → κ'[i2]? = some (cl (bl L')) → L'.length ≤ L.length + 1 →
      Z.nx [some (.d (.list (.str a :: .str b :: rs))), some (.c i1), some (.c i2), x3, some (.d x), x5, x6, x7] κ') :
    wP (nuB1 [some (.d (.list (.str a :: .str b :: rs))), some (.c i1), some (.c i2), x3, some (.d x), x5, x6, x7] κ) Z := by
  unfold nuB1
  walk_at "w"
  rw [h1]
  dsimp only
  simp only [allKD, Option.map_some, keyDt]
  refine ⟨by simp, ?_⟩
  refine with_w hk rfl (by show 1 ≤ 10; decide) mgM (by simp) (gdPl (gdS1 na) (gdT1 nb) gd0 gdWy gx (by simp) gd0 (by simp)) ?_
  rw [ev0 na nb pb, ways_P, hw, Bool.true_and, h1]
  dsimp only
  rw [fz_d, app_w (by unfold bl; rw [List.length_map]; omega)]
  dsimp only
  rw [List.getElem?_set_ne ne, h2]
  dsimp only
  rw [hin]
  walk_at "t"
  rw [List.getElem?_set_ne ne, h2]
  dsimp only
  rw [app_w (by unfold bl; rw [List.length_map]; omega)]
  dsimp only
  rw [show bl L ++ [PyData.bool w] = bl (L ++ [w]) by simp [bl]]
  have i1l : i1 < κ.length := (List.getElem?_eq_some_iff.mp h1).1
  have i2l : i2 < κ.length := (List.getElem?_eq_some_iff.mp h2).1
  refine hZ (L ++ [w]) _ (KOk.setC (KOk.setC hk (cl_below _)) (by rw [List.length_set]; exact cl_below _)) rfl ?_ ?_ (by simp)
  · rw [List.getElem?_set_ne (Ne.symm ne), List.getElem?_set_self (by exact i1l)]
  · rw [List.getElem?_set_self (by rw [List.length_set]; exact i2l)]
theorem evK {a b c : Str} (na : isN (.str a) = true) (nb : isN (.str b) = true) (nc : isN (.str c) = true) (pb : ("post" : Str) ≠ b) (ac : a ≠ c) {x : PyData} : isPlan (plD (.str a) (.tuple [.str b]) (.tuple []) wyP (.int 400) [hsD (.str c)] (.tuple [.tuple [.str a, .str c, x]])) = isIn 1 4 x := by
  have := evH (l := [c]) na nb pb (fun y m => by rw [List.mem_singleton.mp m]; exact nc) (lk := [.tuple [.str a, .str c, x]])
  rw [show [hsD (.str c)] = [c].map fun x => hsD (.str x) from rfl, this]
  simp [isLink, na, nc, ac]
theorem nuB2_w (hk : KOk κ) {a b c : Str} {rs : List PyData} (na : isN (.str a) = true) (nb : isN (.str b) = true) (nc : isN (.str c) = true) (pb : ("post" : Str) ≠ b) (ac : a ≠ c) {x : PyData} {w u t : Bool} (gx : Gd 65536 8 0 x) (hw : isIn 1 4 x = w) (hin : ∀ κ, inD κ (.d x) (.d (.tuple [.int 1, .int 4])) = some (.d (.bool u))) (hb : isT "bool" x = t) (hut : (u && !t) = w) {L : List Bool} {i1 i2 : Nat} (h1 : κ[i1]? = some (cl (bl L))) (h2 : κ[i2]? = some (cl (bl L))) (ne : i1 ≠ i2) (lL : L.length ≤ 1000) {x5 x6 x7 : Option DV} {Z : Po}
    (hZ : ∀ (L' : List Bool) (κ' : Kap), KOk κ' → κ' = (κ.set i1 (cl (bl L'))).set i2 (cl (bl L')) → κ'[i1]? = some (cl (bl L')) → κ'[i2]? = some (cl (bl L')) → L'.length ≤ L.length + 1 →
      Z.nx [some (.d (.list (.str a :: .str b :: .str c :: rs))), some (.c i1), some (.c i2), some (.d (.tuple [hsD (.str c)])), some (.d x), x5, x6, x7] κ') :
    wP (nuB2 [some (.d (.list (.str a :: .str b :: .str c :: rs))), some (.c i1), some (.c i2), some (.d (.tuple [hsD (.str c)])), some (.d x), x5, x6, x7] κ) Z := by
  have gl : Gd 65536 1000 8 (.tuple [.tuple [.str a, .str c, x]]) := (Gd.tup (n := 1) (W := 27) (D := 1) (fun z m => by
    rw [List.mem_singleton.mp m]
    exact Gd.tup (n := 3) (W := 8) (D := 0) (fun z m => by
      simp only [List.mem_cons, List.not_mem_nil, or_false] at m
      rcases m with rfl | rfl | rfl
      · exact gdNm na
      · exact gdNm nc
      · exact gx) (Nat.le_refl _)) (Nat.le_refl _)).up (by decide) (by decide)
  unfold nuB2
  walk_at "w"
  rw [h1]
  dsimp only
  simp only [ixZ, ix2']
  walk_at "t"
  try simp only [ixZ, ix2']
  walk_at "t"
  simp only [allKD, Option.map_some, keyDt]
  refine ⟨by decide +kernel, ?_⟩
  refine with_w hk rfl (by show 2 ≤ 10; decide) mgOK (by simp) (gdPl (gdS1 na) (gdT1 nb) gd0 gdWy gd4 (fun x m => by rw [List.mem_singleton.mp m]; exact gdHs nc) gl (by simp)) ?_
  rw [evK na nb nc pb ac, hw, h1]
  dsimp only
  rw [fz_d, app_w (by unfold bl; rw [List.length_map]; omega)]
  dsimp only
  rw [List.getElem?_set_ne ne, h2]
  dsimp only
  rw [hin]
  walk_at "t"
  have i1l : i1 < κ.length := (List.getElem?_eq_some_iff.mp h1).1
  have i2l : i2 < κ.length := (List.getElem?_eq_some_iff.mp h2).1
  have e2 : (κ.set i1 (Cell.lst (List.map DV.d (bl L ++ [PyData.bool w]))))[i2]? = some (cl (bl L)) := by rw [List.getElem?_set_ne ne]; exact h2
  have last : Z.nx [some (.d (.list (.str a :: .str b :: .str c :: rs))), some (.c i1), some (.c i2), some (.d (.tuple [hsD (.str c)])), some (.d x), x5, x6, x7] ((κ.set i1 (Cell.lst (List.map DV.d (bl L ++ [PyData.bool w])))).set i2 (Cell.lst (List.map DV.d (bl L ++ [PyData.bool w])))) := by
    rw [show bl L ++ [PyData.bool w] = bl (L ++ [w]) by simp [bl]]
    refine hZ (L ++ [w]) _ (KOk.setC (KOk.setC hk (cl_below _)) (by rw [List.length_set]; exact cl_below _)) rfl ?_ ?_ (by simp)
    · rw [List.getElem?_set_ne (Ne.symm ne), List.getElem?_set_self (by exact i1l)]
    · rw [List.getElem?_set_self (by rw [List.length_set]; exact i2l)]
  cases u with
  | true =>
    rw [if_pos rfl]
    refine ⟨isCell_gd gx.g, ?_⟩
    rw [e2]
    dsimp only
    rw [app_w (by unfold bl; rw [List.length_map]; omega)]
    dsimp only
    rw [show (!isT "bool" (dvD (DV.d x))) = w from by rw [← hut, Bool.true_and, ← hb]; rfl]
    exact last
  | false =>
    rw [if_neg Bool.false_ne_true, e2]
    dsimp only
    rw [app_w (by unfold bl; rw [List.length_map]; omega)]
    dsimp only
    rw [show false = w from by rw [← hut, Bool.false_and]]
    exact last
abbrev LL1 : List PyData := [.int 399, .int 400, .int 9000, .int 9001, .int 0, .int (-400), .bool true, .none, .str "400"]
abbrev LL2 : List PyData := [.int 0, .int 1, .int 4, .int 5, .int (-1), .bool true, .none, .str "1"]
theorem LL1_ok : ∀ x ∈ LL1, Gd 65536 1000 8 x ∧ ∀ κ, inD κ (.d x) (.d (.tuple [.int 400, .int 9000])) = some (.d (.bool (isIn 400 9000 x))) := by
  intro x m
  simp only [LL1, List.mem_cons, List.not_mem_nil, or_false] at m
  rcases m with rfl | rfl | rfl | rfl | rfl | rfl | rfl | rfl | rfl <;> exact ⟨gdE (by decide +kernel), fun κ => rfl⟩
theorem LL2_ok : ∀ x ∈ LL2, ∃ u t : Bool, Gd 65536 8 0 x ∧ (∀ κ, inD κ (.d x) (.d (.tuple [.int 1, .int 4])) = some (.d (.bool u))) ∧ isT "bool" x = t ∧ (u && !t) = isIn 1 4 x := by
  intro x m
  simp only [LL2, List.mem_cons, List.not_mem_nil, or_false] at m
  rcases m with rfl | rfl | rfl | rfl | rfl | rfl | rfl | rfl
  · exact ⟨false, false, gdCon (by decide +kernel), fun _ => rfl, by decide +kernel, by decide +kernel⟩
  · exact ⟨true, false, gdCon (by decide +kernel), fun _ => rfl, by decide +kernel, by decide +kernel⟩
  · exact ⟨true, false, gdCon (by decide +kernel), fun _ => rfl, by decide +kernel, by decide +kernel⟩
  · exact ⟨false, false, gdCon (by decide +kernel), fun _ => rfl, by decide +kernel, by decide +kernel⟩
  · exact ⟨false, false, gdCon (by decide +kernel), fun _ => rfl, by decide +kernel, by decide +kernel⟩
  · exact ⟨true, true, gdCon (by decide +kernel), fun _ => rfl, by decide +kernel, by decide +kernel⟩
  · exact ⟨false, false, gdCon (by decide +kernel), fun _ => rfl, by decide +kernel, by decide +kernel⟩
  · exact ⟨false, false, gdCon (by decide +kernel), fun _ => rfl, by decide +kernel, by decide +kernel⟩
abbrev LL3 : List PyData := [.tuple [.str "plain"], .tuple [.str "packed"], .tuple [.str "plain", .str "packed"], .tuple [.str "plain", .str "marked", .str "packed"], .tuple [.str "marked", .str "packed"]] ++ [.tuple [], .tuple [.str "packed", .str "plain"], .tuple [.str "plain", .str "plain"], .tuple [.str "Plain"], .list [.str "plain"], .str "plain", .tuple [.none], .tuple [.str "marked", .str "plain"]]
def WW : List Bool := [true, true, true, true, true, false, false, false, false, false, false, false, false]
theorem LL3_ok : ∀ x ∈ LL3, Gd 65536 1000 8 x := by
  have h : (LL3.all fun x => gd 65536 x && decide (x.bulk ≤ 1000) && decide (x.depth ≤ 8)) = true := by decide +kernel
  exact fun x m => gdE (List.all_eq_true.mp h x m)
theorem numbers_w (hk : KOk κ) {a b c e f : Str} {r : List Str} (hN : Nms (a :: b :: c :: e :: f :: r)) (h : q (.d (.bool true)) κ) : wO (m__law_numbers_right [.d (nmsD a b c e f r)] κ) q := by
  have h5 := n5_of hN
  have ac : a ≠ c := fun z => (List.nodup_cons.mp h5.nd).1 (by rw [z]; simp)
  rw [nu_eq]
  walk_at "w"
  rw [ix2']
  walk_at "t"
  have hk0 : KOk (κ ++ [Cell.lst []] ++ [Cell.lst []]) := (hk.app []).app []
  refine lhouse_w hk0 ?_
  walk_at "t"
  simp only [wNegI]
  walk_at "t"
  have st : ∀ (L : List Bool) (κ1 κ' : Kap), κ1.take κ.length = κ → κ' = (κ1.set κ.length (cl (bl L))).set (κ ++ [Cell.lst []]).length (cl (bl L)) → κ'.take κ.length = κ := fun L κ1 κ' t e => by
    rw [e, List.take_set_of_le (by simp), List.take_set_of_le (Nat.le_refl _)]
    exact t
  have ne : κ.length ≠ (κ ++ [Cell.lst []]).length := by simp
  have g1 : (κ ++ [Cell.lst []] ++ [Cell.lst []])[κ.length]? = some (cl (bl [])) := by rw [List.getElem?_append_left (by simp)]; exact get_app
  have g2 : (κ ++ [Cell.lst []] ++ [Cell.lst []])[(κ ++ [Cell.lst []]).length]? = some (cl (bl [])) := get_app
  have t0 : (κ ++ [Cell.lst []] ++ [Cell.lst []]).take κ.length = κ := by simp
  generalize (κ ++ [Cell.lst []]).length = j2 at *
  have hk1 : KOk (κ ++ [Cell.lst []] ++ [Cell.lst []]) := hk0
  generalize (κ ++ [Cell.lst []] ++ [Cell.lst []]) = κ0 at *
  refine wForI (fun rr ρ κ1 => ∃ L y4, (∀ x ∈ rr, x ∈ LL1) ∧ ρ = [some (.d (nmsD a b c e f r)), some (.c κ.length), some (.c j2), some (.d (.tuple [hsD (.str c)])), y4, none, none, none] ∧ KOk κ1 ∧ κ1[κ.length]? = some (cl (bl L)) ∧ κ1[j2]? = some (cl (bl L)) ∧ L.length + rr.length ≤ 9 ∧ κ1.take κ.length = κ) _ _ _
    ⟨[], none, fun x m => m, rfl, hk0, g1, g2, by decide, t0⟩ ?_ ?_
  · rintro ρ κ1 ⟨L, y4, _, rfl, hk1, g1, g2, lL, tk⟩
    simp only [wNegI]
    walk_at "t"
    refine wForI (fun rr ρ κ1 => ∃ L y4, (∀ x ∈ rr, x ∈ LL2) ∧ ρ = [some (.d (nmsD a b c e f r)), some (.c κ.length), some (.c j2), some (.d (.tuple [hsD (.str c)])), y4, none, none, none] ∧ KOk κ1 ∧ κ1[κ.length]? = some (cl (bl L)) ∧ κ1[j2]? = some (cl (bl L)) ∧ L.length + rr.length ≤ 17 ∧ κ1.take κ.length = κ) _ _ _
      ⟨L, y4, fun x m => m, rfl, hk1, g1, g2, by simp at lL ⊢; omega, tk⟩ ?_ ?_
    · rintro ρ κ1 ⟨L, y4, _, rfl, hk1, g1, g2, lL, tk⟩
      dsimp only
      walk_at "t"
      refine lcPure (F := fun x => .bool (isWays x)) (fun x mx => ⟨_, rfl, fun q hq => ?_⟩) (by decide +kernel) ?_
      · simp only [List.set_cons_succ, List.set_cons_zero]
        walk_at "w"
        simp only [allKD, Option.map_some, keyDt]
        refine ⟨by simp, ?_⟩
        refine with_w hk1 rfl (by show 1 ≤ 10; decide) mgW (by simp) (gdPl (gdS1 h5.na) (gdT1 h5.nb) gd0 (LL3_ok x mx) gd4 (by simp) gd0 (by simp)) ?_
        rw [ev0 h5.na h5.nb h5.pb, in400, Bool.and_true]
        exact hq
      have eW : ([] ++ LL3.map fun x => PyData.bool (isWays x)) = bl WW := by kernel_rfl
      rw [eW]
      rw [addCN g1]
      refine ⟨by unfold bl; rw [List.length_map, List.length_map]; simp at lL ⊢; show L.length + 13 ≤ _; omega, ?_⟩
      have lj : j2 < κ1.length := (List.getElem?_eq_some_iff.mp g2).1
      rw [show bl L ++ bl WW = bl (L ++ WW) by simp [bl]]
      dsimp only
      refine ⟨by decide, ?_⟩
      rw [addCN (n := j2) (xs := bl L) (by rw [List.getElem?_append_left lj]; exact g2)]
      rw [show (List.replicate (Int.toNat 5) [PyData.bool true]).flatten = bl [true, true, true, true, true] from rfl, show (List.replicate (Int.toNat 8) [PyData.bool false]).flatten = bl [false, false, false, false, false, false, false, false] from rfl]
      refine ⟨by unfold bl; rw [List.length_map, List.length_map]; simp at lL ⊢; omega, by decide, ?_⟩
      walk_at "t"
      refine ⟨by unfold bl; simp at lL ⊢; omega, ?_⟩
      rw [show bl L ++ bl [true, true, true, true, true] ++ bl [false, false, false, false, false, false, false, false] = bl (L ++ WW) by simp [bl, WW]]
      rw [eqBl (dat_c (get_app (x := cl (bl (L ++ WW))))) dat_n]
      rw [← List.take_append_drop κ.length κ1, tk, List.append_assoc]
      exact (finD (q := q) hk rfl).mpr h
    · rintro d rr ρ κ1 ⟨L, y4, hm, rfl, hk1, g1, g2, lL, tk⟩
      obtain ⟨u, t, gx, hin, hb, hut⟩ := LL2_ok d (hm d (List.mem_cons_self ..))
      rw [List.length_cons] at lL
      dsimp only [bName]
      simp only [List.set_cons_succ, List.set_cons_zero]
      refine nuB2_w hk1 h5.na h5.nb h5.nc h5.pb ac gx rfl hin hb hut g1 g2 ne (by omega) fun L' κ' hk' hl g1' g2' lL' => ?_
      exact ⟨L', _, fun x m => hm x (List.mem_cons_of_mem _ m), rfl, hk', g1', g2', by omega, st _ _ _ tk hl⟩
  · rintro d rr ρ κ1 ⟨L, y4, hm, rfl, hk1, g1, g2, lL, tk⟩
    obtain ⟨gx, hin⟩ := LL1_ok d (hm d (List.mem_cons_self ..))
    rw [List.length_cons] at lL
    dsimp only [bName]
    simp only [List.set_cons_succ, List.set_cons_zero]
    refine nuB1_w hk1 h5.na h5.nb h5.pb gx rfl hin g1 g2 ne (by omega) fun L' κ' hk' hl g1' g2' lL' => ?_
    exact ⟨L', _, fun x m => hm x (List.mem_cons_of_mem _ m), rfl, hk', g1', g2', by omega, st _ _ _ tk hl⟩
end

end Law

namespace Law
open DL L2 PyProof.Rows PySem PySem.Spec
local macro_rules | `(tactic| walk_at "w") => `(tactic| simp only [wDef0, wDef1, wDef2, wDef3, List.replicate, Nat.reduceSub, wSeq, wIf, wTb, wTr, wBin, wUn, wVar, wC, wCal, wCall, wCallK, wNil, wCons, wConsC, wLst, wTup, wNotT, wAndT, wOrT, wAnd, wOr, wNotE, wIfE, wChain, wNext, wSet, wSetC, wRet, wDrop, wAsg, wPar, wFor, wLc, wYes, wSl, wNoP, wPt, wRng1, wSrcA, wSrcS, wIsI, wIsI2, wCm, wMs, wRev, wPar3, wPar3k, wZipA, wZipLL, Option.bind_some, wDivm, wDget, wPNil, wPCons, wCget, wCput, wDispC, wLenSet, wTidx, Sx_len, wTupleT, wListL, wListT, ix50, ix51, ix52, ix53, ix54, ix30, ix31, ix32, wDisp, wDin, wDinS, wEqS, wEqB, wEqNS, wIsN, wInC, wOrdC, wInT, wInNT, wNinT, wNinNT, ix0, ix1,
  wOpt, tK_some, bK_some, bK_le, bK_lt, wGtI, wLtI, wLeI, wGeI, wModI, wFdivI, wMulI, wAddI, wSubI, wEqI, wNeI, wSlL, wSlN, wSlT, wSlS, wLenL, wLenT, wLenS, wIntT, wTupleN, wMin2, wAddNN, wAddLN, wAddNL, wAddLL, wAddTT, wAddSS, wMulN, wMulT, wMulS, fz_d, fz_n, fz_c, allD, put, truD, bName, bTup, bCons, bNil, wipeR,
  List.getElem?_cons_zero, List.getElem?_cons_succ, List.set_cons_zero, List.set_cons_succ, List.length_set, List.length_cons, List.length_nil, Option.map_some, Option.map_none, if_true, Bool.false_eq_true, if_false, Bool.not_true, Bool.not_false, List.map_cons, List.map_nil, true_and, and_true, Nat.reduceAdd, Nat.reduceLeDiff])
local macro_rules | `(tactic| walk_at "b") => `(tactic| simp (disch := assumption) only [ixB0, ixB1, ixB2, DL.subB0, DL.subB2, Option.bind_some, wDef0, wDef1, wDef2, wDef3, List.replicate, Nat.reduceSub, wSeq, wIf, wTb, wTr, wBin, wUn, wVar, wC, wCal, wCall, wCallK, wNil, wCons, wConsC, wLst, wTup, wNotT, wAndT, wOrT, wAnd, wOr, wNotE, wIfE, wChain, wNext, wSet, wSetC, wRet, wDrop, wAsg, wPar, wFor, wLc, wYes, wSl, wNoP, wPt, wRng1, wSrcA, wSrcS, wIsI, wIsI2, wCm, wMs, wRev, wPar3, wPar3k, wZipA, wZipLL, Option.bind_some, wDivm, wDget, wPNil, wPCons, wCget, wCput, wDispC, wLenSet, wTidx, Sx_len, wTupleT, wListL, wListT, ix50, ix51, ix52, ix53, ix54, ix30, ix31, ix32, wDisp, wDin, wDinS, wEqS, wEqB, wEqNS, wIsN, wInC, wOrdC, wInT, wInNT, wNinT, wNinNT, ix0, ix1,
  wOpt, tK_some, bK_some, bK_le, bK_lt, wGtI, wLtI, wLeI, wGeI, wModI, wFdivI, wMulI, wAddI, wSubI, wEqI, wNeI, wSlL, wSlN, wSlT, wSlS, wLenL, wLenT, wLenS, wIntT, wTupleN, wMin2, wAddNN, wAddLN, wAddNL, wAddLL, wAddTT, wAddSS, wMulN, wMulT, wMulS, fz_d, fz_n, fz_c, allD, put, truD, bName, bTup, bCons, bNil, wipeR,
  List.getElem?_cons_zero, List.getElem?_cons_succ, List.set_cons_zero, List.set_cons_succ, List.length_set, List.length_cons, List.length_nil, Option.map_some, Option.map_none, if_true, Bool.false_eq_true, if_false, Bool.not_true, Bool.not_false, List.map_cons, List.map_nil, true_and, and_true, Nat.reduceAdd, Nat.reduceLeDiff])
local macro_rules | `(tactic| walk_at "t") => `(tactic| (try walk_at "w"))
local macro_rules | `(tactic| walk_at "x") => `(tactic| simp (maxSteps := 4000000) only [wDef0, wDef1, wDef2, wDef3, List.replicate, Nat.reduceSub, wSeq, wIf, wTb, wTr, wBin, wUn, wVar, wC, wCal, wCall, wCallK, wNil, wCons, wConsC, wLst, wTup, wNotT, wAndT, wOrT, wAnd, wOr, wNotE, wIfE, wChain, wNext, wSet, wSetC, wRet, wDrop, wAsg, wPar, wFor, wLc, wYes, wSl, wNoP, wPt, wRng1, wSrcA, wSrcS, wIsI, wIsI2, wCm, wMs, wRev, wPar3, wPar3k, wZipA, wZipLL, Option.bind_some, wDivm, wDget, wPNil, wPCons, wCget, wCput, wDispC, wLenSet, wTidx, Sx_len, wTupleT, wListL, wListT, ix50, ix51, ix52, ix53, ix54, ix30, ix31, ix32, wDisp, wDin, wDinS, wEqS, wEqB, wEqNS, wIsN, wInC, wOrdC, wInT, wInNT, wNinT, wNinNT, ix0, ix1,
  wOpt, tK_some, bK_some, bK_le, bK_lt, wGtI, wLtI, wLeI, wGeI, wModI, wFdivI, wMulI, wAddI, wSubI, wEqI, wNeI, wSlL, wSlN, wSlT, wSlS, wLenL, wLenT, wLenS, wIntT, wTupleN, wMin2, wAddNN, wAddLN, wAddNL, wAddLL, wAddTT, wAddSS, wMulN, wMulT, wMulS, fz_d, fz_n, fz_c, allD, put, truD, bName, bTup, bCons, bNil, wipeR,
  List.getElem?_cons_zero, List.getElem?_cons_succ, List.set_cons_zero, List.set_cons_succ, List.length_set, List.length_cons, List.length_nil, Option.map_some, Option.map_none, if_true, Bool.false_eq_true, if_false, Bool.not_true, Bool.not_false, List.map_cons, List.map_nil, true_and, and_true, Nat.reduceAdd, Nat.reduceLeDiff])
section
variable {κ l : Kap} {ρ : Rho} {i j n N : Nat} {q Q : DV → Kap → Prop} {d : PyData} {v : Sv} {T : Int}
theorem ix3' {a b c e : PyData} {r : List PyData} : ixD κ (.d (.list (a :: b :: c :: e :: r))) (.d (.int 3)) = some (.d e) := by
  show (atI (a :: b :: c :: e :: r) 3).map DV.d = _
  unfold atI ixN
  rw [if_pos (by decide), if_pos (by simp only [List.length_cons]; omega)]; rfl
theorem n4_of {a b c e f : Str} {r : List Str} (h : Nms (a :: b :: c :: e :: f :: r)) : N4 a b c e := by
  have nd := h.nd
  simp only [List.nodup_cons, List.mem_cons, not_or] at nd
  have po := h.po
  simp only [List.mem_cons, not_or] at po
  exact ⟨h.nm _ (by simp), h.nm _ (by simp), h.nm _ (by simp), h.nm _ (by simp), nd.1.1, nd.1.2.1, nd.1.2.2.1, nd.2.1.1, nd.2.1.2.1, nd.2.2.1.1, po.1, po.2.1, po.2.2.1, po.2.2.2.1⟩
def alS1 : MS := (mPar 1 2 false false (mTup (mCons (mTup (mCons (mBin ixD (mVar 0) (mC (.int 1))) (mCons (mBin ixD (mVar 0) (mC (.int 0))) (mNil)))) (mNil))) (mTup (mCons (mCall m__law_house (mCons (mBin ixD (mVar 0) (mC (.int 2))) (mNil))) (mNil))))
def alS2 : MS := (mSetC 3 (mLst (mCons (mDisp (mPCons (.inr "folk") (mTup (mCons (mBin ixD (mVar 0) (mC (.int 1))) (mCons (mBin ixD (mVar 0) (mC (.int 2))) (mCons (mBin ixD (mVar 0) (mC (.int 1))) (mNil))))) (mPNil))) (mCons (mDisp (mPCons (.inr "folk") (mTup (mCons (mBin ixD (mVar 0) (mC (.int 1))) (mCons (mC (.str "post")) (mNil)))) (mPNil))) (mCons (mDisp (mPCons (.inr "lists") (mTup (mCons (mTup (mCons (mBin ixD (mVar 0) (mC (.int 1))) (mCons (mVar 1) (mNil)))) (mNil))) (mPNil))) (mNil))))))
def alS3 : MS := (mSetC 3 (mBin addB (mVar 3) (mLst (mCons (mDisp (mPCons (.inr "lists") (mTup (mCons (mTup (mCons (mBin ixD (mVar 0) (mC (.int 2))) (mCons (mVar 1) (mNil)))) (mCons (mTup (mCons (mBin ixD (mVar 0) (mC (.int 2))) (mCons (mVar 1) (mNil)))) (mNil)))) (mPNil))) (mCons (mDisp (mPCons (.inr "lists") (mTup (mCons (mTup (mCons (mC (.str "post")) (mCons (mVar 1) (mNil)))) (mNil))) (mPNil))) (mNil))))))
def alS4 : MS := (mDrop (mCm appF (mVar 3) (mCons (mDisp (mPCons (.inr "lists") (mTup (mCons (mTup (mCons (mBin ixD (mVar 0) (mC (.int 2))) (mCons (mBin mulD (mVar 1) (mC (.int 2))) (mNil)))) (mNil))) (mPNil))) (mNil))))
def alS5 : MS := (mSetC 3 (mBin addB (mVar 3) (mLst (mCons (mDisp (mPCons (.inr "more") (mBin addB (mVar 2) (mVar 2)) (mPNil))) (mCons (mDisp (mPCons (.inr "more") (mTup (mCons (mCall m__law_house (mCons (mBin ixD (mVar 0) (mC (.int 0))) (mNil))) (mNil))) (mPNil))) (mCons (mDisp (mPCons (.inr "more") (mVar 2) (mPCons (.inr "links") (mTup (mCons (mTup (mCons (mBin ixD (mVar 0) (mC (.int 0))) (mCons (mBin ixD (mVar 0) (mC (.int 0))) (mCons (mC (.int 1)) (mNil))))) (mNil))) (mPNil)))) (mNil)))))))
def alS6 : MS := (mSet 4 (mTup (mCons (mTup (mCons (mBin ixD (mVar 0) (mC (.int 0))) (mCons (mBin ixD (mVar 0) (mC (.int 2))) (mCons (mC (.int 1)) (mNil))))) (mCons (mTup (mCons (mBin ixD (mVar 0) (mC (.int 2))) (mCons (mBin ixD (mVar 0) (mC (.int 0))) (mCons (mC (.int 2)) (mNil))))) (mNil)))))
def alS7 : MS := (mSetC 3 (mBin addB (mVar 3) (mLst (mCons (mDisp (mPCons (.inr "more") (mVar 2) (mPCons (.inr "links") (mVar 4) (mPNil)))) (mCons (mDisp (mPCons (.inr "more") (mVar 2) (mPCons (.inr "links") (mTup (mCons (mTup (mCons (mBin ixD (mVar 0) (mC (.int 0))) (mCons (mBin ixD (mVar 0) (mC (.int 3))) (mCons (mC (.int 1)) (mNil))))) (mNil))) (mPNil)))) (mNil))))))
def alS8 : MS := (mSetC 3 (mBin addB (mVar 3) (mLst (mCons (mDisp (mPCons (.inr "more") (mVar 2) (mPCons (.inr "links") (mBin mulD (mSl slD (mVar 4) (mNoP) (mPt (mC (.int 1)))) (mC (.int 2))) (mPNil)))) (mCons (mDisp (mPCons (.inr "folk") (mLst (mCons (mBin ixD (mVar 0) (mC (.int 1))) (mNil))) (mPNil))) (mCons (mDisp (mPCons (.inr "lists") (mTup (mCons (mTup (mCons (mBin ixD (mVar 0) (mC (.int 2))) (mCons (mTup (mCons (mTup (mCons (mBin ixD (mVar 0) (mC (.int 1))) (mNil))) (mNil))) (mNil)))) (mNil))) (mPNil))) (mNil)))))))
def alS9 : MS := (mSet 5 (mLst (mCons (mDisp (mPCons (.inr "folk") (mTup (mCons (mBin ixD (mVar 0) (mC (.int 0))) (mNil))) (mPNil))) (mCons (mDisp (mPCons (.inr "lists") (mTup (mCons (mTup (mCons (mBin ixD (mVar 0) (mC (.int 0))) (mCons (mVar 1) (mNil)))) (mNil))) (mPNil))) (mCons (mDisp (mPCons (.inr "more") (mVar 2) (mPCons (.inr "folk") (mTup (mCons (mBin ixD (mVar 0) (mC (.int 3))) (mCons (mBin ixD (mVar 0) (mC (.int 2))) (mNil)))) (mPCons (.inr "links") (mSl slD (mVar 4) (mPt (mC (.int 1))) (mNoP)) (mPNil))))) (mNil))))))
def alS10 : MS := (mSet 5 (mBin addB (mVar 5) (mLst (mCons (mDisp (mPCons (.inr "name") (mC (.str "post")) (mPNil))) (mCons (mDisp (mPCons (.inr "lists") (mTup (mCons (mTup (mCons (mBin ixD (mVar 0) (mC (.int 2))) (mCons (mTup (mCons (mTup (mCons (mC (.str "post")) (mCons (mBin ixD (mVar 0) (mC (.int 3))) (mNil)))) (mCons (mTup (mCons (mBin ixD (mVar 0) (mC (.int 2))) (mCons (mBin ixD (mVar 0) (mC (.int 0))) (mNil)))) (mNil)))) (mNil)))) (mNil))) (mPNil))) (mCons (mDisp (mPCons (.inr "lists") (mTup (mCons (mTup (mCons (mBin ixD (mVar 0) (mC (.int 2))) (mCons (mVar 1) (mNil)))) (mNil))) (mPNil))) (mNil)))))))
def alS11 : MS := (mRet (mBin eqD (mLc (mSrcA (mBin addB (mVar 3) (mVar 5))) (bName 6) (mYes) (mCall m__law_with (mCons (mVar 0) (mCons (mVar 6) (mNil)))) [6]) (mBin addB (mBin mulD (mLst (mCons (mC (.bool false)) (mNil))) (mC (.int 14))) (mBin mulD (mLst (mCons (mC (.bool true)) (mNil))) (mC (.int 6))))))
theorem al_eq : m__law_alike_right = mDef 1 7 (mSeq alS1 (mSeq alS2 (mSeq alS3 (mSeq alS4 (mSeq alS5 (mSeq alS6 (mSeq alS7 (mSeq alS8 (mSeq alS9 (mSeq alS10 alS11)))))))))) := rfl
abbrev heD (a b : Str) : PyData := .tuple [.tuple [.str b, .str a]]
abbrev twD (a c : Str) : PyData := .tuple [.tuple [.str a, .str c, .int 1], .tuple [.str c, .str a, .int 2]]
def dc (x : List (PyData × PyData)) : PyData := .dict x
def d2 (a b c : Str) : List PyData := [.dict [(.str "folk", .tuple [.str b, .str c, .str b])], .dict [(.str "folk", .tuple [.str b, .str "post"])], .dict [(.str "lists", .tuple [.tuple [.str b, heD a b]])]]
def d3 (a b c : Str) : List PyData := [.dict [(.str "lists", .tuple [.tuple [.str c, heD a b], .tuple [.str c, heD a b]])], .dict [(.str "lists", .tuple [.tuple [.str "post", heD a b]])]]
def d4 (a b c : Str) : PyData := .dict [(.str "lists", .tuple [.tuple [.str c, .tuple [.tuple [.str b, .str a], .tuple [.str b, .str a]]]])]
def d5 (a c : Str) : List PyData := [.dict [(.str "more", .tuple [hsD (.str c), hsD (.str c)])], .dict [(.str "more", .tuple [hsD (.str a)])], .dict [(.str "more", .tuple [hsD (.str c)]), (.str "links", .tuple [.tuple [.str a, .str a, .int 1]])]]
def d7 (a c e : Str) : List PyData := [.dict [(.str "more", .tuple [hsD (.str c)]), (.str "links", twD a c)], .dict [(.str "more", .tuple [hsD (.str c)]), (.str "links", .tuple [.tuple [.str a, .str e, .int 1]])]]
def d8 (a b c : Str) : List PyData := [.dict [(.str "more", .tuple [hsD (.str c)]), (.str "links", .tuple [.tuple [.str a, .str c, .int 1], .tuple [.str a, .str c, .int 1]])], .dict [(.str "folk", .list [.str b])], .dict [(.str "lists", .tuple [.tuple [.str c, .tuple [.tuple [.str b]]]])]]
def d9 (a b c e : Str) : List PyData := [.dict [(.str "folk", .tuple [.str a])], .dict [(.str "lists", .tuple [.tuple [.str a, heD a b]])], .dict [(.str "more", .tuple [hsD (.str c)]), (.str "folk", .tuple [.str e, .str c]), (.str "links", .tuple [.tuple [.str c, .str a, .int 2]])]]
def d10 (a b c e : Str) : List PyData := [.dict [(.str "name", .str "post")], .dict [(.str "lists", .tuple [.tuple [.str c, .tuple [.tuple [.str "post", .str e], .tuple [.str c, .str a]]]])], .dict [(.str "lists", .tuple [.tuple [.str c, heD a b]])]]
theorem addCLi {xs ys : List PyData} (h : κ[n]? = some (cl xs)) : wO (opt κ (addB κ (.c n) (.d (.list ys)))) q = (xs.length + ys.length ≤ 16000000 ∧ q (.n (xs ++ ys)) κ) := by
  have e : lv κ (.c n) = some xs := by
    unfold lv
    dsimp only
    rw [h]
    exact allD_map xs
  show wO (opt _ (addD _ (.c _) (.d (.list ys)))) q = _
  unfold addD
  simp only [e]
  exact wIf2
theorem al1_w (hk : KOk κ) {a b c e f : Str} {r : List Str} {x1 x2 x3 x4 x5 x6 : Option DV} {Z : Po} (hZ : Z.nx [some (.d (nmsD a b c e f r)), some (.d (heD a b)), some (.d (.tuple [hsD (.str c)])), x3, x4, x5, x6] κ) : wP (alS1 [some (.d (nmsD a b c e f r)), x1, x2, x3, x4, x5, x6] κ) Z := by
  unfold alS1
  walk_at "w"
  simp only [ixZ, ixO, ix2']
  walk_at "t"
  try simp only [ixZ, ixO, ix2']
  walk_at "t"
  refine lhouse_w hk ?_
  walk_at "t"
  exact hZ
theorem al2_w {a b c e f : Str} {r : List Str} {x3 x4 x5 x6 : Option DV} {Z : Po} (hZ : Z.nx [some (.d (nmsD a b c e f r)), some (.d (heD a b)), some (.d (.tuple [hsD (.str c)])), some (.c κ.length), x4, x5, x6] (κ ++ [cl (d2 a b c)])) : wP (alS2 [some (.d (nmsD a b c e f r)), some (.d (heD a b)), some (.d (.tuple [hsD (.str c)])), x3, x4, x5, x6] κ) Z := by
  unfold alS2
  walk_at "w"
  try simp only [ixZ, ixO, ix2', ix3']
  walk_at "t"
  try simp only [ixZ, ixO, ix2', ix3']
  walk_at "t"
  try simp only [allKD, Option.map_some, keyDt]
  walk_at "t"
  repeat (refine ⟨by decide +kernel, ?_⟩)
  exact hZ
theorem al3_w {a b c e f : Str} {r : List Str} {x4 x5 x6 : Option DV} {ds : List PyData} {i : Nat} (hi : κ[i]? = some (cl ds)) (hl : ds.length ≤ 100) {Z : Po} (hZ : Z.nx [some (.d (nmsD a b c e f r)), some (.d (heD a b)), some (.d (.tuple [hsD (.str c)])), some (.c κ.length), x4, x5, x6] (κ ++ [cl (ds ++ d3 a b c)])) : wP (alS3 [some (.d (nmsD a b c e f r)), some (.d (heD a b)), some (.d (.tuple [hsD (.str c)])), some (.c i), x4, x5, x6] κ) Z := by
  unfold alS3
  walk_at "w"
  try simp only [ixZ, ixO, ix2', ix3']
  walk_at "t"
  try simp only [ixZ, ixO, ix2', ix3']
  walk_at "t"
  try simp only [allKD, Option.map_some, keyDt]
  walk_at "t"
  repeat (refine ⟨by decide +kernel, ?_⟩)
  rw [addCN hi]
  refine ⟨by simp only [List.length_cons, List.length_nil]; omega, ?_⟩
  exact hZ
theorem al4_w {a b c e f : Str} {r : List Str} {x4 x5 x6 : Option DV} {ds : List PyData} {i : Nat} (hi : κ[i]? = some (cl ds)) (hl : ds.length ≤ 100) {Z : Po} (hZ : Z.nx [some (.d (nmsD a b c e f r)), some (.d (heD a b)), some (.d (.tuple [hsD (.str c)])), some (.c i), x4, x5, x6] (κ.set i (cl (ds ++ [d4 a b c])))) : wP (alS4 [some (.d (nmsD a b c e f r)), some (.d (heD a b)), some (.d (.tuple [hsD (.str c)])), some (.c i), x4, x5, x6] κ) Z := by
  unfold alS4
  walk_at "w"
  rw [hi]
  dsimp only
  try simp only [ixZ, ixO, ix2', ix3']
  walk_at "t"
  try simp only [ixZ, ixO, ix2', ix3']
  walk_at "t"
  try simp only [allKD, Option.map_some, keyDt]
  walk_at "t"
  repeat (refine ⟨by decide +kernel, ?_⟩)
  rw [hi]
  dsimp only
  rw [app_w (by omega)]
  exact hZ
theorem al5_w (hk : KOk κ) {a b c e f : Str} {r : List Str} {x4 x5 x6 : Option DV} {ds : List PyData} {i : Nat} (hi : κ[i]? = some (cl ds)) (hl : ds.length ≤ 100) {Z : Po} (hZ : Z.nx [some (.d (nmsD a b c e f r)), some (.d (heD a b)), some (.d (.tuple [hsD (.str c)])), some (.c κ.length), x4, x5, x6] (κ ++ [cl (ds ++ d5 a c)])) : wP (alS5 [some (.d (nmsD a b c e f r)), some (.d (heD a b)), some (.d (.tuple [hsD (.str c)])), some (.c i), x4, x5, x6] κ) Z := by
  unfold alS5
  walk_at "w"
  try simp only [ixZ, ixO, ix2', ix3']
  walk_at "t"
  try simp only [ixZ, ixO, ix2', ix3']
  walk_at "t"
  refine ⟨by decide, ?_⟩
  refine lhouse_w hk ?_
  walk_at "t"
  try simp only [ixZ, ixO, ix2', ix3']
  walk_at "t"
  try simp only [allKD, Option.map_some, keyDt]
  walk_at "t"
  repeat (refine ⟨by decide +kernel, ?_⟩)
  rw [addCN hi]
  refine ⟨by simp only [List.length_cons, List.length_nil]; omega, ?_⟩
  exact hZ
theorem al6_w {a b c e f : Str} {r : List Str} {x3 x4 x5 x6 : Option DV} {Z : Po} (hZ : Z.nx [some (.d (nmsD a b c e f r)), some (.d (heD a b)), some (.d (.tuple [hsD (.str c)])), x3, some (.d (twD a c)), x5, x6] κ) : wP (alS6 [some (.d (nmsD a b c e f r)), some (.d (heD a b)), some (.d (.tuple [hsD (.str c)])), x3, x4, x5, x6] κ) Z := by
  unfold alS6
  walk_at "w"
  try simp only [ixZ, ixO, ix2', ix3']
  walk_at "t"
  try simp only [ixZ, ixO, ix2', ix3']
  walk_at "t"
  try simp only [allKD, Option.map_some, keyDt]
  walk_at "t"
  repeat (refine ⟨by decide +kernel, ?_⟩)
  exact hZ
theorem al7_w {a b c e f : Str} {r : List Str} {x5 x6 : Option DV} {ds : List PyData} {i : Nat} (hi : κ[i]? = some (cl ds)) (hl : ds.length ≤ 100) {Z : Po} (hZ : Z.nx [some (.d (nmsD a b c e f r)), some (.d (heD a b)), some (.d (.tuple [hsD (.str c)])), some (.c κ.length), some (.d (twD a c)), x5, x6] (κ ++ [cl (ds ++ d7 a c e)])) : wP (alS7 [some (.d (nmsD a b c e f r)), some (.d (heD a b)), some (.d (.tuple [hsD (.str c)])), some (.c i), some (.d (twD a c)), x5, x6] κ) Z := by
  unfold alS7
  walk_at "w"
  try simp only [ixZ, ixO, ix2', ix3']
  walk_at "t"
  try simp only [ixZ, ixO, ix2', ix3']
  walk_at "t"
  try simp only [allKD, Option.map_some, keyDt]
  walk_at "t"
  repeat (refine ⟨by decide +kernel, ?_⟩)
  rw [addCN hi]
  refine ⟨by simp only [List.length_cons, List.length_nil]; omega, ?_⟩
  exact hZ
theorem al8_w {a b c e f : Str} {r : List Str} {x5 x6 : Option DV} {ds : List PyData} {i : Nat} (hi : κ[i]? = some (cl ds)) (hl : ds.length ≤ 100) {Z : Po} (hZ : Z.nx [some (.d (nmsD a b c e f r)), some (.d (heD a b)), some (.d (.tuple [hsD (.str c)])), some (.c κ.length), some (.d (twD a c)), x5, x6] (κ ++ [cl (ds ++ d8 a b c)])) : wP (alS8 [some (.d (nmsD a b c e f r)), some (.d (heD a b)), some (.d (.tuple [hsD (.str c)])), some (.c i), some (.d (twD a c)), x5, x6] κ) Z := by
  unfold alS8
  walk_at "w"
  try simp only [ixZ, ixO, ix2', ix3']
  walk_at "t"
  try simp only [ixZ, ixO, ix2', ix3']
  walk_at "t"
  try simp only [allKD, Option.map_some, keyDt]
  walk_at "t"
  refine ⟨⟨by decide, by decide, by show 1 ≤ 1000; decide⟩, ?_⟩
  repeat (refine ⟨by decide +kernel, ?_⟩)
  rw [addCN hi]
  refine ⟨by simp only [List.length_cons, List.length_nil]; omega, ?_⟩
  exact hZ
theorem al9_w {a b c e f : Str} {r : List Str} {x3 x5 x6 : Option DV} {Z : Po} (hZ : Z.nx [some (.d (nmsD a b c e f r)), some (.d (heD a b)), some (.d (.tuple [hsD (.str c)])), x3, some (.d (twD a c)), some (.d (.list (d9 a b c e))), x6] κ) : wP (alS9 [some (.d (nmsD a b c e f r)), some (.d (heD a b)), some (.d (.tuple [hsD (.str c)])), x3, some (.d (twD a c)), x5, x6] κ) Z := by
  unfold alS9
  walk_at "w"
  try simp only [ixZ, ixO, ix2', ix3']
  walk_at "t"
  try simp only [ixZ, ixO, ix2', ix3']
  walk_at "t"
  try simp only [allKD, Option.map_some, keyDt]
  walk_at "t"
  repeat (refine ⟨by decide +kernel, ?_⟩)
  exact hZ
theorem al10_w {a b c e f : Str} {r : List Str} {x3 x4 x6 : Option DV} {Z : Po} (hZ : Z.nx [some (.d (nmsD a b c e f r)), some (.d (heD a b)), some (.d (.tuple [hsD (.str c)])), x3, x4, some (.d (.list (d9 a b c e ++ d10 a b c e))), x6] κ) : wP (alS10 [some (.d (nmsD a b c e f r)), some (.d (heD a b)), some (.d (.tuple [hsD (.str c)])), x3, x4, some (.d (.list (d9 a b c e))), x6] κ) Z := by
  unfold alS10
  walk_at "w"
  try simp only [ixZ, ixO, ix2', ix3']
  walk_at "t"
  try simp only [ixZ, ixO, ix2', ix3']
  walk_at "t"
  try simp only [allKD, Option.map_some, keyDt]
  walk_at "t"
  repeat (refine ⟨by decide +kernel, ?_⟩)
  refine ⟨by show 3 ≤ 15999997; decide, ?_⟩
  exact hZ
theorem SL_gd {a b c e : Str} (h : N4 a b c e) : ∀ x ∈ SL a b c e, Gd 65536 100000 20 x.2.1 := by
  have ga := (gdNm h.na).g; have gb := (gdNm h.nb).g; have gc := (gdNm h.nc).g; have ge := (gdNm h.ne).g
  have la := (gdNm h.na).w; have lb := (gdNm h.nb).w; have lc := (gdNm h.nc).w; have le := (gdNm h.ne).w
  simp only [PyData.bulk] at la lb lc le
  have g1 : gd 65536 (.str "post") = true := by decide +kernel
  have g2 : gd 65536 (.str "a") = true := by decide +kernel
  have g3 : gd 65536 (.str "packed") = true := by decide +kernel
  have g4 : gd 65536 (.str "plain") = true := by decide +kernel
  have k1 : ("post" : Str).cps.size = 4 := by decide +kernel
  have k2 : ("a" : Str).cps.size = 1 := by decide +kernel
  have k3 : ("packed" : Str).cps.size = 6 := by decide +kernel
  have k4 : ("plain" : Str).cps.size = 5 := by decide +kernel
  have gi : ∀ k : Int, k.natAbs ≤ 65536 → gd 65536 (.int k) = true := fun k hk => by rw [gd]; exact decide_eq_true hk
  have i1 := gi 1 (by decide); have i2 := gi 2 (by decide); have i3 := gi 400 (by decide); have i4 := gi 9000 (by decide)
  intro x m
  simp only [SL, List.mem_cons, List.not_mem_nil, or_false] at m
  rcases m with rfl | rfl | rfl | rfl | rfl | rfl | rfl | rfl | rfl | rfl | rfl | rfl | rfl | rfl | rfl | rfl | rfl | rfl | rfl | rfl <;>
    exact ⟨by simp only [plD, hsD, here, gd, gdAll] at *; simp only [*, Bool.and_self], by simp only [plD, hsD, here, PyData.bulk, PyData.bulkAll, k1, k2, k3, k4]; omega, by simp only [plD, hsD, here, PyData.depth, PyData.depthAll]; omega⟩
theorem SL_with {a b c e : Str} (h : N4 a b c e) : ∀ x ∈ SL a b c e, ∃ more nm fk ls wy mo hs lk, dicKV x.1 = some more ∧ more.length ≤ 10 ∧ dmergeO (bs (.str a) (.tuple [.str b]) (.tuple []) (.tuple [.str "plain"]) (.int 400) (.tuple []) (.tuple [])) more = some (bs nm fk ls wy mo (.tuple hs) lk) ∧ hs.length ≤ 1000 ∧ plD nm fk ls wy mo hs lk = x.2.1 := by
  intro x m
  simp only [SL, List.mem_cons, List.not_mem_nil, or_false] at m
  rcases m with rfl | rfl | rfl | rfl | rfl | rfl | rfl | rfl | rfl | rfl | rfl | rfl | rfl | rfl | rfl | rfl | rfl | rfl | rfl | rfl <;> first
    | exact ⟨_, _, _, _, _, _, _, _, rfl, by show 1 ≤ 10; decide, mgF, by simp, rfl⟩
    | exact ⟨_, _, _, _, _, _, _, _, rfl, by show 1 ≤ 10; decide, mgL, by simp, rfl⟩
    | exact ⟨_, _, _, _, _, _, _, _, rfl, by show 1 ≤ 10; decide, mgO, by simp, rfl⟩
    | exact ⟨_, _, _, _, _, _, _, _, rfl, by show 2 ≤ 10; decide, mgOK, by simp, rfl⟩
    | exact ⟨_, _, _, _, _, _, _, _, rfl, by show 3 ≤ 10; decide, mgOFK, by simp, rfl⟩
    | exact ⟨_, _, _, _, _, _, _, _, rfl, by show 1 ≤ 10; decide, mgN, by simp, rfl⟩
end

end Law

namespace Law
open DL L2 PyProof.Rows PySem PySem.Spec
local macro_rules | `(tactic| walk_at "w") => `(tactic| simp only [wDef0, wDef1, wDef2, wDef3, List.replicate, Nat.reduceSub, wSeq, wIf, wTb, wTr, wBin, wUn, wVar, wC, wCal, wCall, wCallK, wNil, wCons, wConsC, wLst, wTup, wNotT, wAndT, wOrT, wAnd, wOr, wNotE, wIfE, wChain, wNext, wSet, wSetC, wRet, wDrop, wAsg, wPar, wFor, wLc, wYes, wSl, wNoP, wPt, wRng1, wSrcA, wSrcS, wIsI, wIsI2, wCm, wMs, wRev, wPar3, wPar3k, wZipA, wZipLL, Option.bind_some, wDivm, wDget, wPNil, wPCons, wCget, wCput, wDispC, wLenSet, wTidx, Sx_len, wTupleT, wListL, wListT, ix50, ix51, ix52, ix53, ix54, ix30, ix31, ix32, wDisp, wDin, wDinS, wEqS, wEqB, wEqNS, wIsN, wInC, wOrdC, wInT, wInNT, wNinT, wNinNT, ix0, ix1,
  wOpt, tK_some, bK_some, bK_le, bK_lt, wGtI, wLtI, wLeI, wGeI, wModI, wFdivI, wMulI, wAddI, wSubI, wEqI, wNeI, wSlL, wSlN, wSlT, wSlS, wLenL, wLenT, wLenS, wIntT, wTupleN, wMin2, wAddNN, wAddLN, wAddNL, wAddLL, wAddTT, wAddSS, wMulN, wMulT, wMulS, fz_d, fz_n, fz_c, allD, put, truD, bName, bTup, bCons, bNil, wipeR,
  List.getElem?_cons_zero, List.getElem?_cons_succ, List.set_cons_zero, List.set_cons_succ, List.length_set, List.length_cons, List.length_nil, Option.map_some, Option.map_none, if_true, Bool.false_eq_true, if_false, Bool.not_true, Bool.not_false, List.map_cons, List.map_nil, true_and, and_true, Nat.reduceAdd, Nat.reduceLeDiff])
local macro_rules | `(tactic| walk_at "b") => `(tactic| simp (disch := assumption) only [ixB0, ixB1, ixB2, DL.subB0, DL.subB2, Option.bind_some, wDef0, wDef1, wDef2, wDef3, List.replicate, Nat.reduceSub, wSeq, wIf, wTb, wTr, wBin, wUn, wVar, wC, wCal, wCall, wCallK, wNil, wCons, wConsC, wLst, wTup, wNotT, wAndT, wOrT, wAnd, wOr, wNotE, wIfE, wChain, wNext, wSet, wSetC, wRet, wDrop, wAsg, wPar, wFor, wLc, wYes, wSl, wNoP, wPt, wRng1, wSrcA, wSrcS, wIsI, wIsI2, wCm, wMs, wRev, wPar3, wPar3k, wZipA, wZipLL, Option.bind_some, wDivm, wDget, wPNil, wPCons, wCget, wCput, wDispC, wLenSet, wTidx, Sx_len, wTupleT, wListL, wListT, ix50, ix51, ix52, ix53, ix54, ix30, ix31, ix32, wDisp, wDin, wDinS, wEqS, wEqB, wEqNS, wIsN, wInC, wOrdC, wInT, wInNT, wNinT, wNinNT, ix0, ix1,
  wOpt, tK_some, bK_some, bK_le, bK_lt, wGtI, wLtI, wLeI, wGeI, wModI, wFdivI, wMulI, wAddI, wSubI, wEqI, wNeI, wSlL, wSlN, wSlT, wSlS, wLenL, wLenT, wLenS, wIntT, wTupleN, wMin2, wAddNN, wAddLN, wAddNL, wAddLL, wAddTT, wAddSS, wMulN, wMulT, wMulS, fz_d, fz_n, fz_c, allD, put, truD, bName, bTup, bCons, bNil, wipeR,
  List.getElem?_cons_zero, List.getElem?_cons_succ, List.set_cons_zero, List.set_cons_succ, List.length_set, List.length_cons, List.length_nil, Option.map_some, Option.map_none, if_true, Bool.false_eq_true, if_false, Bool.not_true, Bool.not_false, List.map_cons, List.map_nil, true_and, and_true, Nat.reduceAdd, Nat.reduceLeDiff])
local macro_rules | `(tactic| walk_at "t") => `(tactic| (try walk_at "w"))
local macro_rules | `(tactic| walk_at "x") => `(tactic| simp (maxSteps := 4000000) only [wDef0, wDef1, wDef2, wDef3, List.replicate, Nat.reduceSub, wSeq, wIf, wTb, wTr, wBin, wUn, wVar, wC, wCal, wCall, wCallK, wNil, wCons, wConsC, wLst, wTup, wNotT, wAndT, wOrT, wAnd, wOr, wNotE, wIfE, wChain, wNext, wSet, wSetC, wRet, wDrop, wAsg, wPar, wFor, wLc, wYes, wSl, wNoP, wPt, wRng1, wSrcA, wSrcS, wIsI, wIsI2, wCm, wMs, wRev, wPar3, wPar3k, wZipA, wZipLL, Option.bind_some, wDivm, wDget, wPNil, wPCons, wCget, wCput, wDispC, wLenSet, wTidx, Sx_len, wTupleT, wListL, wListT, ix50, ix51, ix52, ix53, ix54, ix30, ix31, ix32, wDisp, wDin, wDinS, wEqS, wEqB, wEqNS, wIsN, wInC, wOrdC, wInT, wInNT, wNinT, wNinNT, ix0, ix1,
  wOpt, tK_some, bK_some, bK_le, bK_lt, wGtI, wLtI, wLeI, wGeI, wModI, wFdivI, wMulI, wAddI, wSubI, wEqI, wNeI, wSlL, wSlN, wSlT, wSlS, wLenL, wLenT, wLenS, wIntT, wTupleN, wMin2, wAddNN, wAddLN, wAddNL, wAddLL, wAddTT, wAddSS, wMulN, wMulT, wMulS, fz_d, fz_n, fz_c, allD, put, truD, bName, bTup, bCons, bNil, wipeR,
  List.getElem?_cons_zero, List.getElem?_cons_succ, List.set_cons_zero, List.set_cons_succ, List.length_set, List.length_cons, List.length_nil, Option.map_some, Option.map_none, if_true, Bool.false_eq_true, if_false, Bool.not_true, Bool.not_false, List.map_cons, List.map_nil, true_and, and_true, Nat.reduceAdd, Nat.reduceLeDiff])
section
variable {κ l : Kap} {ρ : Rho} {i j n N : Nat} {q Q : DV → Kap → Prop} {d : PyData} {v : Sv} {T : Int}
def PS (a b c e : Str) : List (PyData × PyData) := (SL a b c e).map fun x => (.dict x.1, .bool x.2.2)
def FF : List Bool := [false, false, false, false, false, false, false, false, false, false, false, false, false, false, true, true, true, true, true, true]
theorem al11_w (hk : KOk κ) {a b c e f : Str} {r : List Str} (h4 : N4 a b c e) {x1 x2 x4 x6 : Option DV} {ds fs : List PyData} (hi : κ[i]? = some (cl ds)) (hds : ds ++ fs = (PS a b c e).map (·.1)) (l1 : ds.length = 14) (l2 : fs.length = 6) {Z : Po} (hZ : Z.rt (.d (.bool true)) κ) : wP (alS11 [some (.d (nmsD a b c e f r)), x1, x2, some (.c i), x4, some (.d (.list fs)), x6] κ) Z := by
  unfold alS11
  walk_at "w"
  rw [addCLi hi]
  refine ⟨by omega, ?_⟩
  rw [hds]
  walk_at "t"
  refine lcP2 (fun p mp => ⟨_, rfl, fun q hq => ?_⟩) (by show 0 + 20 ≤ 1000000; decide) ?_
  · obtain ⟨x, mx, rfl⟩ := List.mem_map.mp mp
    simp only [List.set_cons_succ, List.set_cons_zero]
    walk_at "w"
    obtain ⟨more, nm, fk, ls, wy, mo, hs, lk, w1, w2, w3, w4, w5⟩ := SL_with h4 x mx
    refine with_w hk w1 w2 w3 w4 (by rw [w5]; exact SL_gd h4 x mx) ?_
    rw [w5, SL_ok h4 x mx]
    exact hq
  rw [List.nil_append, show (PS a b c e).map (·.2) = bl FF from rfl]
  walk_at "t"
  refine ⟨by decide, by decide, by decide, ?_⟩
  rw [show (List.replicate (Int.toNat 14) [PyData.bool false]).flatten ++ (List.replicate (Int.toNat 6) [PyData.bool true]).flatten = bl FF from rfl]
  rw [eqBl dat_n dat_n]
  exact hZ
theorem alike_w (hk : KOk κ) {a b c e f : Str} {r : List Str} (hN : Nms (a :: b :: c :: e :: f :: r)) (h : q (.d (.bool true)) κ) : wO (m__law_alike_right [.d (nmsD a b c e f r)] κ) q := by
  have h4 := n4_of hN
  rw [al_eq]
  simp only [wDef1, wSeq, List.replicate]
  refine al1_w hk ?_
  refine al2_w ?_
  refine al3_w get_app (by show 3 ≤ 100; decide) ?_
  refine al4_w get_app (by show 5 ≤ 100; decide) ?_
  rw [set_app2]
  have k1 : ∀ ds : List PyData, KOk (κ ++ [cl (d2 a b c)] ++ [cl ds]) := fun ds => (hk.app _).app _
  refine al5_w (k1 _) get_app (by show 6 ≤ 100; decide) ?_
  refine al6_w ?_
  refine al7_w get_app (by show 9 ≤ 100; decide) ?_
  refine al8_w get_app (by show 11 ≤ 100; decide) ?_
  refine al9_w ?_
  refine al10_w ?_
  refine al11_w (((((hk.app _).app _).app _).app _).app _) h4 get_app rfl rfl rfl ?_
  dsimp only
  simp only [List.append_assoc]
  exact (finD (q := q) hk rfl).mpr h
end

end Law

namespace Law
open DL L2 PyProof.Rows PySem PySem.Spec
local macro_rules | `(tactic| walk_at "w") => `(tactic| simp only [wDef0, wDef1, wDef2, wDef3, List.replicate, Nat.reduceSub, wSeq, wIf, wTb, wTr, wBin, wUn, wVar, wC, wCal, wCall, wCallK, wNil, wCons, wConsC, wLst, wTup, wNotT, wAndT, wOrT, wAnd, wOr, wNotE, wIfE, wChain, wNext, wSet, wSetC, wRet, wDrop, wAsg, wPar, wFor, wLc, wYes, wSl, wNoP, wPt, wRng1, wSrcA, wSrcS, wIsI, wIsI2, wCm, wMs, wRev, wPar3, wPar3k, wZipA, wZipLL, Option.bind_some, wDivm, wDget, wPNil, wPCons, wCget, wCput, wDispC, wLenSet, wTidx, Sx_len, wTupleT, wListL, wListT, ix50, ix51, ix52, ix53, ix54, ix30, ix31, ix32, wDisp, wDin, wDinS, wEqS, wEqB, wEqNS, wIsN, wInC, wOrdC, wInT, wInNT, wNinT, wNinNT, ix0, ix1,
  wOpt, tK_some, bK_some, bK_le, bK_lt, wGtI, wLtI, wLeI, wGeI, wModI, wFdivI, wMulI, wAddI, wSubI, wEqI, wNeI, wSlL, wSlN, wSlT, wSlS, wLenL, wLenT, wLenS, wIntT, wTupleN, wMin2, wAddNN, wAddLN, wAddNL, wAddLL, wAddTT, wAddSS, wMulN, wMulT, wMulS, fz_d, fz_n, fz_c, allD, put, truD, bName, bTup, bCons, bNil, wipeR,
  List.getElem?_cons_zero, List.getElem?_cons_succ, List.set_cons_zero, List.set_cons_succ, List.length_set, List.length_cons, List.length_nil, Option.map_some, Option.map_none, if_true, Bool.false_eq_true, if_false, Bool.not_true, Bool.not_false, List.map_cons, List.map_nil, true_and, and_true, Nat.reduceAdd, Nat.reduceLeDiff])
local macro_rules | `(tactic| walk_at "b") => `(tactic| simp (disch := assumption) only [ixB0, ixB1, ixB2, DL.subB0, DL.subB2, Option.bind_some, wDef0, wDef1, wDef2, wDef3, List.replicate, Nat.reduceSub, wSeq, wIf, wTb, wTr, wBin, wUn, wVar, wC, wCal, wCall, wCallK, wNil, wCons, wConsC, wLst, wTup, wNotT, wAndT, wOrT, wAnd, wOr, wNotE, wIfE, wChain, wNext, wSet, wSetC, wRet, wDrop, wAsg, wPar, wFor, wLc, wYes, wSl, wNoP, wPt, wRng1, wSrcA, wSrcS, wIsI, wIsI2, wCm, wMs, wRev, wPar3, wPar3k, wZipA, wZipLL, Option.bind_some, wDivm, wDget, wPNil, wPCons, wCget, wCput, wDispC, wLenSet, wTidx, Sx_len, wTupleT, wListL, wListT, ix50, ix51, ix52, ix53, ix54, ix30, ix31, ix32, wDisp, wDin, wDinS, wEqS, wEqB, wEqNS, wIsN, wInC, wOrdC, wInT, wInNT, wNinT, wNinNT, ix0, ix1,
  wOpt, tK_some, bK_some, bK_le, bK_lt, wGtI, wLtI, wLeI, wGeI, wModI, wFdivI, wMulI, wAddI, wSubI, wEqI, wNeI, wSlL, wSlN, wSlT, wSlS, wLenL, wLenT, wLenS, wIntT, wTupleN, wMin2, wAddNN, wAddLN, wAddNL, wAddLL, wAddTT, wAddSS, wMulN, wMulT, wMulS, fz_d, fz_n, fz_c, allD, put, truD, bName, bTup, bCons, bNil, wipeR,
  List.getElem?_cons_zero, List.getElem?_cons_succ, List.set_cons_zero, List.set_cons_succ, List.length_set, List.length_cons, List.length_nil, Option.map_some, Option.map_none, if_true, Bool.false_eq_true, if_false, Bool.not_true, Bool.not_false, List.map_cons, List.map_nil, true_and, and_true, Nat.reduceAdd, Nat.reduceLeDiff])
local macro_rules | `(tactic| walk_at "t") => `(tactic| (try walk_at "w"))
local macro_rules | `(tactic| walk_at "x") => `(tactic| simp (maxSteps := 4000000) only [wDef0, wDef1, wDef2, wDef3, List.replicate, Nat.reduceSub, wSeq, wIf, wTb, wTr, wBin, wUn, wVar, wC, wCal, wCall, wCallK, wNil, wCons, wConsC, wLst, wTup, wNotT, wAndT, wOrT, wAnd, wOr, wNotE, wIfE, wChain, wNext, wSet, wSetC, wRet, wDrop, wAsg, wPar, wFor, wLc, wYes, wSl, wNoP, wPt, wRng1, wSrcA, wSrcS, wIsI, wIsI2, wCm, wMs, wRev, wPar3, wPar3k, wZipA, wZipLL, Option.bind_some, wDivm, wDget, wPNil, wPCons, wCget, wCput, wDispC, wLenSet, wTidx, Sx_len, wTupleT, wListL, wListT, ix50, ix51, ix52, ix53, ix54, ix30, ix31, ix32, wDisp, wDin, wDinS, wEqS, wEqB, wEqNS, wIsN, wInC, wOrdC, wInT, wInNT, wNinT, wNinNT, ix0, ix1,
  wOpt, tK_some, bK_some, bK_le, bK_lt, wGtI, wLtI, wLeI, wGeI, wModI, wFdivI, wMulI, wAddI, wSubI, wEqI, wNeI, wSlL, wSlN, wSlT, wSlS, wLenL, wLenT, wLenS, wIntT, wTupleN, wMin2, wAddNN, wAddLN, wAddNL, wAddLL, wAddTT, wAddSS, wMulN, wMulT, wMulS, fz_d, fz_n, fz_c, allD, put, truD, bName, bTup, bCons, bNil, wipeR,
  List.getElem?_cons_zero, List.getElem?_cons_succ, List.set_cons_zero, List.set_cons_succ, List.length_set, List.length_cons, List.length_nil, Option.map_some, Option.map_none, if_true, Bool.false_eq_true, if_false, Bool.not_true, Bool.not_false, List.map_cons, List.map_nil, true_and, and_true, Nat.reduceAdd, Nat.reduceLeDiff])
section
variable {κ l : Kap} {ρ : Rho} {i j n N : Nat} {q Q : DV → Kap → Prop} {d : PyData} {v : Sv} {T : Int}
theorem eqNil {xs : List Int} (h : κ[n]? = some (cl (xs.map .int))) : wO (opt κ (eqD κ (.c n) (.n []))) q = q (.d (.bool (xs.isEmpty))) κ := by
  have hD : ∀ xs : List Int, PyData.hasDictAll (xs.map .int) = false := fun xs => by
    induction xs with
    | nil => rfl
    | cons k r ih => rw [List.map_cons, PyData.hasDictAll, ih]; rfl
  have dp : ∀ xs : List Int, PyData.depthAll (xs.map .int) = 0 := fun xs => by
    induction xs with
    | nil => rfl
    | cons k r ih => rw [List.map_cons, PyData.depthAll, ih]; rfl
  have e : eqD κ (.c n) (.n []) = some (.d (.bool (xs.isEmpty))) := by
    unfold eqD eqDV dat
    dsimp only
    rw [show lv κ (.c n) = some (xs.map .int) from by
      unfold lv
      dsimp only
      rw [h]
      exact allD_map _, Option.bind_some, if_pos (hD xs)]
    rw [show lv κ (.n []) = some [] from rfl, Option.bind_some, if_pos (show PyData.hasDictAll [] = false from rfl)]
    dsimp only
    rw [if_pos (by rw [PyData.depth, dp]; decide)]
    cases xs <;> rfl
  rw [e]; exact propext Iff.rfl
theorem begin_w {ns : List Int} (h : ∀ (i j : Nat) (κ : Kap) (v : Sv), In2 i j κ → Tn 0 v → q (.c j) (Sx i j κ v)) : wO (m__law_begin [.d (scr (ns.map .int))] []) q := by
  have mk : ∀ (i : Nat) (A : Kap) (cs : List Int), A.length = i → KOk A → cs ≠ [] → q (.c (i + 1)) (A ++ [cl (cs.map .int)] ++ [dxc i 0]) := fun i A cs hi hA hc => by
    have hl : (A ++ [cl (cs.map .int)] ++ [dxc i 0]).length = i + 2 := by simp [hi]
    have g := h i (i + 1) (A ++ [cl (cs.map .int)] ++ [dxc i 0]) ⟨cs, 0⟩ ⟨by omega, by omega, by omega, by
      have h1 := hA.app (cs.map .int)
      have h2 := h1.app []
      have e : (A ++ [cl (cs.map .int)] ++ [cl []]).set (A ++ [cl (cs.map .int)]).length (dxc i 0) = A ++ [cl (cs.map .int)] ++ [dxc i 0] := set_app1
      rw [← e]
      refine KOk.setC h2 ?_
      simp [dxc, Cell.below, DV.below, hi]⟩ ⟨hc, Int.le_refl _, Int.le_refl _⟩
    have e : Sx i (i + 1) (A ++ [cl (cs.map .int)] ++ [dxc i 0]) ⟨cs, 0⟩ = A ++ [cl (cs.map .int)] ++ [dxc i 0] := by
      unfold Sx
      have e1 : (A ++ [cl (cs.map .int)] ++ [dxc i 0]).set i (cl (cs.map .int)) = A ++ [cl (cs.map .int)] ++ [dxc i 0] := by
        rw [← hi]
        have : (A ++ [cl (cs.map .int)]).set A.length (cl (cs.map .int)) = A ++ [cl (cs.map .int)] := set_app1
        rw [List.set_append_left _ _ (by simp), this]
      rw [e1, ← show (A ++ [cl (cs.map .int)]).length = i + 1 by simp [hi]]
      exact set_app1
    rw [e] at g
    exact g
  unfold m__law_begin
  rw [dK_fin (np := 1) (xs := [.d (scr (ns.map .int))]) rfl]
  simp only [rho0, List.map_cons, List.map_nil, List.length_cons, List.length_nil, Nat.reduceSub, List.replicate, List.cons_append, List.nil_append]
  walk_at "w"
  try simp only [wSlC, wListL]
  walk_at "t"
  try simp only [wSlC, wListL]
  walk_at "t"
  have e0 : DL.cutD (ns.map PyData.int) none (some 63) = (ns.take 63).map .int := by rw [cutTake (by decide), List.map_take]; rfl
  rw [e0, List.nil_append]
  rw [eqNil (n := 0) (xs := ns.take 63) rfl]
  dsimp only
  cases hx : (ns.take 63).isEmpty with
  | true =>
    rw [if_pos rfl]
    refine ⟨by decide +kernel, ?_⟩
    exact mk 1 [cl ((ns.take 63).map .int)] [17] rfl (kok_nil.app _) (by simp)
  | false =>
    rw [if_neg Bool.false_ne_true]
    refine ⟨by decide +kernel, ?_⟩
    exact mk 0 [] (ns.take 63) rfl kok_nil (fun z => by rw [z] at hx; cases hx)
theorem plain (ns : List Int) (hn : ns.length ≤ 63) : ∃ κ, m_law [.d (scr (ns.map .int))] [] = .ok (.d (.bool true)) κ := by
  have key : wO (m_law [.d (scr (ns.map .int))] []) fun x κ => x = .d (.bool true) := by
    have fin0 : ∀ κF : Kap, wO (fin 0 (.rt (.d (.bool true)) κF)) fun x κ => x = .d (.bool true) := fun κF => by
      have := finD (n := 0) (κ0 := []) (l := κF) (d := .bool true) (q := fun x κ => x = .d (.bool true)) kok_nil rfl
      rw [List.nil_append] at this
      rw [this]
    unfold m_law
    walk_at "w"
    refine begin_w fun i j κ v hI hv => ?_
    walk_at "w"
    refine ⟨by decide, ?_⟩
    refine wForI (fun r ρ κ1 => ∃ y2 y3 v', ρ = [some (.d (scr (ns.map .int))), some (.c j), y2, y3] ∧ κ1 = Sx i j κ v' ∧ r.length ≤ 2 ∧ Tn (20 * (2 - r.length)) v') _ _ _ ⟨_, _, v, rfl, rfl, by decide, hv.up (by decide)⟩ ?_ ?_
    · rintro ρ κ1 ⟨y2, y3, v1, rfl, rfl, lr, hv1⟩
      walk_at "t"
      exact fin0 _
    · rintro d r ρ κ1 ⟨y2, y3, v1, rfl, rfl, lr, hv1⟩
      rw [List.length_cons] at lr hv1
      dsimp only [bName]
      simp only [List.set_cons_succ, List.set_cons_zero]
      walk_at "w"
      refine names_w hI hv1 (by omega) fun ks v2 hN hv2 => ?_
      obtain ⟨a, b, c, e, f, r', rfl⟩ : ∃ a b c e f r', ks = a :: b :: c :: e :: f :: r' := by
        have := hN.len
        match ks, this with
        | a :: b :: c :: e :: f :: r', _ => exact ⟨a, b, c, e, f, r', rfl⟩
      have hk := Sx_ok (v := v2) hI
      have h5 := n5_of hN
      walk_at "t"
      refine sizes_w hk hN ?_
      walk_at "t"
      refine numbers_w hk hN ?_
      walk_at "t"
      refine alike_w hk hN ?_
      walk_at "t"
      show wO (m__law_with [.d (nmsD a b c e f r'), .d (.dict [])] (Sx i j κ v2)) _
      refine with_w hk rfl (by show 0 ≤ 10; decide) mg0 (by simp) (gdPl (gdS1 h5.na) (gdT1 h5.nb) gd0 gdWy gd4 (by simp) gd0 (by simp)) ?_
      rw [ev0 h5.na h5.nb h5.pb, ways_P, in400]
      rw [show isnD (Sx i j κ v2) (.d (.bool (true && true))) (.d (.bool true)) = some (.d (.bool false)) from rfl]
      simp only [wOpt, Bool.false_eq_true, if_false]
      exact ⟨_, _, v2, rfl, rfl, by omega, hv2.up (by omega)⟩
  obtain ⟨x, κ, e, hx⟩ := wO_of key
  exact ⟨κ, by rw [e, hx]⟩
end

end Law

open PyProof.Rows PySem PySem.W
set_option maxHeartbeats 0 in
theorem PySem.Challenge.cw_letterhall_k13_plans_at_their_bounds_holds : PySem.Challenge.rw_letterhall_k13_plans_at_their_bounds.Holds := by
  w_on; o_law; k_head; (case hw => w_witness2)
  k_fill
  refine DL.walkGL (l := PySem.Challenge.rw_letterhall_k13_plans_at_their_bounds) (n := 63) (k := 9) (x := "_law_script") (m := Law.m_law) [] rfl (by decide) rfl ⟨rfl, by decide, by decide⟩ (by kernel_rfl) (by intro w h Y; first | exact PySem.W.kIn_of Y | exact PySem.W.km_in_of Y) ?F (fun ns hl => Law.plain ns hl)
  case F =>
    intro w mg fa h KX G hmg own
    refine' Law.all_mk KX G hmg own ?a0 ?l0 ?e0 ?k0 ?a1 ?l1 ?e1 ?k1 ?a2 ?l2 ?e2 ?k2 ?a3 ?l3 ?e3 ?k3 ?a4 ?l4 ?e4 ?k4 ?a5 ?l5 ?e5 ?k5 ?a6 ?l6 ?e6 ?k6 ?a7 ?l7 ?e7 ?k7 ?a8 ?l8 ?e8 ?k8 ?a9 ?l9 ?e9 ?k9 ?a10 ?l10 ?e10 ?k10 ?a11 ?l11 ?e11 ?k11 ?a12 ?l12 ?e12 ?k12 ?a13 ?l13 ?e13 ?k13 ?a14 ?l14 ?e14 ?k14 ?a15 ?l15 ?e15 ?k15 ?a16 ?l16 ?e16 ?k16 ?a17 ?l17 ?e17 ?k17 ?a18 ?l18 ?e18 ?k18 ?a19 ?l19 ?e19 ?k19 ?a20 ?l20 ?e20 ?k20 ?a21 ?l21 ?e21 ?k21 ?a22 ?l22 ?e22 ?k22 ?nn_holds ?nn_holds_of ?nn_best_way ?cHOUSES ?cLEAST_MOST ?cLINKS ?cLISTS ?cMOST ?cMOST_ADDRESSES ?cMOST_DELAY ?cMOST_HOUSES ?cMOST_LETTERS ?cMOST_LINKS ?cMOST_LISTS ?cMOST_MOST ?cMOST_PEOPLE ?cNAME ?cPEOPLE ?cPOST ?cSMALL_SIGNS ?cTAKEN_WAYS ?zall ?zbool ?zdivmod ?zint ?zisinstance ?zlen ?zlist ?zrange ?zset ?zsorted ?zstr ?ztuple ?zzip ?aWAYS ?lWAYS ?tWAYS
    (case a0 => k_is); (case l0 => k_is); (case e0 => k_is); (case k0 => k_is); (case a1 => k_is); (case l1 => k_is); (case e1 => k_is); (case k1 => k_is); (case a2 => k_is); (case l2 => k_is); (case e2 => k_is); (case k2 => k_is); (case a3 => k_is); (case l3 => k_is); (case e3 => k_is); (case k3 => k_is); (case a4 => k_is); (case l4 => k_is); (case e4 => k_is); (case k4 => k_is); (case a5 => k_is); (case l5 => k_is); (case e5 => k_is); (case k5 => k_is); (case a6 => k_is); (case l6 => k_is); (case e6 => k_is); (case k6 => k_is); (case a7 => k_is); (case l7 => k_is); (case e7 => k_is); (case k7 => k_is); (case a8 => k_is); (case l8 => k_is); (case e8 => k_is); (case k8 => k_is); (case a9 => k_is); (case l9 => k_is); (case e9 => k_is); (case k9 => k_is); (case a10 => k_is); (case l10 => k_is); (case e10 => k_is); (case k10 => k_is); (case a11 => k_is); (case l11 => k_is); (case e11 => k_is); (case k11 => k_is); (case a12 => k_is); (case l12 => k_is); (case e12 => k_is); (case k12 => k_is); (case a13 => k_is); (case l13 => k_is); (case e13 => k_is); (case k13 => k_is); (case a14 => k_is); (case l14 => k_is); (case e14 => k_is); (case k14 => k_is); (case a15 => k_is); (case l15 => k_is); (case e15 => k_is); (case k15 => k_is); (case a16 => k_is); (case l16 => k_is); (case e16 => k_is); (case k16 => k_is); (case a17 => k_is); (case l17 => k_is); (case e17 => k_is); (case k17 => k_is); (case a18 => k_is); (case l18 => k_is); (case e18 => k_is); (case k18 => k_is); (case a19 => k_is); (case l19 => k_is); (case e19 => k_is); (case k19 => k_is); (case a20 => k_is); (case l20 => k_is); (case e20 => k_is); (case k20 => k_is); (case a21 => k_is); (case l21 => k_is); (case e21 => k_is); (case k21 => k_is); (case a22 => k_is); (case l22 => k_is); (case e22 => k_is); (case k22 => k_is); (case nn_holds => k_is); (case nn_holds_of => k_is); (case nn_best_way => k_is); (case cHOUSES => k_is); (case cLEAST_MOST => k_is); (case cLINKS => k_is); (case cLISTS => k_is); (case cMOST => k_is); (case cMOST_ADDRESSES => k_is); (case cMOST_DELAY => k_is); (case cMOST_HOUSES => k_is); (case cMOST_LETTERS => k_is); (case cMOST_LINKS => k_is); (case cMOST_LISTS => k_is); (case cMOST_MOST => k_is); (case cMOST_PEOPLE => k_is); (case cNAME => k_is); (case cPEOPLE => k_is); (case cPOST => k_is); (case cSMALL_SIGNS => k_is); (case cTAKEN_WAYS => k_is); (case zall => k_is); (case zbool => k_is); (case zdivmod => k_is); (case zint => k_is); (case zisinstance => k_is); (case zlen => k_is); (case zlist => k_is); (case zrange => k_is); (case zset => k_is); (case zsorted => k_is); (case zstr => k_is); (case ztuple => k_is); (case zzip => k_is); (case aWAYS => k_is); (case lWAYS => k_is); (case tWAYS => exact ⟨⟨_, rfl⟩, ⟨⟨_, rfl⟩, ⟨⟨_, rfl⟩, True.intro⟩⟩⟩)
