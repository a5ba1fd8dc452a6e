import PyProof.Rows.All
import Wide.All
import OpenK.AllK
import Wide.FinOn
import HandS.ForMost
import HandS.ForExc
import HandS.Flow
import HandS.Style
import HandS.TupAny
import HandS.TupMul
import HandS.StrMore
import HandS.IsInst
import HandS.Steps
import HandS.RaiseMore
import HandS.Defaults
import PyProof.ReprRoads
import PyProof.StrOps2
import HandS.Lambda
import KE.DataEq
import HandS.Zip
import PyProof.Rows.IntBool
import HandS.CallLocal
import HandS.Dict
import HandS.More
import HandS.SetTxt0
import HandS.SetFor
import HandS.Strs
import KE.SortData
import HandS.Replace
import KE.KUnpackStar
import HandS.EndTab
import HandS.Nested
import HandS.DictComp
import HandS.Deep
import KE.GoesMore
import KE.GoesEnum
import HandS.NoneIn
import PySem.Challenge.RW_letterhall_k22_known_rules
set_option Elab.async false
set_option linter.all false
set_option maxRecDepth 100000
set_option maxHeartbeats 4000000
namespace DL
open L2 PyProof.Rows PySem PySem.Spec

abbrev D := PyData

/-! ### a value that stands for a datum -/
mutual
inductive Rp (K : PySem.W.Frag) (H : Hp) : V → D → Prop
  | non : Rp K H .non .none
  | bl (b : Bool) : Rp K H (.bl b) (.bool b)
  | int (i : Int) : Rp K H (.int i) (.int i)
  | str (x : Str) : Rp K H (.str x) (.str x)
  | lst {a : Addr} {xs : List V} {ds : List D} : H a = some (.lst xs) → RpAll K H xs ds → Rp K H (.ref a) (.list ds)
  | tup {a : Addr} {xs : List V} {ds : List D} : SqT K H a xs → RpAll K H xs ds → Rp K H (.ref a) (.tuple ds)
  | scr {a : Addr} {ns : List Int} : SqL K H a (ns.map V.int) → Rp K H (.ref a) (.dict [(.none, .list (ns.map PyData.int))])
  | fnc {f : Addr} {x : Str} : PySem.W.nsIn K mainGlobals x = some (some (.ref f)) → PySem.W.keepIn K (.ref f) = true → Rp K H (.ref f) (.dict [(.bool true, .str x)])
  | clo {f c a : Addr} {q : Str} {d : D} : H c = some (LamX.CodeO c q) → Rp K H (.ref a) d → Rp K H (.ref f) (.dict [(.bool false, .tuple [.int f, .int c, .int a, .str q, d])])
  | dic {a : Addr} {kvs : List (Key × V)} {ds : List (D × D)} : H a = some (.dK kvs) → RpKV K H kvs ds → Rp K H (.ref a) (.dict ds)
inductive RpAll (K : PySem.W.Frag) (H : Hp) : List V → List D → Prop
  | nil : RpAll K H [] []
  | cons {v : V} {vs : List V} {d : D} {ds : List D} : Rp K H v d → RpAll K H vs ds → RpAll K H (v :: vs) (d :: ds)
inductive RpKV (K : PySem.W.Frag) (H : Hp) : List (Key × V) → List (D × D) → Prop
  | nil : RpKV K H [] []
  | consI {i : Int} {v : V} {kvs : List (Key × V)} {d : D} {ds : List (D × D)} : Rp K H v d → RpKV K H kvs ds → RpKV K H ((.inl i, v) :: kvs) ((.int i, d) :: ds)
  | consS {x : Str} {v : V} {kvs : List (Key × V)} {d : D} {ds : List (D × D)} : Rp K H v d → RpKV K H kvs ds → RpKV K H ((.inr x, v) :: kvs) ((.str x, d) :: ds)
end

section
variable {K : PySem.W.Frag} {H H' : Hp}
theorem same_t {a : Addr} {xs : List V} (e : Same H H') (h : SqT K H a xs) : SqT K H' a xs := by
  rcases h with (h | ⟨o, h⟩) | h
  · exact .inl (.inl (e _ _ h))
  · exact .inl (.inr ⟨o, e _ _ h⟩)
  · exact .inr h
mutual
theorem Rp.mono (e : Same H H') : ∀ {v : V} {d : D}, Rp K H v d → Rp K H' v d
  | _, _, .non => .non
  | _, _, .bl b => .bl b
  | _, _, .int i => .int i
  | _, _, .str x => .str x
  | _, _, .lst h r => .lst (e _ _ h) (RpAll.mono e r)
  | _, _, .scr h => .scr (e.seq h)
  | _, _, .fnc h k => .fnc h k
  | _, _, .clo h r => .clo (e _ _ h) (Rp.mono e r)
  | _, _, .tup h r => .tup (same_t e h) (RpAll.mono e r)
  | _, _, .dic h r => .dic (e _ _ h) (RpKV.mono e r)
theorem RpAll.mono (e : Same H H') : ∀ {v : List V} {d : List D}, RpAll K H v d → RpAll K H' v d
  | _, _, .nil => .nil
  | _, _, .cons h r => .cons (Rp.mono e h) (RpAll.mono e r)
theorem RpKV.mono (e : Same H H') : ∀ {v : List (Key × V)} {d : List (D × D)}, RpKV K H v d → RpKV K H' v d
  | _, _, .nil => .nil
  | _, _, .consI h r => .consI (Rp.mono e h) (RpKV.mono e r)
  | _, _, .consS h r => .consS (Rp.mono e h) (RpKV.mono e r)
end
theorem RpAll.len : ∀ {vs : List V} {ds : List D}, RpAll K H vs ds → vs.length = ds.length
  | _, _, .nil => rfl
  | _, _, .cons _ r => by simp [RpAll.len r]
theorem RpAll.get : ∀ {vs : List V} {ds : List D} {i : Nat} {d : D}, RpAll K H vs ds → ds[i]? = some d → ∃ v, vs[i]? = some v ∧ Rp K H v d
  | _, _, _, _, .nil, e => by simp at e
  | _, _, 0, _, .cons h _, e => by simp at e; subst e; exact ⟨_, rfl, h⟩
  | _, _, i + 1, d, .cons _ r, e => by
    obtain ⟨v, h1, h2⟩ := RpAll.get (i := i) (d := d) r (by simpa using e)
    exact ⟨v, by simpa using h1, h2⟩
theorem RpAll.append : ∀ {vs ws : List V} {ds es : List D}, RpAll K H vs ds → RpAll K H ws es → RpAll K H (vs ++ ws) (ds ++ es)
  | _, _, _, _, .nil, s => s
  | _, _, _, _, .cons h r, s => .cons h (RpAll.append r s)
theorem RpAll.take : ∀ {vs : List V} {ds : List D} (n : Nat), RpAll K H vs ds → RpAll K H (vs.take n) (ds.take n)
  | _, _, 0, _ => .nil
  | _, _, _ + 1, .nil => .nil
  | _, _, n + 1, .cons h r => .cons h (RpAll.take n r)
theorem RpAll.drop : ∀ {vs : List V} {ds : List D} (n : Nat), RpAll K H vs ds → RpAll K H (vs.drop n) (ds.drop n)
  | _, _, 0, r => r
  | _, _, _ + 1, .nil => .nil
  | _, _, n + 1, .cons _ r => RpAll.drop n r
theorem RpAll.reverse : ∀ {vs : List V} {ds : List D}, RpAll K H vs ds → RpAll K H vs.reverse ds.reverse
  | _, _, .nil => .nil
  | _, _, .cons h r => by
    rw [List.reverse_cons, List.reverse_cons]
    exact (RpAll.reverse r).append (.cons h .nil)
theorem RpAll.rep {vs : List V} {ds : List D} (h : RpAll K H vs ds) : ∀ k : Nat, RpAll K H (List.replicate k vs).flatten (List.replicate k ds).flatten
  | 0 => .nil
  | k + 1 => by
    rw [List.replicate_succ, List.replicate_succ, List.flatten_cons, List.flatten_cons]
    exact h.append (RpAll.rep h k)
theorem RpAll.eraseIdx : ∀ {vs : List V} {ds : List D} (n : Nat), RpAll K H vs ds → RpAll K H (vs.eraseIdx n) (ds.eraseIdx n)
  | _, _, _, .nil => .nil
  | _, _, 0, .cons _ r => r
  | _, _, n + 1, .cons h r => .cons h (RpAll.eraseIdx n r)
theorem RpAll.ints : ∀ ns : List Int, RpAll K H (ns.map V.int) (ns.map PyData.int)
  | [] => .nil
  | n :: r => .cons (.int n) (RpAll.ints r)
mutual
theorem Rp.dp : ∀ {v : V} {d : D}, Rp K H v d → d.hasDict = false → Dp K H v d
  | _, _, .non, _ => .non
  | _, _, .bl b, _ => .bl b
  | _, _, .int i, _ => .int i
  | _, _, .str x, _ => .str x
  | _, _, .lst h r, e => .lst (.inl (.inl h)) (RpAll.dp r (by simpa [PyData.hasDict] using e))
  | _, _, .scr _, e => by simp [PyData.hasDict] at e
  | _, _, .fnc _ _, e => by simp [PyData.hasDict] at e
  | _, _, .clo _ _, e => by simp [PyData.hasDict] at e
  | _, _, .tup h r, e => .tup h (RpAll.dp r (by simpa [PyData.hasDict] using e))
  | _, _, .dic _ _, e => by simp [PyData.hasDict] at e
theorem RpAll.dp : ∀ {v : List V} {d : List D}, RpAll K H v d → PyData.hasDictAll d = false → DpAll K H v d
  | _, _, .nil, _ => .nil
  | _, _, .cons h r, e => by
    rw [PyData.hasDictAll, Bool.or_eq_false_iff] at e
    exact .cons (Rp.dp h e.1) (RpAll.dp r e.2)
end
end

/-- the script, as a datum of its own -/
abbrev scr (xs : List D) : D := .dict [(.none, .list xs)]
/-! ### values of the mirror: data, a live cell, a new list -/
inductive DV where
  | d (x : D) | c (i : Nat) | n (xs : List D)
inductive Cell where
  | dead | lst (xs : List DV) | dic (kvs : List (Key × DV))
abbrev Rho := List (Option DV)
abbrev Kap := List Cell
abbrev Fs := List (Str × D)
inductive Out (α : Type) where
  | ok (a : α) (κ : Kap) | ex (n : Str) (fs : Fs) (κ : Kap) | bad
inductive OutS where
  | nx (ρ : Rho) (κ : Kap) | bk (ρ : Rho) (κ : Kap) | ct (ρ : Rho) (κ : Kap) | rt (x : DV) (κ : Kap) | ex (n : Str) (fs : Fs) (κ : Kap) | bad
abbrev ME := Rho → Kap → Out DV
abbrev MT := Rho → Kap → Out Bool
abbrev MA := Rho → Kap → Out (List DV)
abbrev MS := Rho → Kap → OutS
abbrev MF := List DV → Kap → Out DV
def Out.bind {α β : Type} (o : Out α) (f : α → Kap → Out β) : Out β := match o with
  | .ok a κ => f a κ
  | .ex n fs κ => .ex n fs κ
  | .bad => .bad
def Out.bindS {α : Type} (o : Out α) (f : α → Kap → OutS) : OutS := match o with
  | .ok a κ => f a κ
  | .ex n fs κ => .ex n fs κ
  | .bad => .bad

/-! ### the state: F protected objects, B the frozen heap, ι the cells' addresses -/
section
variable (K : PySem.W.Frag)
def VOk (F : List Addr) (B : Hp) (ι : List Addr) (H : Hp) (v : V) : DV → Prop
  | .d x => Rp K B v x
  | .c i => ∃ a, ι[i]? = some a ∧ v = .ref a
  | .n xs => ∃ p vs, v = .ref p ∧ H p = some (.lst vs) ∧ B p = none ∧ p ∉ ι ∧ p ∉ F ∧ RpAll K B vs xs
/-- a stored value: no new list -/
def WOk (B : Hp) (ι : List Addr) (v : V) : DV → Prop
  | .d x => Rp K B v x
  | .c i => ∃ a, ι[i]? = some a ∧ v = .ref a
  | .n _ => False
def COk (B : Hp) (ι : List Addr) (H : Hp) (a : Addr) : Cell → Prop
  | .dead => True
  | .lst xs => ∃ vs, H a = some (.lst vs) ∧ Paired (WOk K B ι) vs xs
  | .dic kvs => ∃ ws, H a = some (.dK ws) ∧ Paired (fun (p : Key × V) (q : Key × DV) => p.1 = q.1 ∧ WOk K B ι p.2 q.2) ws kvs
/-- the defs that may make a lambda, and its name -/
def lamNames : List (Str × Str) := [("holds", "holds.<locals>.<lambda>"), ("holds_of", "holds_of.<locals>.<lambda>"), ("best_way", "best_way.<locals>.<lambda>")]
/-- the table of a def's code object -/
def tabOf (x : Str) : Option Addr := match PySem.W.nsIn K mainGlobals x with
  | some (some (.ref f)) => (match K.lookup f with
    | some ⟨_, _, .func fd, _⟩ => (match fd.code with
      | .ref c => (match K.lookup c with
        | some ⟨_, _, .fields vs, _⟩ => (match (vs[11]? : Option Value) with
          | some (.ref P) => some P
          | _ => none)
        | _ => none)
      | _ => none)
    | _ => none)
  | _ => none
def tabsOf : List (Addr × Str) := lamNames.filterMap fun p => (tabOf K p.1).map fun P => (P, p.2)
def TabI (F : List Addr) (B : Hp) (ι : List Addr) (H : Hp) (p : Addr × Str) : Prop :=
  (∃ ps : Array Value, H p.1 = some (.tbl ps) ∧ TriplesOk ps.toList ∧ ∀ (pos : Pos) (cv : Value), codeAmong pos ps.toList = some cv → ∃ c, cv = .ref c ∧ B c = some (LamX.CodeO c p.2)) ∧ B p.1 = none ∧ p.1 ∉ ι ∧ p.1 ∉ F
structure HSt (F : List Addr) (B : Hp) (ι : List Addr) (H : Hp) (κ : Kap) : Prop where
  ex : Same B H
  len : ι.length = κ.length
  nd : ι.Nodup
  out : ∀ (i : Nat) (a : Addr), ι[i]? = some a → κ[i]? ≠ some .dead → B a = none
  pro : ∀ a ∈ F, (∃ o, H a = some o) ∧ B a = none ∧ a ∉ ι
  cel : ∀ (i : Nat) (a : Addr) (cl : Cell), ι[i]? = some a → κ[i]? = some cl → COk K B ι H a cl
  tr : ∀ a ∈ ι, ∃ o, H a = some o
  tb : ∀ p ∈ tabsOf K, TabI F B ι H p
structure SOk (F : List Addr) (B : Hp) (ι : List Addr) (σ : L2.St) (H : Hp) (ρ : Rho) (κ : Kap) : Prop where
  hs : HSt K F B ι H κ
  sl : σ.length = ρ.length
  loc : ∀ (i : Nat) (x : DV), ρ[i]? = some (some x) → ∃ v, σ[i]? = some (some v) ∧ WOk K B ι v x
end
structure Grow (F : List Addr) (B : Hp) (ι : List Addr) (H B' : Hp) (ι' : List Addr) (H' : Hp) : Prop where
  b : Same B B'
  i : ∀ (j : Nat) (a : Addr), ι[j]? = some a → ι'[j]? = some a
  fr : ∀ a ∈ F, H' a = H a

section
variable {K : PySem.W.Frag} {F : List Addr} {B B' B1 : Hp} {ι ι' ι1 : List Addr} {σ : L2.St} {H H' H1 : Hp} {ρ : Rho} {κ κ' : Kap} {v : V} {x : DV}
theorem TabI.to {F' : List Addr} {p : Addr × Str} (t : TabI F B ι H p) (b : Same B B') (h : H' p.1 = H p.1) (n : B' p.1 = none) (i : p.1 ∉ ι') (f : p.1 ∉ F') : TabI F' B' ι' H' p := by
  obtain ⟨⟨ps, h1, h2, h3⟩, _⟩ := t
  refine ⟨⟨ps, h.trans h1, h2, fun pos cv e => ?_⟩, n, i, f⟩
  obtain ⟨c, e1, e2⟩ := h3 pos cv e
  exact ⟨c, e1, b _ _ e2⟩
theorem TabI.ne {p : Addr × Str} {a : Addr} {o : HO} (t : TabI F B ι H p) (h : H a = Option.some o) (n : ∀ ps, o ≠ .tbl ps) : p.1 ≠ a := fun e => by
  obtain ⟨⟨ps, h1, _⟩, _⟩ := t
  rw [e, h] at h1
  cases h1
  exact n ps rfl
theorem TabI.nn {p : Addr × Str} {a : Addr} (t : TabI F B ι H p) (h : H a = none) : p.1 ≠ a := fun e => by
  obtain ⟨⟨ps, h1, _⟩, _⟩ := t
  rw [e, h] at h1
  cases h1
theorem TabI.some {p : Addr × Str} (t : TabI F B ι H p) : ∃ ps, H p.1 = Option.some (.tbl ps) := let ⟨⟨ps, h, _⟩, _⟩ := t; ⟨ps, h⟩
theorem Grow.refl : Grow F B ι H B ι H := ⟨Same.refl _, fun _ _ h => h, fun _ _ => rfl⟩
theorem Grow.trans (g : Grow F B ι H B1 ι1 H1) (h : Grow F B1 ι1 H1 B' ι' H') : Grow F B ι H B' ι' H' :=
  ⟨g.b.trans h.b, fun j a e => h.i j a (g.i j a e), fun a m => (h.fr a m).trans (g.fr a m)⟩
theorem Grow.less {G : List Addr} (g : Grow G B ι H B' ι' H') (s : ∀ a ∈ F, a ∈ G) : Grow F B ι H B' ι' H' := ⟨g.b, g.i, fun a m => g.fr a (s a m)⟩
theorem WOk.mono (b : Same B B') (i : ∀ (j : Nat) (a : Addr), ι[j]? = some a → ι'[j]? = some a) : ∀ {v : V} {x : DV}, WOk K B ι v x → WOk K B' ι' v x
  | _, .d _, h => Rp.mono b h
  | _, .c _, ⟨a, h, e⟩ => ⟨a, i _ _ h, e⟩
  | _, .n _, h => h
theorem WOk.grow (g : Grow F B ι H B' ι' H') (h : WOk K B ι v x) : WOk K B' ι' v x := h.mono g.b g.i
theorem WOk.toV (h : WOk K B ι v x) : VOk K F B ι H v x := by
  cases x with
  | d x => exact h
  | c i => exact h
  | n xs => exact h.elim
theorem SOk.grow (s : SOk K F B ι σ H ρ κ) (g : Grow F B ι H B' ι' H') (h : HSt K F B' ι' H' κ') : SOk K F B' ι' σ H' ρ κ' :=
  ⟨h, s.sl, fun i x e => let ⟨v, e1, w⟩ := s.loc i x e; ⟨v, e1, w.grow g⟩⟩
theorem HSt.less {G : List Addr} (h : HSt K G B ι H κ) (s : ∀ a ∈ F, a ∈ G) : HSt K F B ι H κ := ⟨h.ex, h.len, h.nd, h.out, fun a m => h.pro a (s a m), h.cel, h.tr, fun p m => let t := h.tb p m; ⟨t.1, t.2.1, t.2.2.1, fun z => t.2.2.2 (s _ z)⟩⟩
theorem pmap {α β : Type} {R S : α → β → Prop} : ∀ {l₁ : List α} {l₂ : List β}, Paired R l₁ l₂ → (∀ a b, R a b → S a b) → Paired S l₁ l₂
  | _, _, .nil, _ => .nil
  | _, _, .cons r t, f => .cons (f _ _ r) (pmap t f)
theorem COk.mono {a : Addr} {cl : Cell} (b : Same B B') (i : ∀ (j : Nat) (a : Addr), ι[j]? = some a → ι'[j]? = some a) (e : H' a = H a) (h : COk K B ι H a cl) : COk K B' ι' H' a cl := by
  cases cl with
  | dead => exact True.intro
  | lst xs => obtain ⟨vs, h1, h2⟩ := h; exact ⟨vs, e.trans h1, pmap h2 fun _ _ w => w.mono b i⟩
  | dic kvs => obtain ⟨vs, h1, h2⟩ := h; exact ⟨vs, e.trans h1, pmap h2 fun _ _ w => ⟨w.1, w.2.mono b i⟩⟩
/-- B grows by a known object -/
theorem Same.updL {p : Addr} {o : HO} (s : Same B H) (h : H p = some o) : Same (upd B p o) H := fun a u e => by
  by_cases q : a = p
  · subst q; rw [upd_same] at e; cases e; exact h
  · rw [upd_ne q] at e; exact s a u e
theorem Same.updNew {p : Addr} {o : HO} (h : B p = none) : Same B (upd B p o) := fun a u e => by
  rw [upd_ne (ne_of_none e h)]; exact e
/-- an object that is known, not a cell, not protected, may be frozen -/
theorem HSt.frz (s : HSt K F B ι H κ) {p : Addr} {o : HO} (h : H p = some o) (hb : B p = none) (hi : p ∉ ι) (hf : p ∉ F) (ho : ∀ ps, o ≠ .tbl ps := by intro _ z; cases z) : HSt K F (upd B p o) ι H κ ∧ Grow F B ι H (upd B p o) ι H := by
  have b : Same B (upd B p o) := Same.updNew hb
  refine ⟨⟨Same.updL s.ex h, s.len, s.nd, fun i a m l => ?_, fun a m => ?_, fun i a cl e1 e2 => (s.cel i a cl e1 e2).mono b (fun _ _ h => h) rfl, s.tr, fun q m => let t := s.tb q m; t.to b rfl (by rw [upd_ne (t.ne h ho)]; exact t.2.1) t.2.2.1 t.2.2.2⟩, ⟨b, fun _ _ h => h, fun _ _ => rfl⟩⟩
  · rw [upd_ne (fun (e : a = p) => hi (e ▸ List.mem_of_getElem? m))]; exact s.out i a m l
  · obtain ⟨h1, h2, h3⟩ := s.pro a m
    refine ⟨h1, ?_, h3⟩
    rw [upd_ne (fun (e : a = p) => hf (e ▸ m))]; exact h2
/-- a new object, frozen at once -/
theorem HSt.new (s : HSt K F B ι H κ) {p : Addr} {o : HO} (h : H p = none) : HSt K F (upd B p o) ι (upd H p o) κ ∧ Grow F B ι H (upd B p o) ι (upd H p o) := by
  have hb : B p = none := by
    cases q : B p with
    | none => rfl
    | some u => rw [s.ex _ _ q] at h; cases h
  have hi : ∀ a, (∃ o, H a = some o) → a ≠ p := fun a ⟨o, e⟩ => ne_of_none e h
  have b : Same B (upd B p o) := Same.updNew hb
  refine ⟨⟨fun a u e => ?_, s.len, s.nd, fun i a m l => ?_, fun a m => ?_, fun i a cl e1 e2 => ?_, fun a m => ?_, fun q m => let t := s.tb q m; t.to b (upd_ne (t.nn h)) (by rw [upd_ne (t.nn h)]; exact t.2.1) t.2.2.1 t.2.2.2⟩, ⟨b, fun _ _ h => h, fun a m => upd_ne (hi a (s.pro a m).1)⟩⟩
  · by_cases q : a = p
    · subst q; rw [upd_same] at e ⊢; exact e
    · rw [upd_ne q] at e ⊢; exact s.ex a u e
  · rw [upd_ne (hi a (s.tr a (List.mem_of_getElem? m)))]; exact s.out i a m l
  · obtain ⟨h1, h2, h3⟩ := s.pro a m
    refine ⟨?_, ?_, h3⟩
    · rw [upd_ne (hi a h1)]; exact h1
    · rw [upd_ne (hi a h1)]; exact h2
  · exact (s.cel i a cl e1 e2).mono b (fun _ _ h => h) (upd_ne (hi a (s.tr a (List.mem_of_getElem? e1))))
  · rw [upd_ne (hi a (s.tr a m))]; exact s.tr a m
/-- a new object, known, neither frozen nor a cell so far -/
theorem HSt.loose (s : HSt K F B ι H κ) {p : Addr} {o : HO} (h : H p = none) : HSt K F B ι (upd H p o) κ ∧ Grow F B ι H B ι (upd H p o) ∧ B p = none ∧ p ∉ ι ∧ p ∉ F := by
  have hb : B p = none := by
    cases q : B p with
    | none => rfl
    | some u => rw [s.ex _ _ q] at h; cases h
  have hi : ∀ a, (∃ o, H a = some o) → a ≠ p := fun a ⟨o, e⟩ => ne_of_none e h
  refine ⟨⟨fun a u e => ?_, s.len, s.nd, s.out, fun a m => ?_, fun i a cl e1 e2 => ?_, fun a m => ?_, fun q m => let t := s.tb q m; t.to (Same.refl _) (upd_ne (t.nn h)) t.2.1 t.2.2.1 t.2.2.2⟩, ⟨Same.refl _, fun _ _ h => h, fun a m => upd_ne (hi a (s.pro a m).1)⟩, hb, fun m => ?_, fun m => ?_⟩
  · rw [upd_ne (hi a ⟨_, s.ex a u e⟩)]; exact s.ex a u e
  · obtain ⟨h1, h2, h3⟩ := s.pro a m
    refine ⟨?_, h2, h3⟩
    rw [upd_ne (hi a h1)]; exact h1
  · exact (s.cel i a cl e1 e2).mono (Same.refl _) (fun _ _ h => h) (upd_ne (hi a (s.tr a (List.mem_of_getElem? e1))))
  · rw [upd_ne (hi a (s.tr a m))]; exact s.tr a m
  · obtain ⟨o, e⟩ := s.tr p m; rw [h] at e; cases e
  · obtain ⟨⟨o, e⟩, _⟩ := s.pro p m; rw [h] at e; cases e
/-- a new value -/
theorem HSt.newN (s : HSt K F B ι H κ) {p : Addr} {vs : List V} {xs : List D} (h : H p = none) (r : RpAll K B vs xs) :
    HSt K F B ι (upd H p (.lst vs)) κ ∧ Grow F B ι H B ι (upd H p (.lst vs)) ∧ VOk K F B ι (upd H p (.lst vs)) (.ref p) (.n xs) := by
  obtain ⟨h1, h2, h3, h4, h5⟩ := s.loose (o := .lst vs) h
  exact ⟨h1, h2, p, vs, rfl, upd_same, h3, h4, h5, r⟩
/-- a held value, while others run -/
theorem HSt.hold (s : HSt K F B ι H κ) (w : VOk K F B ι H v x) : ∃ F', (∀ a ∈ F, a ∈ F') ∧ HSt K F' B ι H κ ∧
    ∀ {B' : Hp} {ι' : List Addr} {H' : Hp} {κ' : Kap}, Grow F' B ι H B' ι' H' → HSt K F' B' ι' H' κ' → VOk K F B' ι' H' v x ∧ HSt K F B' ι' H' κ' ∧ Grow F B ι H B' ι' H' := by
  cases x with
  | d x => exact ⟨F, fun _ m => m, s, fun g h => ⟨Rp.mono g.b w, h, g⟩⟩
  | c i => exact ⟨F, fun _ m => m, s, fun g h => ⟨(show WOk K B ι v (.c i) from w).grow g, h, g⟩⟩
  | n xs =>
    obtain ⟨p, vs, e, h1, h2, h3, h4, r⟩ := w
    refine ⟨p :: F, fun _ m => List.mem_cons_of_mem _ m, ⟨s.ex, s.len, s.nd, s.out, fun a m => ?_, s.cel, s.tr, fun q m => let t := s.tb q m; t.to (Same.refl _) rfl t.2.1 t.2.2.1 fun z => (List.mem_cons.mp z).elim (t.ne h1 (by intro _ z; cases z)) t.2.2.2⟩, fun g h => ?_⟩
    · rcases List.mem_cons.mp m with rfl | m
      · exact ⟨⟨_, h1⟩, h2, h3⟩
      · exact s.pro a m
    · obtain ⟨⟨o, e1⟩, e2, e3⟩ := h.pro p (List.mem_cons_self ..)
      exact ⟨⟨p, vs, e, (g.fr p (List.mem_cons_self ..)).trans h1, e2, e3, h4, r.mono g.b⟩, h.less fun _ m => List.mem_cons_of_mem _ m, g.less fun _ m => List.mem_cons_of_mem _ m⟩
/-- a value frozen -/
def fz : DV → DV
  | .n xs => .d (.list xs)
  | x => x
theorem HSt.fz (s : HSt K F B ι H κ) (w : VOk K F B ι H v x) : ∃ B', HSt K F B' ι H κ ∧ Grow F B ι H B' ι H ∧ WOk K B' ι v (fz x) := by
  cases x with
  | d x => exact ⟨B, s, Grow.refl, w⟩
  | c i => exact ⟨B, s, Grow.refl, w⟩
  | n xs =>
    obtain ⟨p, vs, rfl, h1, h2, h3, h4, r⟩ := w
    obtain ⟨a, b⟩ := s.frz h1 h2 h3 h4
    exact ⟨_, a, b, .lst upd_same (r.mono b.b)⟩
end

/-! ### readings -/
section
variable (K : PySem.W.Frag) (mg : Str → Option Value) (E : XK)
/-- an exception of the mirror is wanted -/
def XW (F : List Addr) (B : Hp) (ι : List Addr) (H : Hp) (n : Str) (fs : Fs) (κ' : Kap) : Prop :=
  ∀ C d B' ι' H' ws, mg n = some (.ref C) → Grow F B ι H B' ι' H' → HSt K F B' ι' H' κ' → H' d = some (.xd ws) → Paired (fun (p : Str × V) (q : Str × D) => p.1 = q.1 ∧ Rp K B' p.2 q.2) ws fs → E (.ref C) (some d) H'
def PostE (F : List Addr) (B : Hp) (ι : List Addr) (H : Hp) (Q : VK) : Out DV → Prop
  | .ok x κ' => ∀ v B' ι' H', Grow F B ι H B' ι' H' → HSt K F B' ι' H' κ' → VOk K F B' ι' H' v x → Q v H'
  | .ex n fs κ' => XW K mg E F B ι H n fs κ'
  | .bad => False
def PostT (F : List Addr) (B : Hp) (ι : List Addr) (H : Hp) (Q : Bool → Hp → Prop) : Out Bool → Prop
  | .ok x κ' => ∀ B' ι' H', Grow F B ι H B' ι' H' → HSt K F B' ι' H' κ' → Q x H'
  | .ex n fs κ' => XW K mg E F B ι H n fs κ'
  | .bad => False
def PostA (F : List Addr) (B : Hp) (ι : List Addr) (H : Hp) (Q : List V → Hp → Prop) : Out (List DV) → Prop
  | .ok xs κ' => ∀ vs B' ι' H', Grow F B ι H B' ι' H' → HSt K F B' ι' H' κ' → Paired (WOk K B' ι') vs xs → Q vs H'
  | .ex n fs κ' => XW K mg E F B ι H n fs κ'
  | .bad => False
def PostS (F : List Addr) (B : Hp) (ι : List Addr) (H : Hp) (De : Ends) : OutS → Prop
  | .nx ρ' κ' => ∀ σ' B' ι' H', Grow F B ι H B' ι' H' → SOk K F B' ι' σ' H' ρ' κ' → De.nx σ' H'
  | .bk ρ' κ' => ∀ σ' B' ι' H', Grow F B ι H B' ι' H' → SOk K F B' ι' σ' H' ρ' κ' → De.bk σ' H'
  | .ct ρ' κ' => ∀ σ' B' ι' H', Grow F B ι H B' ι' H' → SOk K F B' ι' σ' H' ρ' κ' → De.ct σ' H'
  | .rt x κ' => ∀ v B' ι' H', Grow F B ι H B' ι' H' → HSt K F B' ι' H' κ' → VOk K F B' ι' H' v x → De.rt v H'
  | .ex n fs κ' => XW K mg E F B ι H n fs κ'
  | .bad => False
def tM (m : ME) : TE := fun σ H Q => ∃ F B ι ρ κ, SOk K F B ι σ H ρ κ ∧ PostE K mg E F B ι H Q (m ρ κ)
def tT (m : MT) : TT := fun σ H Q => ∃ F B ι ρ κ, SOk K F B ι σ H ρ κ ∧ PostT K mg E F B ι H Q (m ρ κ)
def tA (m : MA) : TA := fun σ H Q => ∃ F B ι ρ κ, SOk K F B ι σ H ρ κ ∧ PostA K mg E F B ι H Q (m ρ κ)
def tS (m : MS) : TS := fun De σ H => ∃ F B ι ρ κ, SOk K F B ι σ H ρ κ ∧ PostS K mg E F B ι H De (m ρ κ)
end
abbrev JE (X : Cx) (E : XK) (e : Expr) (m : ME) : Prop := PE X e (tM X.K X.mg E m)
abbrev JT (X : Cx) (E : XK) (e : Expr) (m : MT) : Prop := PT X e (tT X.K X.mg E m)
abbrev JW (X : Cx) (E : XK) (e : Expr) (m : MT) : Prop := PW X e (tT X.K X.mg E m)
abbrev JA (X : Cx) (E : XK) (es : List Expr) (m : MA) : Prop := PA X es (tA X.K X.mg E m)
abbrev JS (X : Cx) (E : XK) (st : Stmt) (m : MS) : Prop := PS X st (tS X.K X.mg E m)
abbrev JSs (X : Cx) (E : XK) (st : List Stmt) (m : MS) : Prop := PSs X st (tS X.K X.mg E m)
section
variable {X : Cx}
theorem pe_imp {e : Expr} {t t' : TE} (h : PE X e t) (i : ∀ σ H Q, t' σ H Q → t σ H Q) : PE X e t' := ⟨fun pins s σ H Q I q => h.run pins s σ H Q I (i σ H Q q)⟩
theorem pt_imp {e : Expr} {t t' : TT} (h : PT X e t) (i : ∀ σ H Q, t' σ H Q → t σ H Q) : PT X e t' := ⟨fun pins s σ H Q I q => h.run pins s σ H Q I (i σ H Q q)⟩
theorem pw_imp {e : Expr} {t t' : TT} (h : PW X e t) (i : ∀ σ H Q, t' σ H Q → t σ H Q) : PW X e t' := ⟨fun w pins s σ H Q I q => h.run w pins s σ H Q I (i σ H Q q)⟩
theorem pa_imp {e : List Expr} {t t' : TA} (h : PA X e t) (i : ∀ σ H Q, t' σ H Q → t σ H Q) : PA X e t' := ⟨fun p pins s σ H Q I q => h.run p pins s σ H Q I (i σ H Q q)⟩
theorem ps_imp {e : Stmt} {t t' : TS} (h : PS X e t) (i : ∀ De σ H, t' De σ H → t De σ H) : PS X e t' := ⟨fun pins s σ H De I q => h.run pins s σ H De I (i De σ H q)⟩
theorem pss_imp {e : List Stmt} {t t' : TS} (h : PSs X e t) (i : ∀ De σ H, t' De σ H → t De σ H) : PSs X e t' := ⟨fun pins s σ H De I q => h.run pins s σ H De I (i De σ H q)⟩
end
end DL

namespace DL
open L2 PyProof.Rows PySem PySem.Spec

/-! ### defs, where it is known that no repr runs around -/
structure FnG (P : Program) (w : World) (K : PySem.W.Frag) (mg : Str → Option Value) (base : Heap) (CX : CXT) (k : Nat) (f : Addr) (fd : FuncData) (ps : List Str) (sp : Sp) : Prop where
  len : ∀ vs H Q E, sp vs H Q E → vs.length = ps.length
  go : ∀ (A : Around) (outer : List Env) (s : Shared) (H : Hp) (args : Args) (us : List Value) (vs : List V) (Q : VK) (E : XK), A.guards = some [] → Room k A →
    Env0 P w K mg base A outer s H → BindsTo s fd args (ps.zip us) → Vals vs us → sp vs H Q E → codeAny (model P w) A (.call (.ref f) args) (CR CX outer P w H s Q E) s
theorem FnG.more {P : Program} {w : World} {K : PySem.W.Frag} {mg : Str → Option Value} {base : Heap} {CX : CXT} {j k : Nat} {f : Addr} {fd : FuncData} {ps : List Str} {sp : Sp} (F : FnG P w K mg base CX j f fd ps sp) (h : j ≤ k) : FnG P w K mg base CX k f fd ps sp :=
  ⟨F.len, fun A outer s H args us vs Q E g r => F.go A outer s H args us vs Q E g (r.mono h)⟩
/-- the rule: a def by its body -/
theorem fnG {CX : CXT} {P : Program} {w : World} {K : PySem.W.Frag} {mg : Str → Option Value} {base : Heap} {k : Nat} {f : Addr} {fd : FuncData} {st : Stmt} {name qual : Str} {N ps : List Str} {sp : Sp}
    (Fu : Fun K name qual st f fd) (S : FnScope N ps (defScope st)) (len : ∀ vs H Q E, sp vs H Q E → vs.length = ps.length)
    (body : ∀ (cdv : Value) (A : Around) (outer : List Env) (s : Shared) (H : Hp) (vs : List V) (Q : VK) (E : XK), A.guards = some [] → Room k (A.deeper (envOfC qual (defScope st) s.heap.objs.size f cdv)) → sp vs H Q E →
      ∃ t, PSs (cxOf CX P w K mg base N qual (defScope st) f cdv A outer s H E) (defBody st) t ∧ t { nx := fun _ H' => Q .non H', rt := Q } (L2.start N vs) H) : FnG P w K mg base CX (k + 1) f fd ps sp := by
  obtain ⟨oc, od, kV, doc, pm, an, cdv, ct, osl, rfl, look, code⟩ := Fu.ex
  refine ⟨len, fun A outer s H args us vs Q E gu room en bi va pr => ?_⟩
  have inS : ∀ b o, base.get? b = some o → s.heap.get? b = some o := fun b o e => (en.bs b o e).1
  have kin : K.In s.heap := en.mod.kin.keeps inS
  have kinds : ∀ y ∈ ps.zip us, (defScope st).names.lookup y.1 = some .local ∨ ((defScope st).names.lookup y.1 = some .cell ∧ ((cellsFrom (s.heap.objs.size + 1) (defScope st).names []).lookup y.1).isSome = true) := by
    rintro ⟨n, v⟩ my
    cases S.par n (List.of_mem_zip my).1 with
    | inl q => exact .inl q
    | inr q => exact .inr ⟨q, PySem.W.cellsFrom_some _ _ _ (.inl q)⟩
  refine codeAny_call_function room.depth (kin _ _ look) rfl S.co S.gen rfl (PySem.W.codeRec_of kin code) (bi _ _ _ _ (wpAny_newFunctionEnv_cells S.kind kinds fun env ee s1 x => ?_))
  subst ee
  refine ⟨(en.mod.nolimit.keeps inS).keeps x.toInCall.keep, codeAny_func ?_⟩
  obtain ⟨t, run, reads⟩ := body cdv A outer s H vs Q E gu (room.deeper _) pr
  have start := inv_start (CX := CX) (E := E) (cd := cdv) (f := f) (qual := qual) S room.hd en (len _ _ _ _ pr) va x
  refine wpAny_mono (run.run [] s1 _ H _ start reads) (fun fl s' h => ?_) fun _ _ h => h
  have back : ∀ {σ' : L2.St} {H' : Hp} {v : V} {u : Value}, Inv (cxOf CX P w K mg base N qual (defScope st) f cdv A outer s H E) [] σ' H' s' → RelV v u → Q v H' → CE outer P w H s Q u s' := by
    intro σ' H' v u J rv q
    exact ⟨v, H', J.os, J.bare, J.base, J.hok, rv, q⟩
  match fl, h with
  | .ret u, ⟨v, σ', H', J, rv, q⟩ => exact back J rv q
  | .next, ⟨σ', H', J, q⟩ => exact back (v := .non) (u := .none) J rfl q
  | .brk, ⟨_, _, _, q⟩ => exact False.elim q
  | .cont, ⟨_, _, _, q⟩ => exact False.elim q
section
variable {X : Cx} {CX : CXT} {k : Nat} {f : Addr} {fd : FuncData} {ps ks : List Str} {sp : Sp} {dvs : List V} {ds : List Value} {E : XK} {x : Str} {p pos : Pos} {e : Expr} {es : List Expr} {kws : List Keyword} {t tk : TA}
theorem goes {pins : List (Addr × Obj)} {σ : L2.St} {H : Hp} {s : Shared} {Q : VK} {us : List Value} {kw : List (Str × Value)} {all : List Value} {vs : List V} (F : FnG X.prog X.w X.K X.mg X.base CX k f fd ps sp) (gu : X.A.guards = some []) (hr : Room k X.A)
    (hb : all.length = ps.length → BindsTo s fd ⟨us, kw⟩ (ps.zip all)) (hx : Passes CX X E) (I : Inv X pins σ H s) (r : Vals vs all) (h : sp vs H Q E) : wpAny (model X.prog X.w) X.A (call (.ref f) us kw) (EP X pins σ Q) X.xe s := by
  refine wpAny_call (codeAny_mono (F.go X.A X.stack s H ⟨us, kw⟩ all vs Q E gu hr I.env0 (hb (r.length.symm.trans (F.len _ _ _ _ h))) r h) ?_)
  rintro (er | fl) s' q
  · exact hx pins σ H s er s' I q
  · match fl, q with
    | .ret u, q => exact I.after q
    | .next, q => exact False.elim q
    | .brk, q => exact False.elim q
    | .cont, q => exact False.elim q
theorem pe_callG (F : FnG X.prog X.w X.K X.mg X.base CX k f fd ps sp) (gu : X.A.guards = some []) (hr : Room k X.A) (hg : Gl X x) (hm : X.mg x = some (.ref f)) (hk : PySem.W.keepIn X.K (.ref f) = true) (hb : Binds X.K fd ps ds) (hd : Vals dvs ds) (hx : Passes CX X E)
    (ha : PA X (e :: es) t) (hdb : (x == ("__debug__" : Str)) = false := by decide) (he : starEach (e :: es) X.env = (false, eval e X.env) :: starEach es X.env := by rfl) (hpl : (backTo pos (starEach es X.env)).any (·.1) = false := by rfl) :
    PE X (.Call (.Name x p) (e :: es) [] pos) (tCall sp dvs E t) := by
  constructor
  intro pins s σ H Q I h
  refine wpAny_Call_Name_kw (ld_glob I hg hm (PySem.W.callWith_K (h₀ := X.base) I.ok.mod.kin hk (thn (ha.run pos pins s σ H _ I h) ?_) he hpl) hdb)
  rintro us s1 ⟨vs, H1, I1, r, q⟩
  exact ⟨I1.kIn, goes F gu hr (fun l => hb s1 us I1.kIn l) hx I1 (r.append hd) q⟩
theorem pe_call0G (F : FnG X.prog X.w X.K X.mg X.base CX k f fd ps sp) (gu : X.A.guards = some []) (hr : Room k X.A) (hg : Gl X x) (hm : X.mg x = some (.ref f)) (hk : PySem.W.keepIn X.K (.ref f) = true) (hb : Binds X.K fd ps ds) (hd : Vals dvs ds) (hx : Passes CX X E)
    (hdb : (x == ("__debug__" : Str)) = false := by decide) : PE X (.Call (.Name x p) [] [] pos) (tCall sp dvs E tNil) := by
  constructor
  intro pins s σ H Q I h
  have r : Vals ([] ++ dvs) ([] ++ ds) := Vals.append Paired.nil hd
  exact wpAny_Call_Name_kw (ld_glob I hg hm (PySem.W.callWith_K0 I.kIn hk (goes F gu hr (fun l => hb s [] I.kIn l) hx I r h)) hdb)
end
/-! ### the law's own call -/
/-- the script alone is known -/
def hScr (K : PySem.W.Frag) (a : Addr) (ob : Obj) (vs : List V) : Hp := fun b => if b = a ∧ K.lookup a = none then some (.frz ob (.lst vs)) else none
theorem hScr_some {K : PySem.W.Frag} {a b : Addr} {ob : Obj} {vs : List V} {o : HO} (e : hScr K a ob vs b = some o) : b = a ∧ K.lookup a = none ∧ o = .frz ob (.lst vs) := by
  unfold hScr at e
  split at e
  · rename_i h; cases e; exact ⟨h.1, h.2, rfl⟩
  · cases e
theorem lawG {P : Program} {w : World} {K : PySem.W.Frag} {mg mb : Str → Option Value} {k : Nat} {fa a : Addr} {fd : FuncData} {x : Str} {sp : Sp} {s₁ : Shared} {its : List Value} {ns : List Int} {CX : CXT}
    (kin : K.In s₁.heap) (hns : s₁.heap.Ns mainGlobals mg) (hmb : s₁.heap.Ns builtinsNs mb) (hbo : ∀ x : Str, x ≠ "__name__" → mb x = bootBuiltins x) (hlim : s₁.heap.NoLimit) (hge : s₁.gens = #[])
    (hat : s₁.heap.get? a = some { cls := .type "list", data := .seq its.toArray }) (hin : IntsAre its ns) (hle : ns.length ≤ sizeLine) (room : Room k callerA)
    (F : ∀ base : Heap, K.In base → base.Ns mainGlobals mg → FnG P w K mg base CX k fa fd [x] sp) (hbi : ∀ (s : Shared) (u : Value), BindsTo s fd ⟨[u], []⟩ [(x, u)])
    (prom : ∀ H : Hp, SqL K H a (ns.map V.int) → sp [.ref a] H (fun v _ => v = .bl true) fun _ _ _ => False) (hCX : ∀ H e s', CX [] H s₁ (fun _ _ _ => False) e s' → False) :
    codeAny (model P w) callerA (.call (.ref fa) ⟨[.ref a], []⟩) (fun r s' => r = .ok (.ret (.bool true)) ∧ OldK s₁.heap s'.heap ∧ s'.os = s₁.os ∧ AllBare s'.gens) s₁ := by
  have rel := vals_of_ints hin
  have same : ns.length = its.length := hin.length.symm
  -- the abstract heap
  let H : Hp := hScr K a { cls := .type "list", data := .seq its.toArray } (ns.map V.int)
  have seen : SqL K H a (ns.map V.int) := by
    cases hk : K.lookup a with
    | none => exact .inl (.inr ⟨_, if_pos ⟨rfl, hk⟩⟩)
    | some o =>
      have e := kin a o hk
      rw [hat] at e
      cases e
      exact .inr ⟨_, its.toArray, _, hk, rfl, rfl, rfl, by rw [List.size_toArray, ← same]; exact hle, by rw [List.toList_toArray]; exact rel⟩
  have hok : HOk P w H s₁.heap := fun b o e => by
    obtain ⟨rfl, _, rfl⟩ := hScr_some e
    exact ⟨hat, by rw [List.length_map]; exact hle, its, _, rel, hat⟩
  have hid : ∀ {b : Addr} {o : Obj}, s₁.heap.get? b = some o → (b = a → K.lookup a ≠ none) → (hidT s₁.heap H).get? b = some o := fun {b o} e n => hidT_get e (by
    cases q : H b with
    | none => rfl
    | some u => obtain ⟨h1, h2, _⟩ := hScr_some q; exact absurd h2 (n h1))
  have nsH : ∀ {b : Addr} {m : Str → Option Value}, s₁.heap.Ns b m → (hidT s₁.heap H).Ns b m := by
    rintro b m ⟨o, es, ep, e, d, r⟩
    refine ⟨o, es, ep, hid e fun z => ?_, d, r⟩
    subst z
    rw [hat] at e
    cases e
    exact nomatch d
  have kinH : K.In (hidT s₁.heap H) := fun b o e => hid (kin b o e) fun z n => by rw [z, n] at e; cases e
  have mod : Mod K mg (hidT s₁.heap H) := ⟨kinH, nsH hns, ⟨mb, nsH hmb, hbo⟩, let ⟨mc, h1, h2⟩ := hlim; ⟨mc, nsH h1, h2⟩⟩
  have env : Env0 P w K mg (hidT s₁.heap H) callerA [] s₁ H := ⟨rfl, mod, fun b o e => of_hidT e, Nat.le_of_eq (hidT_size _ _), trivial, (fun b hb => absurd hb (by simp [frs])), hok, .of_eq hge⟩
  refine codeAny_mono ((F _ kinH (nsH hns)).go callerA [] s₁ H ⟨[.ref a], []⟩ [.ref a] [.ref a] _ _ rfl room env (hbi s₁ (.ref a)) (.cons rfl .nil) (prom H seen)) ?_
  rintro (er | fl) s' h
  · exact (hCX H er s' h).elim
  · match fl, h with
    | .next, h => exact False.elim h
    | .brk, h => exact False.elim h
    | .cont, h => exact False.elim h
    | .ret u, ⟨v, H', os, bare, un, hok', r', q⟩ =>
      have q' : v = .bl true := q
      subst q'
      obtain rfl : u = Value.bool true := r'
      refine ⟨rfl, OldK.of_keep fun b o e => ?_, os, bare⟩
      cases q : H b with
      | none => exact un.keep b o e q (by simp [frs]) (by simp)
      | some u =>
        obtain ⟨_, _, rfl⟩ := hScr_some q
        have e2 := (hok' b _ (un.frzs b _ _ q)).1
        have e1 := (hok b _ q).1
        rw [e] at e1
        cases e1
        exact e2
theorem walkG {l : PySem.W.OpenLaw} {n k : Nat} {q : Program} {loose : List Str} {XP : (Str → Option Value) → Heap → Prop} {YP : World → Heap → Prop} {d : DefRec} {K : Params → PySem.W.Frag} {CX : World → CXT} {sp : World → (Str → Option Value) → Sp} {x : Str}
    (hn : l.most = some n) (hn2 : n ≤ sizeLine) (hdf : d.params.defaults = []) (room : Room k callerA) (hY : ∀ (w : World) (h : Heap), YP w h → (K w.params).In h)
    (F : ∀ (w : World) (mg : Str → Option Value) (fa : Addr) (h : Heap), (K w.params).In h → h.Ns mainGlobals mg → mg d.name = some (.ref fa) → ∃ fd : FuncData, (∀ (s : Shared) (u : Value), BindsTo s fd ⟨[u], []⟩ [(x, u)]) ∧
        ∀ base : Heap, (K w.params).In base → base.Ns mainGlobals mg → FnG l.prog w (K w.params) mg base (CX w) k fa fd [x] (sp w mg))
    (prom : ∀ (w : World) (mg : Str → Option Value) (H : Hp) (a : Addr) (ns : List Int), ns.length ≤ n → SqL (K w.params) H a (ns.map V.int) → sp w mg [.ref a] H (fun v _ => v = .bl true) fun _ _ _ => False)
    (hCX : ∀ (w : World) (H : Hp) (s : Shared) (e : Value) (s' : Shared), CX w [] H s (fun _ _ _ => False) e s' → False) :
    PySem.W.WalkO q loose XP YP l.row.toRowW d [] (fun f vs => PySem.call f vs) := by
  refine Att.attach_call hn hdf fun w s₀ s₁ mg mb fa o pm cd doc a its ns G Y ho hd hcd hmg hobj hi hlen hge => ?_
  obtain ⟨fd, hb, hF⟩ := F w mg fa _ (hY w _ Y) G.T.g hmg
  exact lawG (hY w _ Y) G.T.g G.T.b G.T.builtins G.T.nolimit hge hobj hi (Nat.le_trans hlen hn2) room hF hb (fun H h => prom w mg H a ns hlen h) fun H e s' => hCX w H s₁ e s'
end DL

namespace DL
open L2 PyProof.Rows PySem PySem.Spec

section
variable {K : PySem.W.Frag} {mg : Str → Option Value} {E : XK} {F F' : List Addr} {B B' B1 : Hp} {ι ι' ι1 : List Addr} {σ : L2.St} {H H' H1 : Hp} {ρ : Rho} {κ κ' κ1 : Kap} {n : Str} {fs : Fs}
theorem XW.grow (h : XW K mg E F B ι H n fs κ') (g : Grow F B ι H B1 ι1 H1) (hF : ∀ a ∈ F, a ∈ F') : XW K mg E F' B1 ι1 H1 n fs κ' :=
  fun C d B' ι' H' ws m g1 s e p => h C d B' ι' H' ws m (g.trans (g1.less hF)) (s.less hF) e p
theorem VOk.less {v : V} {x : DV} (hF : ∀ a ∈ F, a ∈ F') (h : VOk K F' B ι H v x) : VOk K F B ι H v x := by
  cases x with
  | d x => exact h
  | c i => exact h
  | n xs => obtain ⟨p, vs, e, h1, h2, h3, h4, r⟩ := h; exact ⟨p, vs, e, h1, h2, h3, fun m => h4 (hF p m), r⟩
theorem PostE.grow {Q : VK} {o : Out DV} (h : PostE K mg E F B ι H Q o) (g : Grow F B ι H B1 ι1 H1) : PostE K mg E F B1 ι1 H1 Q o := by
  cases o with
  | ok x κ' => exact fun v B' ι' H' g1 s w => h v B' ι' H' (g.trans g1) s w
  | ex n fs κ' => exact XW.grow h g fun _ m => m
  | bad => exact h
theorem PostT.grow {Q : Bool → Hp → Prop} {o : Out Bool} (h : PostT K mg E F B ι H Q o) (g : Grow F B ι H B1 ι1 H1) : PostT K mg E F B1 ι1 H1 Q o := by
  cases o with
  | ok x κ' => exact fun B' ι' H' g1 s => h B' ι' H' (g.trans g1) s
  | ex n fs κ' => exact XW.grow h g fun _ m => m
  | bad => exact h
theorem PostA.grow {Q : List V → Hp → Prop} {o : Out (List DV)} (h : PostA K mg E F B ι H Q o) (g : Grow F B ι H B1 ι1 H1) : PostA K mg E F B1 ι1 H1 Q o := by
  cases o with
  | ok x κ' => exact fun v B' ι' H' g1 s w => h v B' ι' H' (g.trans g1) s w
  | ex n fs κ' => exact XW.grow h g fun _ m => m
  | bad => exact h
theorem PostS.grow {De : Ends} {o : OutS} (h : PostS K mg E F B ι H De o) (g : Grow F B ι H B1 ι1 H1) : PostS K mg E F B1 ι1 H1 De o := by
  cases o with
  | nx ρ' κ' => exact fun v B' ι' H' g1 s => h v B' ι' H' (g.trans g1) s
  | bk ρ' κ' => exact fun v B' ι' H' g1 s => h v B' ι' H' (g.trans g1) s
  | ct ρ' κ' => exact fun v B' ι' H' g1 s => h v B' ι' H' (g.trans g1) s
  | rt x κ' => exact fun v B' ι' H' g1 s w => h v B' ι' H' (g.trans g1) s w
  | ex n fs κ' => exact XW.grow h g fun _ m => m
  | bad => exact h

theorem SOk.step (s : SOk K F B ι σ H ρ κ) (g : Grow F B ι H B1 ι1 H1) (h : HSt K F' B1 ι1 H1 κ1) : SOk K F' B1 ι1 σ H1 ρ κ1 :=
  ⟨h, s.sl, fun i x e => let ⟨v, e1, w⟩ := s.loc i x e; ⟨v, e1, w.grow g⟩⟩
/-- evaluate, then go on -/
theorem evE {m : ME} {Q : VK} (s : SOk K F B ι σ H ρ κ)
    (hok : ∀ x κ1, m ρ κ = .ok x κ1 → ∀ v B1 ι1 H1, Grow F B ι H B1 ι1 H1 → HSt K F B1 ι1 H1 κ1 → VOk K F B1 ι1 H1 v x → Q v H1)
    (hex : ∀ n fs κ1, m ρ κ = .ex n fs κ1 → XW K mg E F B ι H n fs κ1) (hb : m ρ κ ≠ .bad) : tM K mg E m σ H Q := by
  refine ⟨F, B, ι, ρ, κ, s, ?_⟩
  cases e : m ρ κ with
  | ok x κ1 => exact hok x κ1 e
  | ex n fs κ1 => exact hex n fs κ1 e
  | bad => exact hb e
theorem evT {m : MT} {Q : Bool → Hp → Prop} (s : SOk K F B ι σ H ρ κ)
    (hok : ∀ x κ1, m ρ κ = .ok x κ1 → ∀ B1 ι1 H1, Grow F B ι H B1 ι1 H1 → HSt K F B1 ι1 H1 κ1 → Q x H1)
    (hex : ∀ n fs κ1, m ρ κ = .ex n fs κ1 → XW K mg E F B ι H n fs κ1) (hb : m ρ κ ≠ .bad) : tT K mg E m σ H Q := by
  refine ⟨F, B, ι, ρ, κ, s, ?_⟩
  cases e : m ρ κ with
  | ok x κ1 => exact hok x κ1 e
  | ex n fs κ1 => exact hex n fs κ1 e
  | bad => exact hb e
theorem evA {m : MA} {Q : List V → Hp → Prop} (s : SOk K F B ι σ H ρ κ)
    (hok : ∀ x κ1, m ρ κ = .ok x κ1 → ∀ v B1 ι1 H1, Grow F B ι H B1 ι1 H1 → HSt K F B1 ι1 H1 κ1 → Paired (WOk K B1 ι1) v x → Q v H1)
    (hex : ∀ n fs κ1, m ρ κ = .ex n fs κ1 → XW K mg E F B ι H n fs κ1) (hb : m ρ κ ≠ .bad) : tA K mg E m σ H Q := by
  refine ⟨F, B, ι, ρ, κ, s, ?_⟩
  cases e : m ρ κ with
  | ok x κ1 => exact hok x κ1 e
  | ex n fs κ1 => exact hex n fs κ1 e
  | bad => exact hb e
theorem evS {m : MS} {De : Ends} (s : SOk K F B ι σ H ρ κ)
    (hnx : ∀ ρ1 κ1, m ρ κ = .nx ρ1 κ1 → ∀ σ' B1 ι1 H1, Grow F B ι H B1 ι1 H1 → SOk K F B1 ι1 σ' H1 ρ1 κ1 → De.nx σ' H1)
    (hel : (∀ ρ1 κ1, m ρ κ ≠ .nx ρ1 κ1) → PostS K mg E F B ι H De (m ρ κ)) : tS K mg E m De σ H := by
  refine ⟨F, B, ι, ρ, κ, s, ?_⟩
  cases e : m ρ κ with
  | nx ρ1 κ1 => exact hnx ρ1 κ1 e
  | _ => rw [← e]; exact hel fun _ _ q => by rw [e] at q; cases q
theorem evOk {x : DV} {Q : VK} {v : V} (h : PostE K mg E F B ι H Q (.ok x κ1)) (g : Grow F B ι H B1 ι1 H1) (s : HSt K F B1 ι1 H1 κ1) (w : VOk K F B1 ι1 H1 v x) : Q v H1 := h v B1 ι1 H1 g s w
end

/-! ### names, constants -/
def mVar (i : Nat) : ME := fun ρ κ => match ρ[i]? with
  | some (some x) => .ok x κ
  | _ => .bad
def mC (d : D) : ME := fun _ κ => .ok (.d d) κ
section
variable {X : Cx} {E : XK}
theorem je_var (i : Nat) {x : Str} {pos : Pos} (hN : X.N[i]? = some x := by rfl) (hv : Vis X.env.scope x := by first | exact Or.inl rfl | exact Or.inr (Or.inl rfl) | exact Or.inr (Or.inr rfl)) (hd : (x == ("__debug__" : Str)) = false := by decide)
    (hcd : (x == ("__classdict__" : Str)) = false := by decide) : JE X E (.Name x pos) (mVar i) :=
  pe_imp (pe_var hN hv hd hcd) fun σ H Q ⟨F, B, ι, ρ, κ, s, h⟩ => by
    unfold mVar at h
    split at h
    · rename_i x e
      obtain ⟨v, e1, w⟩ := s.loc i x e
      exact ⟨v, e1, h v B ι H Grow.refl s.hs w.toV⟩
    · exact h.elim
theorem je_c {e : Expr} {v : V} {d : D} (h : PE X e (tC v)) (r : ∀ H, Rp X.K H v d) : JE X E e (mC d) :=
  pe_imp h fun σ H Q ⟨F, B, ι, ρ, κ, s, h⟩ => h v B ι H Grow.refl s.hs (r B)
theorem je_int {i : Int} {j pos} : JE X E (.Constant (.int i) j pos) (mC (.int i)) := je_c pe_int fun _ => .int i
theorem je_bl {b : Bool} {j pos} : JE X E (.Constant (.bool b) j pos) (mC (.bool b)) := je_c pe_bl fun _ => .bl b
theorem je_non {j pos} : JE X E (.Constant .none j pos) (mC .none) := je_c pe_non fun _ => .non
theorem je_str {x : Str} {j pos} : JE X E (.Constant (.str x) j pos) (mC (.str x)) := je_c pe_str fun _ => .str x
theorem je_gl {x : Str} {v : V} {d : D} {u : Value} {pos : Pos} (hg : Gl X x) (hm : X.mg x = some u) (r : RelV v u) (q : ∀ H, Rp X.K H v d) (hd : (x == ("__debug__" : Str)) = false := by decide) : JE X E (.Name x pos) (mC d) :=
  je_c (pe_glob hg hm r hd) q
end

/-! ### two values, one operation -/
def BinI (K : PySem.W.Frag) (r : R2) (f : Kap → DV → DV → Option DV) : Prop :=
  ∀ F B ι H κ v w x y z, HSt K F B ι H κ → VOk K F B ι H v x → VOk K F B ι H w y → f κ x y = some z → ∀ Q : VK,
    (∀ v' B' ι' H', Grow F B ι H B' ι' H' → HSt K F B' ι' H' κ → VOk K F B' ι' H' v' z → Q v' H') → r v w H Q
def UnI (K : PySem.W.Frag) (r : V → Hp → VK → Prop) (f : Kap → DV → Option DV) : Prop :=
  ∀ F B ι H κ v x z, HSt K F B ι H κ → VOk K F B ι H v x → f κ x = some z → ∀ Q : VK,
    (∀ v' B' ι' H', Grow F B ι H B' ι' H' → HSt K F B' ι' H' κ → VOk K F B' ι' H' v' z → Q v' H') → r v H Q
def CalI (K : PySem.W.Frag) (r : List V → Hp → VK → Prop) (f : Kap → List DV → Option DV) : Prop :=
  ∀ F B ι H κ vs xs z, HSt K F B ι H κ → Paired (WOk K B ι) vs xs → f κ xs = some z → ∀ Q : VK,
    (∀ v' B' ι' H', Grow F B ι H B' ι' H' → HSt K F B' ι' H' κ → VOk K F B' ι' H' v' z → Q v' H') → r vs H Q
def opt (κ : Kap) : Option DV → Out DV
  | some z => .ok z κ
  | none => .bad
def mBin (f : Kap → DV → DV → Option DV) (a b : ME) : ME := fun ρ κ => (a ρ κ).bind fun x κ1 => (b ρ κ1).bind fun y κ2 => opt κ2 (f κ2 x y)
def mUn (f : Kap → DV → Option DV) (a : ME) : ME := fun ρ κ => (a ρ κ).bind fun x κ1 => opt κ1 (f κ1 x)
section
variable {K : PySem.W.Frag} {mg : Str → Option Value} {E : XK}
theorem bin_imp {r : R2} {f : Kap → DV → DV → Option DV} {ma mb : ME} (hi : BinI K r f) {σ : L2.St} {H : Hp} {Q : VK} (h : tM K mg E (mBin f ma mb) σ H Q) : tOp r (tM K mg E ma) (tM K mg E mb) σ H Q := by
  obtain ⟨F, B, ι, ρ, κ, s, h⟩ := h
  unfold mBin at h
  refine evE s (fun x κ1 e1 v B1 ι1 H1 g1 s1 w1 => ?_) (fun n fs κ1 e1 => by rw [e1] at h; exact h) (fun e => by rw [e] at h; exact h)
  rw [e1] at h
  obtain ⟨F', hF, s1', back⟩ := s1.hold w1
  refine evE (s.step g1 s1') (fun y κ2 e2 w B2 ι2 H2 g2 s2 w2 => ?_) (fun n fs κ2 e2 => ?_) (fun e => ?_)
  · obtain ⟨w1', s2', g2'⟩ := back g2 s2
    have h : PostE K mg E F B ι H Q (Out.bind (mb ρ κ1) fun y κ2 => opt κ2 (f κ2 x y)) := h
    rw [e2] at h
    have h : PostE K mg E F B ι H Q (opt κ2 (f κ2 x y)) := h
    cases e : f κ2 x y with
    | none => rw [e] at h; exact h.elim
    | some z =>
      rw [e] at h
      exact hi F B2 ι2 H2 κ2 v w x y z s2' w1' (w2.less hF) e Q fun v' B' ι' H' g s' w' => h v' B' ι' H' ((g1.trans g2').trans g) s' w'
  · have h : PostE K mg E F B ι H Q (Out.bind (mb ρ κ1) fun y κ2 => opt κ2 (f κ2 x y)) := h
    rw [e2] at h
    exact XW.grow h g1 hF
  · have h : PostE K mg E F B ι H Q (Out.bind (mb ρ κ1) fun y κ2 => opt κ2 (f κ2 x y)) := h
    rw [e] at h
    exact h
theorem un_imp {r : V → Hp → VK → Prop} {f : Kap → DV → Option DV} {ma : ME} (hi : UnI K r f) {σ : L2.St} {H : Hp} {Q : VK} (h : tM K mg E (mUn f ma) σ H Q) : tUn r (tM K mg E ma) σ H Q := by
  obtain ⟨F, B, ι, ρ, κ, s, h⟩ := h
  unfold mUn at h
  refine evE s (fun x κ1 e1 v B1 ι1 H1 g1 s1 w1 => ?_) (fun n fs κ1 e1 => by rw [e1] at h; exact h) (fun e => by rw [e] at h; exact h)
  rw [e1] at h
  have h : PostE K mg E F B ι H Q (opt κ1 (f κ1 x)) := h
  cases e : f κ1 x with
  | none => rw [e] at h; exact h.elim
  | some z =>
    rw [e] at h
    exact hi F B1 ι1 H1 κ1 v x z s1 w1 e Q fun v' B' ι' H' g s' w' => h v' B' ι' H' (g1.trans g) s' w'
end
section
variable {X : Cx} {E : XK} {a b : Expr} {ma mb : ME} {pos : Pos}
theorem je_bin {op : Operator} {r : R2} {f : Kap → DV → DV → Option DV} (ho : OpR X (binaryOp op) r) (hi : BinI X.K r f) (ha : JE X E a ma) (hb : JE X E b mb) : JE X E (.BinOp a op b pos) (mBin f ma mb) :=
  pe_imp (pe_op ho ha hb) fun _ _ _ h => bin_imp hi h
theorem je_un {op : UnaryOp} {r : V → Hp → VK → Prop} {f : Kap → DV → Option DV} (ho : UnR X (unaryOp op) r) (hi : UnI X.K r f) (ha : JE X E a ma) : JE X E (.UnaryOp op a pos) (mUn f ma) :=
  pe_imp (pe_un ho ha) fun _ _ _ h => un_imp hi h
theorem je_cmp {op : CmpOp} {r : R2} {f : Kap → DV → DV → Option DV} (ho : OpR X (compareOp op) r) (hi : BinI X.K r f) (ha : JE X E a ma) (hb : JE X E b mb) (hm : behindInMarks op b = false := by with_unfolding_all rfl) : JE X E (.Compare a [op] [b] pos) (mBin f ma mb) :=
  pe_imp (pe_cmpR ho ha hb hm) fun _ _ _ h => bin_imp hi h
theorem je_ix {r : R2} {f : Kap → DV → DV → Option DV} (ho : IxR X r) (hi : BinI X.K r f) (ha : JE X E a ma) (hb : JE X E b mb) (hs : PlainIx b := by exact fun _ _ => rfl) : JE X E (.Subscript a b pos) (mBin f ma mb) :=
  pe_imp (pe_ix ho ha hb hs) fun _ _ _ h => bin_imp hi h
end

/-! ### arguments, displays -/
def mNil : MA := fun _ κ => .ok [] κ
def mCons (a : ME) (r : MA) : MA := fun ρ κ => (a ρ κ).bind fun x κ1 => (r ρ κ1).bind fun xs κ2 => .ok (fz x :: xs) κ2
def allD : List DV → Option (List D)
  | [] => some []
  | .d x :: r => (allD r).map (x :: ·)
  | _ => none
def mTup (a : MA) : ME := fun ρ κ => (a ρ κ).bind fun xs κ1 => match allD xs with
  | some ds => if ds.length ≤ 1000 then .ok (.d (.tuple ds)) κ1 else .bad
  | none => .bad
def mLst (a : MA) : ME := fun ρ κ => (a ρ κ).bind fun xs κ1 => match allD xs with
  | some ds => if ds.length ≤ 1000 then .ok (.n ds) κ1 else .bad
  | none => .bad
theorem line1000 {n : Nat} (h : n ≤ 1000) : n ≤ sizeLine := Nat.le_trans h (by decide)
theorem allD_ok {K : PySem.W.Frag} {B : Hp} {ι : List Addr} : ∀ {vs : List V} {xs : List DV} {ds : List D}, Paired (WOk K B ι) vs xs → allD xs = some ds → RpAll K B vs ds
  | _, _, _, .nil, e => by simp [allD] at e; subst e; exact .nil
  | _, .d x :: r, ds, .cons w t, e => by
    cases q : allD r with
    | none => simp [allD, q] at e
    | some es =>
      simp only [allD, q, Option.map_some, Option.some.injEq] at e
      subst e
      exact .cons w (allD_ok t q)
  | _, .c i :: r, ds, .cons w t, e => by simp [allD] at e
  | _, .n i :: r, ds, .cons w t, e => by simp [allD] at e
section
variable {X : Cx} {E : XK} {a : Expr} {es : List Expr} {ma : ME} {mr : MA} {pos : Pos}
theorem ja_nil : JA X E [] mNil := pa_imp pa_nil fun σ H Q ⟨F, B, ι, ρ, κ, s, h⟩ => h [] B ι H Grow.refl s.hs .nil
theorem ja_cons (ha : JE X E a ma) (hr : JA X E es mr) (hs : starEach (a :: es) X.env = (false, eval a X.env) :: starEach es X.env := by rfl) : JA X E (a :: es) (mCons ma mr) :=
  pa_imp (pa_cons ha hr hs) fun σ H Q ⟨F, B, ι, ρ, κ, s, h⟩ => by
    unfold mCons at h
    refine evE s (fun x κ1 e1 v B1 ι1 H1 g1 s1 w1 => ?_) (fun n fs κ1 e1 => by rw [e1] at h; exact h) (fun e => by rw [e] at h; exact h)
    rw [e1] at h
    have h : PostA X.K X.mg E F B ι H Q (Out.bind (mr ρ κ1) fun xs κ2 => .ok (fz x :: xs) κ2) := h
    obtain ⟨B1', s1', g1', w1'⟩ := s1.fz w1
    refine evA (s.step (g1.trans g1') s1') (fun xs κ2 e2 vs B2 ι2 H2 g2 s2 w2 => ?_) (fun n fs κ2 e2 => by rw [e2] at h; exact XW.grow h (g1.trans g1') fun _ m => m) (fun e => by rw [e] at h; exact h)
    rw [e2] at h
    exact h (v :: vs) B2 ι2 H2 ((g1.trans g1').trans g2) s2 (.cons (w1'.grow g2) w2)
theorem je_tup {k : Nat} (h : JA X E es mr) : JE X E (.Tuple es k pos) (mTup mr) :=
  pe_imp (pe_tup h) fun σ H Q ⟨F, B, ι, ρ, κ, s, h⟩ => by
    unfold mTup at h
    refine evA s (fun xs κ1 e1 vs B1 ι1 H1 g1 s1 w1 => ?_) (fun n fs κ1 e1 => by rw [e1] at h; exact h) (fun e => by rw [e] at h; exact h)
    rw [e1] at h
    dsimp only [Out.bind] at h
    split at h
    · rename_i ds e
      split at h
      · rename_i hl
        have r := allD_ok w1 e
        refine ⟨line1000 (by rw [r.len]; exact hl), fun p hp => ?_⟩
        obtain ⟨s2, g2⟩ := s1.new (o := .tup vs) hp
        exact h _ _ _ _ (g1.trans g2) s2 (.tup (.inl (.inl upd_same)) (r.mono g2.b))
      · exact h.elim
    · exact h.elim
theorem je_lst (h : JA X E es mr) : JE X E (.List es pos) (mLst mr) :=
  pe_imp (pe_lst h) fun σ H Q ⟨F, B, ι, ρ, κ, s, h⟩ => by
    unfold mLst at h
    refine evA s (fun xs κ1 e1 vs B1 ι1 H1 g1 s1 w1 => ?_) (fun n fs κ1 e1 => by rw [e1] at h; exact h) (fun e => by rw [e] at h; exact h)
    rw [e1] at h
    dsimp only [Out.bind] at h
    split at h
    · rename_i ds e
      split at h
      · rename_i hl
        have r := allD_ok w1 e
        refine ⟨line1000 (by rw [r.len]; exact hl), fun p hp => ?_⟩
        obtain ⟨s2, g2, w2⟩ := s1.newN hp r
        exact h _ _ _ _ (g1.trans g2) s2 w2
      · exact h.elim
    · exact h.elim
end

/-! ### calls of built-ins -/
def mCal (f : Kap → List DV → Option DV) (a : MA) : ME := fun ρ κ => (a ρ κ).bind fun xs κ1 => opt κ1 (f κ1 xs)
section
variable {K : PySem.W.Frag} {mg : Str → Option Value} {E : XK}
theorem cal_imp {r : List V → Hp → VK → Prop} {f : Kap → List DV → Option DV} {ma : MA} (hi : CalI K r f) {σ : L2.St} {H : Hp} {Q : VK} (h : tM K mg E (mCal f ma) σ H Q) : tCB r (tA K mg E ma) σ H Q := by
  obtain ⟨F, B, ι, ρ, κ, s, h⟩ := h
  unfold mCal at h
  refine evA s (fun x κ1 e1 v B1 ι1 H1 g1 s1 w1 => ?_) (fun n fs κ1 e1 => by rw [e1] at h; exact h) (fun e => by rw [e] at h; exact h)
  rw [e1] at h
  have h : PostE K mg E F B ι H Q (opt κ1 (f κ1 x)) := h
  cases e : f κ1 x with
  | none => rw [e] at h; exact h.elim
  | some z =>
    rw [e] at h
    exact hi F B1 ι1 H1 κ1 v x z s1 w1 e Q fun v' B' ι' H' g s' w' => h v' B' ι' H' (g1.trans g) s' w'
end
section
variable {X : Cx} {E : XK} {e : Expr} {es : List Expr} {ma : MA} {p pos : Pos} {x : Str} {id T : String} {r : List V → Hp → VK → Prop} {f : Kap → List DV → Option DV}
theorem je_callB (hc : CallR X (.builtin id) r) (hi : CalI X.K r f) (hg : Gl X x) (hm : X.mg x = none) (hv : bootBuiltins x = some (.builtin id)) (ha : JA X E (e :: es) ma) (hn : x ≠ "__name__" := by decide) (hdb : (x == ("__debug__" : Str)) = false := by decide)
    (he : starEach (e :: es) X.env = (false, eval e X.env) :: starEach es X.env := by rfl) (hpl : (backTo pos (starEach es X.env)).any (·.1) = false := by rfl) : JE X E (.Call (.Name x p) (e :: es) [] pos) (mCal f ma) :=
  pe_imp (pe_callB hc hg hm hv ha hn hdb he hpl) fun _ _ _ h => cal_imp hi h
theorem je_callTy (hc : CallR X (.type T) r) (hi : CalI X.K r f) (hg : Gl X x) (hm : X.mg x = none) (hv : bootBuiltins x = some (.type T)) (ha : JA X E (e :: es) ma) (hn : x ≠ "__name__" := by decide) (hdb : (x == ("__debug__" : Str)) = false := by decide)
    (he : starEach (e :: es) X.env = (false, eval e X.env) :: starEach es X.env := by rfl) (hpl : (backTo pos (starEach es X.env)).any (·.1) = false := by rfl) : JE X E (.Call (.Name x p) (e :: es) [] pos) (mCal f ma) :=
  pe_imp (pe_callTy hc hg hm hv ha hn hdb he hpl) fun _ _ _ h => cal_imp hi h
end
end DL

namespace DL
open L2 PyProof.Rows PySem PySem.Spec

/-! ### truth -/
def lv (κ : Kap) : DV → Option (List D)
  | .d (.list xs) => some xs
  | .n xs => some xs
  | .c i => match κ[i]? with
    | some (.lst ys) => allD ys
    | _ => none
  | _ => none
def truD (κ : Kap) : DV → Option Bool
  | .d .none => some false
  | .d (.bool b) => some b
  | .d (.int i) => some (i != 0)
  | .d (.str x) => if x.length ≤ 1000000 then some ((x.length : Int) != 0) else none
  | .d (.tuple xs) => some (!xs.isEmpty)
  | x => (lv κ x).map fun xs => !xs.isEmpty
def optT (κ : Kap) : Option Bool → Out Bool
  | some z => .ok z κ
  | none => .bad
def mTr (m : ME) : MT := fun ρ κ => (m ρ κ).bind fun x κ1 => optT κ1 (truD κ1 x)
def mTb (m : ME) : MT := fun ρ κ => (m ρ κ).bind fun x κ1 => match x with
  | .d (.bool b) => .ok b κ1
  | _ => .bad
def mNotT (m : MT) : MT := fun ρ κ => (m ρ κ).bind fun b κ1 => .ok (!b) κ1
def mAndT (m n : MT) : MT := fun ρ κ => (m ρ κ).bind fun b κ1 => if b = true then n ρ κ1 else .ok false κ1
def mOrT (m n : MT) : MT := fun ρ κ => (m ρ κ).bind fun b κ1 => if b = true then .ok true κ1 else n ρ κ1
def mAnd (a b : ME) : ME := fun ρ κ => (a ρ κ).bind fun x κ1 => match truD κ1 x with
  | some true => b ρ κ1
  | some false => .ok x κ1
  | none => .bad
def mOr (a b : ME) : ME := fun ρ κ => (a ρ κ).bind fun x κ1 => match truD κ1 x with
  | some true => .ok x κ1
  | some false => b ρ κ1
  | none => .bad
def mNot (a : ME) : ME := fun ρ κ => (a ρ κ).bind fun x κ1 => match truD κ1 x with
  | some b => .ok (.d (.bool (!b))) κ1
  | none => .bad
def mIfE (c : MT) (a b : ME) : ME := fun ρ κ => (c ρ κ).bind fun t κ1 => if t = true then a ρ κ1 else b ρ κ1
section
variable {K : PySem.W.Frag} {mg : Str → Option Value} {E : XK} {F : List Addr} {B : Hp} {ι : List Addr} {σ : L2.St} {H : Hp} {κ : Kap} {v : V} {x : DV}
theorem lst1 {a : Addr} {xs : List V} (h : H a = some (.lst xs)) : SqL K H a xs := .inl (.inl h)
/-- a list's value, whatever it stands as -/
theorem lv_ok (s : HSt K F B ι H κ) (w : VOk K F B ι H v x) {xs : List D} (e : lv κ x = some xs) : ∃ a vs, v = .ref a ∧ H a = some (.lst vs) ∧ RpAll K B vs xs := by
  cases x with
  | d x =>
    cases x with
    | list ys =>
      simp only [lv, Option.some.injEq] at e
      subst e
      cases w with
      | lst h r => exact ⟨_, _, rfl, s.ex _ _ h, r⟩
    | _ => simp [lv] at e
  | c i =>
    obtain ⟨a, h1, rfl⟩ := w
    simp only [lv] at e
    cases q : κ[i]? with
    | none => rw [q] at e; simp at e
    | some cl =>
      rw [q] at e
      cases cl with
      | lst ys =>
        obtain ⟨vs, h2, h3⟩ := s.cel i a _ h1 q
        exact ⟨a, vs, rfl, h2, allD_ok h3 e⟩
      | _ => simp at e
  | n ys =>
    simp only [lv, Option.some.injEq] at e
    subst e
    obtain ⟨p, vs, rfl, h1, _, _, _, r⟩ := w
    exact ⟨p, vs, rfl, h1, r⟩
theorem tup_ok (s : HSt K F B ι H κ) {xs : List D} (w : Rp K B v (.tuple xs)) : ∃ a vs, v = .ref a ∧ SqT K H a vs ∧ RpAll K B vs xs := by
  cases w with
  | tup h r => exact ⟨_, _, rfl, same_t s.ex h, r⟩
theorem isE {vs : List V} {xs : List D} (r : RpAll K B vs xs) : vs.isEmpty = xs.isEmpty := by
  cases r <;> rfl
theorem isEkv {vs : List (Key × V)} {xs : List (D × D)} (r : RpKV K B vs xs) : vs.isEmpty = xs.isEmpty := by
  cases r <;> rfl
theorem truD_ok (s : HSt K F B ι H κ) (w : VOk K F B ι H v x) {b : Bool} (e : truD κ x = some b) : TruV K v H b := by
  have list : ∀ {xs : List D}, lv κ x = some xs → b = !xs.isEmpty → TruV K v H b := fun {xs} e1 e2 => by
    obtain ⟨a, vs, rfl, h, r⟩ := lv_ok s w e1
    exact .inl ⟨vs, lst1 h, by rw [e2, isE r]⟩
  cases x with
  | d x =>
    cases x with
    | none => simp only [truD, Option.some.injEq] at e; subst e; cases w; rfl
    | bool k => simp only [truD, Option.some.injEq] at e; subst e; cases w; rfl
    | int i => simp only [truD, Option.some.injEq] at e; subst e; cases w; rfl
    | str x =>
      simp only [truD] at e
      split at e
      · rename_i hl
        cases w
        simp only [Option.some.injEq] at e
        exact ⟨Nat.le_trans hl (by decide), e.symm⟩
      · cases e
    | list xs => simp only [truD, lv, Option.map_some, Option.some.injEq] at e; exact list rfl e.symm
    | tuple xs =>
      simp only [truD, Option.some.injEq] at e
      obtain ⟨a, vs, rfl, h, r⟩ := tup_ok s w
      exact .inr (.inl ⟨vs, h, by rw [← e, isE r]⟩)
    | dict kvs => simp [truD, lv] at e
  | c i =>
    simp only [truD] at e
    cases q : lv κ (.c i) with
    | none => rw [q] at e; cases e
    | some xs => rw [q] at e; simp only [Option.map_some, Option.some.injEq] at e; exact list q e.symm
  | n xs => simp only [truD, lv, Option.map_some, Option.some.injEq] at e; exact list rfl e.symm
theorem tr_imp {m : ME} {Q : Bool → Hp → Prop} (h : tT K mg E (mTr m) σ H Q) : tM K mg E m σ H fun x H' => ∃ k, TruV K x H' k ∧ Q k H' := by
  obtain ⟨F, B, ι, ρ, κ, s, h⟩ := h
  unfold mTr at h
  refine evE s (fun x κ1 e1 v B1 ι1 H1 g1 s1 w1 => ?_) (fun n fs κ1 e1 => by rw [e1] at h; exact h) (fun e => by rw [e] at h; exact h)
  rw [e1] at h
  have h : PostT K mg E F B ι H Q (optT κ1 (truD κ1 x)) := h
  cases e : truD κ1 x with
  | none => rw [e] at h; exact h.elim
  | some b => rw [e] at h; exact ⟨b, truD_ok s1 w1 e, h B1 ι1 H1 g1 s1⟩
theorem tb_imp {m : ME} {Q : Bool → Hp → Prop} (h : tT K mg E (mTb m) σ H Q) : tM K mg E m σ H fun x H' => ∃ k, x = .bl k ∧ Q k H' := by
  obtain ⟨F, B, ι, ρ, κ, s, h⟩ := h
  unfold mTb at h
  refine evE s (fun x κ1 e1 v B1 ι1 H1 g1 s1 w1 => ?_) (fun n fs κ1 e1 => by rw [e1] at h; exact h) (fun e => by rw [e] at h; exact h)
  rw [e1] at h
  dsimp only [Out.bind] at h
  split at h
  · rename_i b
    cases w1
    exact ⟨b, rfl, h B1 ι1 H1 g1 s1⟩
  · exact h.elim
end
section
variable {X : Cx} {E : XK} {a b : Expr} {rest : List Expr} {ma mb : ME} {mt mu : MT} {pos : Pos}
theorem jt_cmp {op : CmpOp} {r : R2} {f : Kap → DV → DV → Option DV} (ho : OpR X (compareOp op) r) (hi : BinI X.K r f) (ha : JE X E a ma) (hb : JE X E b mb) (hm : behindInMarks op b = false := by with_unfolding_all rfl) : JT X E (.Compare a [op] [b] pos) (mTb (mBin f ma mb)) :=
  pt_imp (pt_cmpR ho ha hb hm) fun _ _ _ h => bin_imp hi (tb_imp h)
theorem jt_val (ha : JE X E a ma) (he : ∀ whole, isTrue a X.env whole = (do let v ← whole; standAt a.pos; holding [v] (truthy v)) := by intro _; rfl) : JT X E a (mTr ma) :=
  pt_imp (pt_truth ha he) fun _ _ _ h => tr_imp h
theorem jt_not (ha : JT X E a mt) : JT X E (.UnaryOp .Not a pos) (mNotT mt) :=
  pt_imp (pt_not ha) fun σ H Q ⟨F, B, ι, ρ, κ, s, h⟩ => by
    unfold mNotT at h
    refine evT s (fun x κ1 e1 B1 ι1 H1 g1 s1 => ?_) (fun n fs κ1 e1 => by rw [e1] at h; exact h) (fun e => by rw [e] at h; exact h)
    rw [e1] at h
    exact h B1 ι1 H1 g1 s1
theorem jw_and1 (ha : JT X E a mt) : JW X E (.BoolOp .And [a] pos) mt := pw_and1 ha
theorem jw_or1 (ha : JT X E a mt) : JW X E (.BoolOp .Or [a] pos) mt := pw_or1 ha
theorem jw_and (ha : JT X E a mt) (hb : JW X E (.BoolOp .And (b :: rest) pos) mu) : JW X E (.BoolOp .And (a :: b :: rest) pos) (mAndT mt mu) :=
  pw_imp (pw_and ha hb) fun σ H Q ⟨F, B, ι, ρ, κ, s, h⟩ => by
    unfold mAndT at h
    refine evT s (fun x κ1 e1 B1 ι1 H1 g1 s1 => ?_) (fun n fs κ1 e1 => by rw [e1] at h; exact h) (fun e => by rw [e] at h; exact h)
    rw [e1] at h
    cases x with
    | true => exact ⟨F, B1, ι1, ρ, κ1, s.step g1 s1, PostT.grow h g1⟩
    | false => exact h B1 ι1 H1 g1 s1
theorem jw_or (ha : JT X E a mt) (hb : JW X E (.BoolOp .Or (b :: rest) pos) mu) : JW X E (.BoolOp .Or (a :: b :: rest) pos) (mOrT mt mu) :=
  pw_imp (pw_or ha hb) fun σ H Q ⟨F, B, ι, ρ, κ, s, h⟩ => by
    unfold mOrT at h
    refine evT s (fun x κ1 e1 B1 ι1 H1 g1 s1 => ?_) (fun n fs κ1 e1 => by rw [e1] at h; exact h) (fun e => by rw [e] at h; exact h)
    rw [e1] at h
    cases x with
    | false => exact ⟨F, B1, ι1, ρ, κ1, s.step g1 s1, PostT.grow h g1⟩
    | true => exact h B1 ι1 H1 g1 s1
theorem jt_w (h : JW X E a mt) : JT X E a mt := PW.pt h
theorem je_one {op : BoolOp} (h : JE X E a ma) : JE X E (.BoolOp op [a] pos) ma := pe_one h
theorem je_and (ha : JE X E a ma) (hb : JE X E (.BoolOp .And (b :: rest) pos) mb) : JE X E (.BoolOp .And (a :: b :: rest) pos) (mAnd ma mb) :=
  pe_imp (pe_andT ha hb) fun σ H Q ⟨F, B, ι, ρ, κ, s, h⟩ => by
    unfold mAnd at h
    refine evE s (fun x κ1 e1 v B1 ι1 H1 g1 s1 w1 => ?_) (fun n fs κ1 e1 => by rw [e1] at h; exact h) (fun e => by rw [e] at h; exact h)
    rw [e1] at h
    dsimp only [Out.bind] at h
    split at h
    · rename_i e; exact ⟨true, truD_ok s1 w1 e, by rw [if_pos rfl]; exact ⟨F, B1, ι1, ρ, κ1, s.step g1 s1, PostE.grow h g1⟩⟩
    · rename_i e; exact ⟨false, truD_ok s1 w1 e, by rw [if_neg Bool.false_ne_true]; exact h v B1 ι1 H1 g1 s1 w1⟩
    · exact h.elim
theorem je_or (ha : JE X E a ma) (hb : JE X E (.BoolOp .Or (b :: rest) pos) mb) : JE X E (.BoolOp .Or (a :: b :: rest) pos) (mOr ma mb) :=
  pe_imp (pe_orT ha hb) fun σ H Q ⟨F, B, ι, ρ, κ, s, h⟩ => by
    unfold mOr at h
    refine evE s (fun x κ1 e1 v B1 ι1 H1 g1 s1 w1 => ?_) (fun n fs κ1 e1 => by rw [e1] at h; exact h) (fun e => by rw [e] at h; exact h)
    rw [e1] at h
    dsimp only [Out.bind] at h
    split at h
    · rename_i e; exact ⟨true, truD_ok s1 w1 e, by rw [if_pos rfl]; exact h v B1 ι1 H1 g1 s1 w1⟩
    · rename_i e; exact ⟨false, truD_ok s1 w1 e, by rw [if_neg Bool.false_ne_true]; exact ⟨F, B1, ι1, ρ, κ1, s.step g1 s1, PostE.grow h g1⟩⟩
    · exact h.elim
theorem je_not (ha : JE X E a ma) : JE X E (.UnaryOp .Not a pos) (mNot ma) :=
  pe_imp (pe_notT ha) fun σ H Q ⟨F, B, ι, ρ, κ, s, h⟩ => by
    unfold mNot at h
    refine evE s (fun x κ1 e1 v B1 ι1 H1 g1 s1 w1 => ?_) (fun n fs κ1 e1 => by rw [e1] at h; exact h) (fun e => by rw [e] at h; exact h)
    rw [e1] at h
    dsimp only [Out.bind] at h
    split at h
    · rename_i b e; exact ⟨b, truD_ok s1 w1 e, h _ B1 ι1 H1 g1 s1 (.bl _)⟩
    · exact h.elim
theorem je_if {c : Expr} (hc : JT X E c mt) (ha : JE X E a ma) (hb : JE X E b mb) : JE X E (.IfExp c a b pos) (mIfE mt ma mb) :=
  pe_imp (pe_ifExp hc ha hb) fun σ H Q ⟨F, B, ι, ρ, κ, s, h⟩ => by
    unfold mIfE at h
    refine evT s (fun x κ1 e1 B1 ι1 H1 g1 s1 => ?_) (fun n fs κ1 e1 => by rw [e1] at h; exact h) (fun e => by rw [e] at h; exact h)
    rw [e1] at h
    cases x with
    | true => exact ⟨F, B1, ι1, ρ, κ1, s.step g1 s1, PostE.grow h g1⟩
    | false => exact ⟨F, B1, ι1, ρ, κ1, s.step g1 s1, PostE.grow h g1⟩
end

/-! ### statements -/
def mNext : MS := fun ρ κ => .nx ρ κ
def mSeq (a b : MS) : MS := fun ρ κ => match a ρ κ with
  | .nx ρ1 κ1 => b ρ1 κ1
  | o => o
def mBrk : MS := fun ρ κ => .bk ρ κ
def mCnt : MS := fun ρ κ => .ct ρ κ
def mDrop (m : ME) : MS := fun ρ κ => (m ρ κ).bindS fun _ κ1 => .nx ρ κ1
def mRet (m : ME) : MS := fun ρ κ => (m ρ κ).bindS fun x κ1 => .rt x κ1
def mRetN : MS := fun _ κ => .rt (.d .none) κ
def mIf (c : MT) (a b : MS) : MS := fun ρ κ => (c ρ κ).bindS fun t κ1 => if t = true then a ρ κ1 else b ρ κ1
def mSet (i : Nat) (m : ME) : MS := fun ρ κ => (m ρ κ).bindS fun x κ1 => .nx (ρ.set i (some (fz x))) κ1
/-- a new list becomes a cell -/
def mSetC (i : Nat) (m : ME) : MS := fun ρ κ => (m ρ κ).bindS fun x κ1 => match x with
  | .n xs => .nx (ρ.set i (some (.c κ1.length))) (κ1 ++ [.lst (xs.map .d)])
  | _ => .bad
section
variable {K : PySem.W.Frag} {mg : Str → Option Value} {E : XK} {F : List Addr} {B B1 : Hp} {ι ι1 : List Addr} {σ : L2.St} {H H1 : Hp} {ρ : Rho} {κ κ1 : Kap} {v : V} {x : DV}
theorem SOk.set (s : SOk K F B ι σ H ρ κ) (i : Nat) (w : WOk K B ι v x) : SOk K F B ι (σ.set i (some v)) H (ρ.set i (some x)) κ :=
  ⟨s.hs, by rw [List.length_set, List.length_set]; exact s.sl, fun j y e => by
    by_cases q : i = j
    · subst q
      by_cases hl : i < ρ.length
      · rw [List.getElem?_set_self hl] at e
        cases e
        exact ⟨v, by rw [List.getElem?_set_self (by rw [s.sl]; exact hl)], w⟩
      · rw [List.getElem?_eq_none (by rw [List.length_set]; omega)] at e; cases e
    · rw [List.getElem?_set_ne q] at e
      obtain ⟨u, e1, w1⟩ := s.loc j y e
      exact ⟨u, by rw [List.getElem?_set_ne q]; exact e1, w1⟩⟩
theorem cells_of : ∀ {vs : List V} {xs : List D}, RpAll K B vs xs → Paired (WOk K B ι) vs (xs.map .d)
  | _, _, .nil => .nil
  | _, _, .cons h r => .cons h (cells_of r)
/-- a new list becomes a cell -/
theorem HSt.cell (s : HSt K F B ι H κ) {p : Addr} {vs : List V} {xs : List D} (h1 : H p = some (.lst vs)) (h2 : B p = none) (h3 : p ∉ ι) (h4 : p ∉ F) (r : RpAll K B vs xs) :
    HSt K F B (ι ++ [p]) H (κ ++ [.lst (xs.map .d)]) ∧ Grow F B ι H B (ι ++ [p]) H ∧ WOk K B (ι ++ [p]) (.ref p) (.c κ.length) := by
  have i : ∀ (j : Nat) (a : Addr), ι[j]? = some a → (ι ++ [p])[j]? = some a := fun j a e => by
    rw [List.getElem?_append_left (List.getElem?_eq_some_iff.mp e).1]; exact e
  have last : (ι ++ [p])[κ.length]? = some p := by
    rw [← s.len, List.getElem?_append_right (Nat.le_refl _), Nat.sub_self]; rfl
  refine ⟨⟨s.ex, by rw [List.length_append, List.length_append, s.len]; rfl, ?_, fun j a m l => ?_, fun a m => ?_, fun j a cl e1 e2 => ?_, fun a m => ?_, fun q m => let t := s.tb q m; t.to (Same.refl _) rfl t.2.1 (fun z => (List.mem_append.mp z).elim t.2.2.1 fun z => t.ne h1 (by intro _ z; cases z) (List.mem_singleton.mp z)) t.2.2.2⟩, ⟨Same.refl _, i, fun _ _ => rfl⟩, ⟨p, last, rfl⟩⟩
  · rw [List.nodup_append]
    refine ⟨s.nd, by simp, fun a ha b hb e => ?_⟩
    rw [List.mem_singleton] at hb
    exact h3 (by rw [← hb, ← e]; exact ha)
  · by_cases hj : j < κ.length
    · rw [List.getElem?_append_left (by rw [s.len]; exact hj)] at m
      rw [List.getElem?_append_left hj] at l
      exact s.out j a m l
    · have hj2 := (List.getElem?_eq_some_iff.mp m).1
      rw [List.length_append, s.len] at hj2
      have hj2 : j < κ.length + 1 := hj2
      have ej : j = κ.length := by omega
      subst ej
      rw [last] at m
      cases m
      exact h2
  · obtain ⟨a1, a2, a3⟩ := s.pro a m
    refine ⟨a1, a2, fun z => ?_⟩
    rcases List.mem_append.mp z with z | z
    · exact a3 z
    · rw [List.mem_singleton] at z; exact h4 (z ▸ m)
  · by_cases hj : j < κ.length
    · rw [List.getElem?_append_left (by rw [s.len]; exact hj)] at e1
      rw [List.getElem?_append_left hj] at e2
      exact (s.cel j a cl e1 e2).mono (Same.refl _) i rfl
    · have hj2 := (List.getElem?_eq_some_iff.mp e2).1
      rw [List.length_append] at hj2
      have hj2 : j < κ.length + 1 := hj2
      have ej : j = κ.length := by omega
      subst ej
      rw [last] at e1
      rw [List.getElem?_append_right (Nat.le_refl _), Nat.sub_self] at e2
      cases e1
      cases e2
      exact ⟨vs, h1, cells_of r⟩
  · rcases List.mem_append.mp m with m | m
    · exact s.tr a m
    · rw [List.mem_singleton] at m; rw [m]; exact ⟨_, h1⟩
end
section
variable {X : Cx} {E : XK} {st : Stmt} {rest : List Stmt} {e c : Expr} {m : ME} {mt : MT} {ms mr : MS} {pos : Pos}
theorem jss_nil : JSs X E [] mNext := pss_imp pss_nil fun D σ H ⟨F, B, ι, ρ, κ, s, h⟩ => h σ B ι H Grow.refl s
theorem jss_one (h : JS X E st ms) : JSs X E [st] ms := pss_one h
theorem jss_cons (h1 : JS X E st ms) (h2 : JSs X E rest mr) : JSs X E (st :: rest) (mSeq ms mr) :=
  pss_imp (pss_cons h1 h2) fun De σ H ⟨F, B, ι, ρ, κ, s, h⟩ => by
    unfold mSeq at h
    refine evS s (fun ρ1 κ1 e1 σ' B1 ι1 H1 g1 s1 => ?_) (fun ne => ?_)
    · rw [e1] at h
      exact ⟨F, B1, ι1, ρ1, κ1, s1, PostS.grow h g1⟩
    · cases q : ms ρ κ with
      | nx ρ1 κ1 => exact absurd q (ne ρ1 κ1)
      | _ => rw [q] at h; exact h
theorem js_pass : JS X E (.Pass pos) mNext := ps_imp ps_pass fun D σ H ⟨F, B, ι, ρ, κ, s, h⟩ => h σ B ι H Grow.refl s
theorem js_brk : JS X E (.Break pos) mBrk := ps_imp ps_break fun D σ H ⟨F, B, ι, ρ, κ, s, h⟩ => h σ B ι H Grow.refl s
theorem js_cnt : JS X E (.Continue pos) mCnt := ps_imp ps_continue fun D σ H ⟨F, B, ι, ρ, κ, s, h⟩ => h σ B ι H Grow.refl s
theorem js_retN : JS X E (.Return none pos) mRetN := ps_imp ps_retN fun D σ H ⟨F, B, ι, ρ, κ, s, h⟩ => h .non B ι H Grow.refl s.hs .non
theorem js_ret (he : JE X E e m) : JS X E (.Return (some e) pos) (mRet m) :=
  ps_imp (ps_ret he) fun De σ H ⟨F, B, ι, ρ, κ, s, h⟩ => by
    unfold mRet at h
    exact evE s (fun x κ1 e1 v B1 ι1 H1 g1 s1 w1 => by rw [e1] at h; exact h v B1 ι1 H1 g1 s1 w1) (fun n fs κ1 e1 => by rw [e1] at h; exact h) (fun e => by rw [e] at h; exact h)
theorem js_expr (he : JE X E e m) (hs : swapsWith e none pos.line X.env = pure false := by rfl) : JS X E (.Expr e pos) (mDrop m) :=
  ps_imp (ps_expr he hs) fun De σ H ⟨F, B, ι, ρ, κ, s, h⟩ => by
    unfold mDrop at h
    exact evE s (fun x κ1 e1 v B1 ι1 H1 g1 s1 w1 => by rw [e1] at h; exact h σ B1 ι1 H1 g1 (s.step g1 s1)) (fun n fs κ1 e1 => by rw [e1] at h; exact h) (fun e => by rw [e] at h; exact h)
theorem js_if {a b : List Stmt} (hc : JT X E c mt) (ha : JSs X E a ms) (hb : JSs X E b mr) : JS X E (.If c a b pos) (mIf mt ms mr) :=
  ps_imp (ps_if hc ha hb) fun De σ H ⟨F, B, ι, ρ, κ, s, h⟩ => by
    unfold mIf at h
    refine evT s (fun x κ1 e1 B1 ι1 H1 g1 s1 => ?_) (fun n fs κ1 e1 => by rw [e1] at h; exact h) (fun e => by rw [e] at h; exact h)
    rw [e1] at h
    cases x with
    | true => exact ⟨F, B1, ι1, ρ, κ1, s.step g1 s1, PostS.grow h g1⟩
    | false => exact ⟨F, B1, ι1, ρ, κ1, s.step g1 s1, PostS.grow h g1⟩
theorem set_imp {K : PySem.W.Frag} {mg : Str → Option Value} {i : Nat} {De : Ends} {σ : L2.St} {H : Hp} (h : tS K mg E (mSet i m) De σ H) : tAsg (tM K mg E m) (gName i) De σ H := by
  obtain ⟨F, B, ι, ρ, κ, s, h⟩ := h
  unfold mSet at h
  refine evE s (fun x κ1 e1 v B1 ι1 H1 g1 s1 w1 => ?_) (fun n fs κ1 e1 => by rw [e1] at h; exact h) (fun e => by rw [e] at h; exact h)
  rw [e1] at h
  obtain ⟨B1', s1', g1', w1'⟩ := s1.fz w1
  exact h _ B1' ι1 H1 (g1.trans g1') ((s.step (g1.trans g1') s1').set i w1')
theorem setC_imp {K : PySem.W.Frag} {mg : Str → Option Value} {i : Nat} {De : Ends} {σ : L2.St} {H : Hp} (h : tS K mg E (mSetC i m) De σ H) : tAsg (tM K mg E m) (gName i) De σ H := by
  obtain ⟨F, B, ι, ρ, κ, s, h⟩ := h
  unfold mSetC at h
  refine evE s (fun x κ1 e1 v B1 ι1 H1 g1 s1 w1 => ?_) (fun n fs κ1 e1 => by rw [e1] at h; exact h) (fun e => by rw [e] at h; exact h)
  rw [e1] at h
  dsimp only [Out.bindS] at h
  split at h
  · rename_i xs
    obtain ⟨p, vs, rfl, h1, h2, h3, h4, r⟩ := w1
    obtain ⟨s2, g2, w2⟩ := s1.cell h1 h2 h3 h4 r
    exact h _ B1 _ H1 (g1.trans g2) ((s.step (g1.trans g2) s2).set i w2)
  · exact h.elim
theorem js_set {i : Nat} {x : Str} {pos' : Pos} (hN : X.N.Nodup) (hi : X.N[i]? = some x) (hx : Loc X.env.scope x) (he : JE X E e m) (hs : swapsWith e (some (.Name x pos')) pos.line X.env = pure false := by rfl) (hf : X.fn x = true ∨ X.env.scope.names.lookup x = some .local := by first | exact .inl rfl | exact .inr rfl | assumption) :
    JS X E (.Assign [.Name x pos'] e pos) (mSet i m) := ps_imp (ps_set hN hi hx he hs hf) fun _ _ _ h => set_imp h
theorem js_setC {i : Nat} {x : Str} {pos' : Pos} (hN : X.N.Nodup) (hi : X.N[i]? = some x) (hx : Loc X.env.scope x) (he : JE X E e m) (hs : swapsWith e (some (.Name x pos')) pos.line X.env = pure false := by rfl) (hf : X.fn x = true ∨ X.env.scope.names.lookup x = some .local := by first | exact .inl rfl | exact .inr rfl | assumption) :
    JS X E (.Assign [.Name x pos'] e pos) (mSetC i m) := ps_imp (ps_set hN hi hx he hs hf) fun _ _ _ h => setC_imp h
end

/-! ### defs -/
def DV.below (n : Nat) : DV → Bool
  | .c i => decide (i < n)
  | _ => true
def Cell.below (n : Nat) : Cell → Bool
  | .dead => true
  | .lst xs => xs.all (DV.below n)
  | .dic kvs => kvs.all fun p => p.2.below n
/-- behind a def: its own cells are gone -/
def fin (n : Nat) : OutS → Out DV
  | .nx _ κ => if (κ.take n).all (Cell.below n) = true then .ok (.d .none) (κ.take n) else .bad
  | .rt x κ => if (κ.take n).all (Cell.below n) = true then (match x with
    | .c i => if i < n then .ok (.c i) (κ.take n) else (match lv κ (.c i) with
      | some xs => .ok (.n xs) (κ.take n)
      | none => .bad)
    | x => .ok x (κ.take n)) else .bad
  | .ex m fs κ => if (κ.take n).all (Cell.below n) = true then .ex m fs (κ.take n) else .bad
  | _ => .bad
def rho0 (nl : Nat) (xs : List DV) : Rho := xs.map some ++ List.replicate (nl - xs.length) none
def mDef (np nl : Nat) (b : MS) : MF := fun xs κ => if xs.length = np then fin κ.length (b (rho0 nl xs) κ) else .bad
def spM (K : PySem.W.Frag) (mg : Str → Option Value) (np : Nat) (m : MF) : Sp := fun vs H Q _ => vs.length = np ∧ ∃ F B ι xs κ, HSt K F B ι H κ ∧ Paired (WOk K B ι) vs xs ∧ PostE K mg E0 F B ι H Q (m xs κ)
def spX (K : PySem.W.Frag) (mg : Str → Option Value) (np : Nat) (m : MF) : Sp := fun vs H Q E => vs.length = np ∧ ∃ F B ι xs κ, HSt K F B ι H κ ∧ Paired (WOk K B ι) vs xs ∧ PostE K mg E F B ι H Q (m xs κ)
section
variable {K : PySem.W.Frag} {mg : Str → Option Value} {E : XK} {F : List Addr} {B : Hp} {ι : List Addr} {σ : L2.St} {H : Hp} {ρ : Rho} {κ : Kap}
theorem WOk.take {n : Nat} : ∀ {v : V} {x : DV}, WOk K B ι v x → x.below n = true → WOk K B (ι.take n) v x
  | _, .d _, h, _ => h
  | _, .c i, ⟨a, h, e⟩, b => ⟨a, by rw [List.getElem?_take, if_pos (of_decide_eq_true b)]; exact h, e⟩
  | _, .n _, h, _ => h
theorem takeL {n : Nat} : ∀ {vs : List V} {xs : List DV}, Paired (WOk K B ι) vs xs → xs.all (DV.below n) = true → Paired (WOk K B (ι.take n)) vs xs
  | _, _, .nil, _ => .nil
  | _, _, .cons w r, hb => by
    rw [List.all_cons, Bool.and_eq_true] at hb
    exact .cons (w.take hb.1) (takeL r hb.2)
theorem takeD {n : Nat} : ∀ {vs : List (Key × V)} {xs : List (Key × DV)}, Paired (fun (p : Key × V) (q : Key × DV) => p.1 = q.1 ∧ WOk K B ι p.2 q.2) vs xs → (xs.all fun p => p.2.below n) = true →
    Paired (fun (p : Key × V) (q : Key × DV) => p.1 = q.1 ∧ WOk K B (ι.take n) p.2 q.2) vs xs
  | _, _, .nil, _ => .nil
  | _, _, .cons w r, hb => by
    rw [List.all_cons, Bool.and_eq_true] at hb
    exact .cons ⟨w.1, w.2.take hb.1⟩ (takeD r hb.2)
theorem HSt.take {n : Nat} (s : HSt K F B ι H κ) (b : (κ.take n).all (Cell.below n) = true) : HSt K F B (ι.take n) H (κ.take n) := by
  refine ⟨s.ex, by rw [List.length_take, List.length_take, s.len], s.nd.sublist (List.take_sublist _ _), fun i a m l => ?_, fun a m => ?_, fun i a cl e1 e2 => ?_, fun a m => s.tr a (List.mem_of_mem_take m), fun q m => let t := s.tb q m; t.to (Same.refl _) rfl t.2.1 (fun z => t.2.2.1 (List.mem_of_mem_take z)) t.2.2.2⟩
  · rw [List.getElem?_take] at m l
    split at m
    · rename_i hl
      rw [if_pos hl] at l
      exact s.out i a m l
    · cases m
  · obtain ⟨h1, h2, h3⟩ := s.pro a m
    exact ⟨h1, h2, fun z => h3 (List.mem_of_mem_take z)⟩
  · have hb := List.all_eq_true.mp b cl (List.mem_of_getElem? e2)
    rw [List.getElem?_take] at e1 e2
    split at e1
    · rename_i hl
      rw [if_pos hl] at e2
      have c := s.cel i a cl e1 e2
      cases cl with
      | dead => exact True.intro
      | lst xs =>
        obtain ⟨vs, h1, h2⟩ := c
        exact ⟨vs, h1, takeL h2 hb⟩
      | dic kvs =>
        obtain ⟨vs, h1, h2⟩ := c
        exact ⟨vs, h1, takeD h2 hb⟩
    · cases e1
theorem Grow.take {B' H' : Hp} {ι' : List Addr} (g : Grow F B ι H B' ι' H') : Grow F B ι H B' (ι'.take ι.length) H' :=
  ⟨g.b, fun j a e => by rw [List.getElem?_take, if_pos (List.getElem?_eq_some_iff.mp e).1]; exact g.i j a e, g.fr⟩
theorem Paired.getP {α β : Type} {R : α → β → Prop} : ∀ {l₁ : List α} {l₂ : List β} {i : Nat} {b : β}, Paired R l₁ l₂ → l₂[i]? = some b → ∃ a, l₁[i]? = some a ∧ R a b
  | _, _, _, _, .nil, e => by simp at e
  | _, _, 0, _, .cons h _, e => by simp at e; subst e; exact ⟨_, rfl, h⟩
  | _, _, i + 1, d, .cons _ r, e => by
    obtain ⟨v, h1, h2⟩ := Paired.getP (i := i) (b := d) r (by simpa using e)
    exact ⟨v, by simpa using h1, h2⟩
theorem start_ok {N : List Str} {vs : List V} {xs : List DV} (s : HSt K F B ι H κ) (p : Paired (WOk K B ι) vs xs) : SOk K F B ι (L2.start N vs) H (rho0 N.length xs) κ := by
  have hl := p.length
  refine ⟨s, ?_, fun i x e => ?_⟩
  · show (vs.map some ++ List.replicate (N.length - vs.length) none).length = (xs.map some ++ List.replicate (N.length - xs.length) none).length
    rw [List.length_append, List.length_append, List.length_map, List.length_map, List.length_replicate, List.length_replicate, hl]
  · unfold rho0 at e
    by_cases hi : i < xs.length
    · rw [List.getElem?_append_left (by rw [List.length_map]; exact hi), List.getElem?_map] at e
      cases q : xs[i]? with
      | none => rw [q] at e; simp at e
      | some y =>
        rw [q] at e
        simp only [Option.map_some, Option.some.injEq] at e
        subst e
        obtain ⟨v, e1, w⟩ := Paired.getP p q
        refine ⟨v, ?_, w⟩
        unfold L2.start
        rw [List.getElem?_append_left (by rw [List.length_map, hl]; exact hi), List.getElem?_map, e1]
        rfl
    · rw [List.getElem?_append_right (by rw [List.length_map]; omega)] at e
      have := List.mem_of_getElem? e
      rw [List.mem_replicate] at this
      cases this.2
theorem fin_ok {mb : MS} {N : List Str} {Q : VK} {vs : List V} {xs : List DV} (s : HSt K F B ι H κ) (p : Paired (WOk K B ι) vs xs) (h : PostE K mg E F B ι H Q (fin κ.length (mb (rho0 N.length xs) κ))) :
    tS K mg E mb { nx := fun _ H' => Q .non H', rt := Q } (L2.start N vs) H := by
  refine ⟨F, B, ι, rho0 N.length xs, κ, start_ok s p, ?_⟩
  have hk := s.len
  cases q : mb (rho0 N.length xs) κ with
  | nx ρ' κ' =>
    rw [q] at h
    intro σ' B' ι' H' g s'
    dsimp only [fin] at h
    split at h
    · rename_i hb
      have g' := g.take
      rw [hk] at g'
      exact h .non B' _ H' g' (s'.hs.take hb) .non
    · exact h.elim
  | rt x κ' =>
    rw [q] at h
    intro v B' ι' H' g s' w
    dsimp only [fin] at h
    split at h
    · rename_i hb
      have g' := g.take
      rw [hk] at g'
      cases x with
      | d x => exact h v B' _ H' g' (s'.take hb) w
      | n ys =>
        obtain ⟨p, us, e, h1, h2, h3, h4, r⟩ := w
        exact h v B' _ H' g' (s'.take hb) ⟨p, us, e, h1, h2, fun z => h3 (List.mem_of_mem_take z), h4, r⟩
      | c i =>
        dsimp only at h
        obtain ⟨a, h1, h2⟩ := w
        split at h
        · rename_i hi
          exact h v B' _ H' g' (s'.take hb) ⟨a, by rw [List.getElem?_take, if_pos hi]; exact h1, h2⟩
        · rename_i hi
          split at h
          · rename_i ys e
            simp only [lv] at e
            cases q2 : κ'[i]? with
            | none => rw [q2] at e; simp at e
            | some cl =>
              rw [q2] at e
              cases cl with
              | lst zs =>
                obtain ⟨us, h5, h6⟩ := s'.cel i a _ h1 q2
                refine h v B' _ H' g' (s'.take hb) ⟨a, us, h2, h5, s'.out i a h1 (by rw [q2]; simp), fun z => ?_, fun z => (s'.pro a z).2.2 (List.mem_of_getElem? h1), allD_ok h6 e⟩
                obtain ⟨j, hj, ej⟩ := List.getElem_of_mem z
                have hj' : j < κ.length := by rw [List.length_take] at hj; omega
                have ej' : ι'[j]? = some a := by
                  have := List.getElem?_eq_getElem hj
                  rw [ej, List.getElem?_take, if_pos hj'] at this
                  exact this
                exact hi (by rw [show i = j from nd_ix s'.nd h1 ej']; exact hj')
              | _ => simp at e
          · exact h.elim
    · exact h.elim
  | ex n fs κ' =>
    rw [q] at h
    dsimp only [fin] at h
    split at h
    · rename_i hb
      intro C d B' ι' H' ws m g s' e r
      have g' := g.take
      rw [hk] at g'
      exact h C d B' _ H' ws m g' (s'.take hb) e r
    · exact h.elim
  | bk ρ' κ' => rw [q] at h; exact h.elim
  | ct ρ' κ' => rw [q] at h; exact h.elim
  | bad => rw [q] at h; exact h.elim
end
section
variable {P : Program} {w : World} {K : PySem.W.Frag} {mg : Str → Option Value} {base : Heap}
/-- a def by its body -/
theorem ok_def {x qual : Str} {st : Stmt} {f : Addr} {fd : FuncData} {N ps : List Str} {k : Nat} {mb : MS} (Fu : Fun K x qual st f fd) (S : FnScope N ps (defScope st))
    (hb : ∀ (cdv : Value) (A : Around) (outer : List Env) (s : Shared) (H : Hp) (E : XK), A.guards = some [] → Room k (A.deeper (envOfC qual (defScope st) s.heap.objs.size f cdv)) →
      JSs (cxOf CX0 P w K mg base N qual (defScope st) f cdv A outer s H E).nox E0 (defBody st) mb) : FnG P w K mg base CX0 (k + 1) f fd ps (spM K mg ps.length (mDef ps.length N.length mb)) := by
  refine fnG Fu S (fun vs H Q E h => h.1) (fun cdv A outer s H vs Q E gu hr h => ?_)
  obtain ⟨hl, F, B, ι, xs, κ, hs, p, h⟩ := h
  refine ⟨_, (hb cdv A outer s H E gu hr).nox, ?_⟩
  unfold mDef at h
  rw [if_pos (by rw [← p.length]; exact hl)] at h
  exact fin_ok hs p h
/-- .. that may raise -/
theorem okX_def {x qual : Str} {st : Stmt} {f : Addr} {fd : FuncData} {N ps : List Str} {k : Nat} {mb : MS} (Fu : Fun K x qual st f fd) (S : FnScope N ps (defScope st))
    (hb : ∀ (cdv : Value) (A : Around) (outer : List Env) (s : Shared) (H : Hp) (E : XK), A.guards = some [] → Room k (A.deeper (envOfC qual (defScope st) s.heap.objs.size f cdv)) →
      JSs (cxOf (L2.CX P w) P w K mg base N qual (defScope st) f cdv A outer s H E) E (defBody st) mb) : FnG P w K mg base (L2.CX P w) (k + 1) f fd ps (spX K mg ps.length (mDef ps.length N.length mb)) := by
  refine fnG Fu S (fun vs H Q E h => h.1) (fun cdv A outer s H vs Q E gu hr h => ?_)
  obtain ⟨hl, F, B, ι, xs, κ, hs, p, h⟩ := h
  refine ⟨_, hb cdv A outer s H E gu hr, ?_⟩
  unfold mDef at h
  rw [if_pos (by rw [← p.length]; exact hl)] at h
  exact fin_ok hs p h
end
/-! ### calls of defs -/
def mCall (m : MF) (a : MA) : ME := fun ρ κ => (a ρ κ).bind fun xs κ1 => m xs κ1
def NArgs (m : MF) (np : Nat) : Prop := ∀ xs κ, xs.length ≠ np → m xs κ = .bad
theorem nargs_def {np nl : Nat} {b : MS} : NArgs (mDef np nl b) np := fun xs κ h => by unfold mDef; rw [if_neg h]
section
variable {K : PySem.W.Frag} {mg : Str → Option Value} {E : XK}
theorem call_imp {m : MF} {np : Nat} (hn : NArgs m np) {ma : MA} {σ : L2.St} {H : Hp} {Q : VK} (h : tM K mg E0 (mCall m ma) σ H Q) : tCall (spM K mg np m) [] E (tA K mg E0 ma) σ H Q := by
  obtain ⟨F, B, ι, ρ, κ, s, h⟩ := h
  unfold mCall at h
  refine evA s (fun x κ1 e1 v B1 ι1 H1 g1 s1 w1 => ?_) (fun n fs κ1 e1 => by rw [e1] at h; exact h) (fun e => by rw [e] at h; exact h)
  rw [e1] at h
  have h : PostE K mg E0 F B ι H Q (m x κ1) := h
  have hl : x.length = np := Decidable.byContradiction fun q => by rw [hn x κ1 q] at h; exact h
  rw [List.append_nil]
  exact ⟨by rw [w1.length]; exact hl, F, B1, ι1, x, κ1, s1, w1, PostE.grow h g1⟩
end
section
variable {X : Cx} {k : Nat} {f : Addr} {fd : FuncData} {ps : List Str} {np : Nat} {m : MF} {x : Str} {p pos : Pos} {e : Expr} {es : List Expr} {ma : MA}
/-- f(e, ..), nothing raised -/
theorem je_call (gu : X.A.guards = some []) (Fo : FnG X.prog X.w X.K X.mg X.base CX0 k f fd ps (spM X.K X.mg np m)) (hn : NArgs m np) (hr : Room k X.A) (hg : Gl X x) (hm : X.mg x = some (.ref f)) (hk : PySem.W.keepIn X.K (.ref f) = true) (hb : Binds X.K fd ps [])
    (ha : JA X E0 (e :: es) ma) (hdb : (x == ("__debug__" : Str)) = false := by decide) (he : starEach (e :: es) X.env = (false, eval e X.env) :: starEach es X.env := by rfl) (hpl : (backTo pos (starEach es X.env)).any (·.1) = false := by rfl) :
    JE X E0 (.Call (.Name x p) (e :: es) [] pos) (mCall m ma) :=
  pe_imp (pe_callG Fo gu hr hg hm hk hb .nil pass0 ha hdb he hpl) fun _ _ _ h => call_imp (E := E0) hn h
theorem je_call0 (gu : X.A.guards = some []) (Fo : FnG X.prog X.w X.K X.mg X.base CX0 k f fd ps (spM X.K X.mg np m)) (hn : NArgs m np) (hr : Room k X.A) (hg : Gl X x) (hm : X.mg x = some (.ref f)) (hk : PySem.W.keepIn X.K (.ref f) = true) (hb : Binds X.K fd ps [])
    (hdb : (x == ("__debug__" : Str)) = false := by decide) : JE X E0 (.Call (.Name x p) [] [] pos) (mCall m mNil) :=
  pe_imp (pe_call0G Fo gu hr hg hm hk hb .nil pass0 hdb) fun σ H Q h => by
    obtain ⟨F, B, ι, ρ, κ, s, h⟩ := h
    have h : PostE X.K X.mg E0 F B ι H Q (m [] κ) := h
    have hl : ([] : List DV).length = np := Decidable.byContradiction fun q => by rw [hn [] κ q] at h; exact h
    exact ⟨hl, F, B, ι, [], κ, s.hs, .nil, h⟩
end
end DL

namespace DL
open L2 PyProof.Rows PySem PySem.Spec

/-! ### targets -/
abbrev MG := DV → Rho → Kap → Option (Rho × Kap)
/-- a target that may touch the slots ts -/
def tG (K : PySem.W.Frag) (g : MG) (ts : List Nat) : TG := fun v σ H Q => ∃ F B ι ρ κ x, SOk K F B ι σ H ρ κ ∧ WOk K B ι v x ∧ match g x ρ κ with
  | some (ρ', κ') => ∀ σ' B' ι' H', (σ'.length = σ.length ∧ ∀ i, i ∉ ts → σ'[i]? = σ[i]?) → Grow F B ι H B' ι' H' → SOk K F B' ι' σ' H' ρ' κ' → Q σ' H'
  | none => False
def tGs (K : PySem.W.Frag) (g : List DV → Rho → Kap → Option (Rho × Kap)) (ts : List Nat) : TGs := fun vs σ H Q => ∃ F B ι ρ κ xs, SOk K F B ι σ H ρ κ ∧ Paired (WOk K B ι) vs xs ∧ match g xs ρ κ with
  | some (ρ', κ') => ∀ σ' B' ι' H', (σ'.length = σ.length ∧ ∀ i, i ∉ ts → σ'[i]? = σ[i]?) → Grow F B ι H B' ι' H' → SOk K F B' ι' σ' H' ρ' κ' → Q σ' H'
  | none => False
abbrev JG (X : Cx) (t : Expr) (g : MG) (ts : List Nat) : Prop := PG X t (tG X.K g ts)
abbrev JGs (X : Cx) (t : List Expr) (g : List DV → Rho → Kap → Option (Rho × Kap)) (ts : List Nat) : Prop := PGs X t (tGs X.K g ts)
def bName (i : Nat) : MG := fun x ρ κ => some (ρ.set i (some x), κ)
def bNil : List DV → Rho → Kap → Option (Rho × Kap) := fun xs ρ κ => match xs with
  | [] => some (ρ, κ)
  | _ => none
def bCons (g : MG) (r : List DV → Rho → Kap → Option (Rho × Kap)) : List DV → Rho → Kap → Option (Rho × Kap) := fun xs ρ κ => match xs with
  | x :: ys => (g x ρ κ).bind fun p => r ys p.1 p.2
  | [] => none
def bTup (n : Nat) (r : List DV → Rho → Kap → Option (Rho × Kap)) : MG := fun x ρ κ => match x with
  | .d (.tuple ds) => if ds.length = n then r (ds.map .d) ρ κ else none
  | _ => none
theorem pg_imp {X : Cx} {e : Expr} {t t' : TG} (h : PG X e t) (i : ∀ v σ H Q, t' v σ H Q → t v σ H Q) : PG X e t' := ⟨fun pins s σ H v u Q I r q => h.run pins s σ H v u Q I r (i v σ H Q q)⟩
theorem pgs_imp {X : Cx} {e : List Expr} {t t' : TGs} (h : PGs X e t) (i : ∀ v σ H Q, t' v σ H Q → t v σ H Q) : PGs X e t' := ⟨fun pins s σ H v u Q I r q => h.run pins s σ H v u Q I r (i v σ H Q q)⟩
theorem ji_imp {X : Cx} {tg e : Expr} {t t' : TI} (h : PI X tg e t) (i : ∀ σ H R, t' σ H R → t σ H R) : PI X tg e t' := ⟨fun pins s σ H R I q => h.run pins s σ H R I (i σ H R q)⟩
section
variable {X : Cx} {pos : Pos}
theorem jg_name {i : Nat} {x : Str} (hN : X.N.Nodup) (hi : X.N[i]? = some x) (hx : Loc X.env.scope x) (hf : X.fn x = true ∨ X.env.scope.names.lookup x = some .local := by first | exact .inl rfl | exact .inr rfl | assumption) : JG X (.Name x pos) (bName i) [i] :=
  pg_imp (pg_name hN hi hx hf) fun v σ H Q ⟨F, B, ι, ρ, κ, x, s, w, h⟩ => h _ B ι H ⟨List.length_set .., fun j hj => by rw [List.getElem?_set_ne (fun e => hj (by rw [e]; exact List.mem_singleton.mpr rfl))]⟩ Grow.refl (s.set i w)
theorem jgs_nil : JGs X [] bNil [] := pgs_imp pgs_nil fun v σ H Q ⟨F, B, ι, ρ, κ, xs, s, w, h⟩ => by
  cases w with
  | nil => exact ⟨rfl, h σ B ι H ⟨rfl, fun _ _ => rfl⟩ Grow.refl s⟩
  | cons _ _ => exact h.elim
theorem jgs_cons {e : Expr} {es : List Expr} {g : MG} {r : List DV → Rho → Kap → Option (Rho × Kap)} {ts us : List Nat} (h1 : JG X e g ts) (h2 : JGs X es r us)
    (hs : (assignEach (e :: es) X.env).map (·.2) = assign e X.env :: (assignEach es X.env).map (·.2) := by rfl) : JGs X (e :: es) (bCons g r) (ts ++ us) :=
  pgs_imp (pgs_cons h1 h2 hs) fun v σ H Q ⟨F, B, ι, ρ, κ, xs, s, w, h⟩ => by
    cases w with
    | nil => exact h.elim
    | @cons v x vs ys w1 w2 =>
      refine ⟨v, vs, rfl, F, B, ι, ρ, κ, x, s, w1, ?_⟩
      simp only [bCons] at h
      cases q : g x ρ κ with
      | none => rw [q] at h; exact h
      | some p =>
        rw [q] at h
        intro σ1 B1 ι1 H1 e1 g1 s1
        refine ⟨F, B1, ι1, p.1, p.2, ys, s1, pmap w2 fun _ _ z => z.grow g1, ?_⟩
        replace h : (match r ys p.1 p.2 with
          | some (ρ', κ') => ∀ σ' B' ι' H', (σ'.length = σ.length ∧ ∀ i, i ∉ ts ++ us → σ'[i]? = σ[i]?) → Grow F B ι H B' ι' H' → SOk X.K F B' ι' σ' H' ρ' κ' → Q σ' H'
          | none => False) := h
        cases q2 : r ys p.1 p.2 with
        | none => rw [q2] at h; exact h
        | some p2 =>
          rw [q2] at h
          intro σ2 B2 ι2 H2 e2 g2 s2
          exact h σ2 B2 ι2 H2 ⟨e2.1.trans e1.1, fun i hi => (e2.2 i (fun z => hi (List.mem_append_right _ z))).trans (e1.2 i (fun z => hi (List.mem_append_left _ z)))⟩ (g1.trans g2) s2
theorem cells_d {K : PySem.W.Frag} {B : Hp} {ι : List Addr} {vs : List V} {xs : List D} (r : RpAll K B vs xs) : Paired (WOk K B ι) vs (xs.map .d) := cells_of r
theorem jg_tup {es : List Expr} {k : Nat} {r : List DV → Rho → Kap → Option (Rho × Kap)} {ts : List Nat} {n : Nat} (hc : X.calm = true) (h : JGs X es r ts)
    (hn : (assignEach es X.env).length = n := by rfl) (hst : (assignEach es X.env).findIdx? (·.1) = none := by rfl) : JG X (.Tuple es k pos) (bTup n r) ts :=
  pg_imp (pg_tup hc h hn hst) fun v σ H Q ⟨F, B, ι, ρ, κ, x, s, w, h⟩ => by
    unfold bTup at h
    split at h
    · rename_i ρ' κ' e
      split at e
      · rename_i ds
        split at e
        · rename_i hl
          obtain ⟨a, vs, rfl, h1, r1⟩ := tup_ok s.hs w
          refine ⟨a, vs, rfl, h1, by rw [r1.len]; exact hl, F, B, ι, ρ, κ, _, s, cells_of r1, ?_⟩
          rw [e]
          exact h
        · cases e
      · cases e
    · exact h.elim
end
/-- target = value -/
def mAsg (g : MG) (m : ME) : MS := fun ρ κ => (m ρ κ).bindS fun x κ1 => match g (fz x) ρ κ1 with
  | some (ρ', κ') => .nx ρ' κ'
  | none => .bad
section
variable {X : Cx} {E : XK} {tg e : Expr} {m : ME} {g : MG} {ts : List Nat} {pos : Pos}
theorem asg_imp {K : PySem.W.Frag} {mg : Str → Option Value} {De : Ends} {σ : L2.St} {H : Hp} (h : tS K mg E (mAsg g m) De σ H) : tAsg (tM K mg E m) (tG K g ts) De σ H := by
  obtain ⟨F, B, ι, ρ, κ, s, h⟩ := h
  unfold mAsg at h
  refine evE s (fun x κ1 e1 v B1 ι1 H1 g1 s1 w1 => ?_) (fun n fs κ1 e1 => by rw [e1] at h; exact h) (fun e => by rw [e] at h; exact h)
  rw [e1] at h
  obtain ⟨B1', s1', g1', w1'⟩ := s1.fz w1
  refine ⟨F, B1', ι1, ρ, κ1, fz x, s.step (g1.trans g1') s1', w1', ?_⟩
  dsimp only [Out.bindS] at h
  cases q : g (fz x) ρ κ1 with
  | none => rw [q] at h; exact h
  | some p =>
    rw [q] at h
    exact fun σ' B' ι' H' _ g2 s2 => h σ' B' ι' H' ((g1.trans g1').trans g2) s2
theorem js_asg (he : JE X E e m) (hg : JG X tg g ts) (hs : swapsWithSole [tg] e pos.line X.env = pure false := by rfl) (hw : swappedStores [tg] e X.env = pure none := by rfl)
    (h1 : (assignEach [tg] X.env).map (·.2) = [assign tg X.env] := by rfl) : JS X E (.Assign [tg] e pos) (mAsg g m) :=
  ps_imp (ps_asg he hg hs hw h1) fun _ _ _ h => asg_imp h
end

/-! ### what is walked -/
def Yld (K : PySem.W.Frag) (F : List Addr) (B : Hp) (ι : List Addr) (H : Hp) (J : It) (ds : List D) : Prop :=
  ∀ F' i B' ι' H' κ', (∀ a ∈ F, a ∈ F') → Grow [] B ι H B' ι' H' → HSt K F' B' ι' H' κ' →
    (∀ d, ds[i]? = some d → J.go i H' ∧ ∀ x H'', J.yld i H' x H'' → ∃ B'', Grow F' B' ι' H' B'' ι' H'' ∧ HSt K F' B'' ι' H'' κ' ∧ Rp K B'' x d) ∧ (ds.length ≤ i → J.stop i H')
abbrev MI := Rho → Kap → Out (List D)
def tI (K : PySem.W.Frag) (mg : Str → Option Value) (E : XK) (m : MI) : TI := fun σ H R => ∃ F B ι ρ κ, SOk K F B ι σ H ρ κ ∧ match m ρ κ with
  | .ok ds κ' => ∀ J B' ι' H', Grow F B ι H B' ι' H' → HSt K F B' ι' H' κ' → Yld K F B' ι' H' J ds → R J H'
  | .ex n fs κ' => XW K mg E F B ι H n fs κ'
  | .bad => False
abbrev JI (X : Cx) (E : XK) (tg e : Expr) (m : MI) : Prop := PI X tg e (tI X.K X.mg E m)
def mSrcL (m : ME) : MI := fun ρ κ => (m ρ κ).bind fun x κ1 => match x with
  | .d (.list xs) => .ok xs κ1
  | .n xs => .ok xs κ1
  | _ => .bad
def mSrcT (m : ME) : MI := fun ρ κ => (m ρ κ).bind fun x κ1 => match x with
  | .d (.tuple xs) => .ok xs κ1
  | _ => .bad
def chars (x : Str) : List D := x.cps.toList.map fun c => .str ⟨#[c]⟩
def mSrcS (m : ME) : MI := fun ρ κ => (m ρ κ).bind fun x κ1 => match x with
  | .d (.str x) => .ok (chars x) κ1
  | _ => .bad
/-- a list or a tuple -/
def mSrcA (m : ME) : MI := fun ρ κ => (m ρ κ).bind fun x κ1 => match x with
  | .d (.list xs) => .ok xs κ1
  | .n xs => .ok xs κ1
  | .d (.tuple xs) => .ok xs κ1
  | _ => .bad
def rngD (lo : Int) (n : Nat) : List D := (List.range n).map fun (i : Nat) => PyData.int (lo + (i : Int))
def mRng1 (a : MA) : MI := fun ρ κ => (a ρ κ).bind fun xs κ1 => match xs with
  | [.d (.int j)] => if -(2 ^ 62) ≤ j ∧ j < 2 ^ 62 then .ok (rngD 0 j.toNat) κ1 else .bad
  | _ => .bad
def mRng2 (a : MA) : MI := fun ρ κ => (a ρ κ).bind fun xs κ1 => match xs with
  | [.d (.int i), .d (.int j)] => if -(2 ^ 62) ≤ i ∧ i < 2 ^ 62 ∧ -(2 ^ 62) ≤ j ∧ j < 2 ^ 62 then .ok (rngD i (j - i).toNat) κ1 else .bad
  | _ => .bad
section
variable {K : PySem.W.Frag} {F : List Addr} {B B' : Hp} {ι ι' : List Addr} {H H' : Hp} {κ : Kap}
theorem rp_get {vs : List V} {xs : List D} (r : RpAll K B vs xs) {i : Nat} {v : V} {d : D} (e1 : vs[i]? = some v) (e2 : xs[i]? = some d) : Rp K B v d := by
  obtain ⟨u, h, w⟩ := r.get e2
  rw [h] at e1; cases e1; exact w
theorem yld_list {a : Addr} {vs : List V} {xs : List D} (hS : SqL K B a vs) (r : RpAll K B vs xs) : Yld K F B ι H (Itl K a) xs := fun F' i B' ι' H' κ' _ g s => by
  have h1 : SqL K H' a vs := s.ex.seq (g.b.seq hS)
  refine ⟨fun d e => ?_, fun e => ⟨vs, h1, by rw [r.len]; exact e⟩⟩
  obtain ⟨v, e1, w⟩ := r.get e
  refine ⟨⟨vs, v, h1, e1⟩, fun x H'' y => ?_⟩
  obtain ⟨rfl, y⟩ := y
  exact ⟨B', Grow.refl, s, (rp_get r (y vs h1) e).mono g.b⟩
theorem yld_tup {a : Addr} {vs : List V} {xs : List D} (hS : SqT K B a vs) (r : RpAll K B vs xs) : Yld K F B ι H (Itt K a) xs := fun F' i B' ι' H' κ' _ g s => by
  have h1 : SqT K H' a vs := same_t s.ex (same_t g.b hS)
  refine ⟨fun d e => ?_, fun e => ⟨vs, h1, by rw [r.len]; exact e⟩⟩
  obtain ⟨v, e1, w⟩ := r.get e
  refine ⟨⟨vs, v, h1, e1⟩, fun x H'' y => ?_⟩
  obtain ⟨rfl, y⟩ := y
  exact ⟨B', Grow.refl, s, (rp_get r (y vs h1) e).mono g.b⟩
theorem rngD_get {lo : Int} {n i : Nat} {d : D} (e : (rngD lo n)[i]? = some d) : i < n ∧ d = .int (lo + (i : Int)) := by
  unfold rngD at e
  rw [List.getElem?_map] at e
  by_cases h : i < n
  · rw [List.getElem?_range h] at e
    simp only [Option.map_some, Option.some.injEq] at e
    exact ⟨h, e.symm⟩
  · rw [List.getElem?_eq_none (by rw [List.length_range]; omega)] at e
    cases e
theorem yld_rng {lo : Int} {n : Nat} : Yld K F B ι H (Itr lo n) (rngD lo n) := fun F' i B' ι' H' κ' _ g s => by
  refine ⟨fun d e => ?_, fun e => by show n ≤ i; simpa [rngD] using e⟩
  obtain ⟨h1, rfl⟩ := rngD_get e
  refine ⟨h1, fun x H'' y => ?_⟩
  obtain ⟨rfl, rfl⟩ := y
  exact ⟨B', Grow.refl, s, .int _⟩
theorem yld_str {x : Str} : Yld K F B ι H (Its x) (chars x) := fun F' i B' ι' H' κ' _ g s => by
  refine ⟨fun d e => ?_, fun e => ?_⟩
  · unfold chars at e
    rw [List.getElem?_map] at e
    cases q : x.cps.toList[i]? with
    | none => rw [q] at e; cases e
    | some c =>
      rw [q] at e
      simp only [Option.map_some, Option.some.injEq] at e
      subst e
      have q' : x.cps[i]? = some c := by rw [← q]; simp
      refine ⟨(Array.getElem?_eq_some_iff.mp q').1, fun y H'' y' => ?_⟩
      obtain ⟨rfl, c', e1, rfl⟩ := y'
      rw [q'] at e1; cases e1
      exact ⟨B', Grow.refl, s, .str _⟩
  · unfold chars at e
    rw [List.length_map] at e
    show x.cps.size ≤ i
    simpa using e
end
section
variable {X : Cx} {E : XK} {tg e a b : Expr} {m : ME} {ma : MA} {p pos : Pos}
theorem src_frz {K : PySem.W.Frag} {F : List Addr} {B : Hp} {ι : List Addr} {H : Hp} {κ : Kap} {v : V} {x : DV} {xs : List D} (s : HSt K F B ι H κ) (w : VOk K F B ι H v x) (e : x = .d (.list xs) ∨ x = .n xs) :
    ∃ a vs B', v = .ref a ∧ HSt K F B' ι H κ ∧ Grow F B ι H B' ι H ∧ B' a = some (.lst vs) ∧ RpAll K B' vs xs := by
  rcases e with rfl | rfl
  · cases w with
    | lst h r => exact ⟨_, _, B, rfl, s, Grow.refl, h, r⟩
  · obtain ⟨p, vs, rfl, h1, h2, h3, h4, r⟩ := w
    obtain ⟨a, b⟩ := s.frz h1 h2 h3 h4
    exact ⟨p, vs, _, rfl, a, b, upd_same, r.mono b.b⟩
theorem ji_list (he : JE X E e m) : JI X E tg e (mSrcL m) :=
  ji_imp (pi_list he) fun σ H R ⟨F, B, ι, ρ, κ, s, h⟩ => by
    unfold mSrcL at h
    refine evE s (fun x κ1 e1 v B1 ι1 H1 g1 s1 w1 => ?_) (fun n fs κ1 e1 => by rw [e1] at h; exact h) (fun e => by rw [e] at h; exact h)
    rw [e1] at h
    dsimp only [Out.bind] at h
    have go : ∀ xs, (x = .d (.list xs) ∨ x = .n xs) → (∀ J B' ι' H', Grow F B ι H B' ι' H' → HSt X.K F B' ι' H' κ1 → Yld X.K F B' ι' H' J xs → R J H') → ∃ a, v = .ref a ∧ (∃ xs, SqL X.K H1 a xs) ∧ R (Itl X.K a) H1 := fun xs ex hR => by
      obtain ⟨a, vs, B', rfl, s2, g2, hS, r⟩ := src_frz s1 w1 ex
      exact ⟨a, rfl, ⟨vs, lst1 (s2.ex _ _ hS)⟩, hR _ B' ι1 H1 (g1.trans g2) s2 (yld_list (lst1 hS) r)⟩
    split at h
    · rename_i xs κ' q
      split at q
      · rename_i ys; cases q; exact go _ (.inl rfl) h
      · rename_i ys; cases q; exact go _ (.inr rfl) h
      · cases q
    · rename_i q
      split at q <;> cases q
    · exact h.elim
theorem ji_tup (he : JE X E e m) : JI X E tg e (mSrcT m) :=
  ji_imp (pi_tup he) fun σ H R ⟨F, B, ι, ρ, κ, s, h⟩ => by
    unfold mSrcT at h
    refine evE s (fun x κ1 e1 v B1 ι1 H1 g1 s1 w1 => ?_) (fun n fs κ1 e1 => by rw [e1] at h; exact h) (fun e => by rw [e] at h; exact h)
    rw [e1] at h
    dsimp only [Out.bind] at h
    split at h
    · rename_i xs κ' q
      split at q
      · rename_i ys
        cases q
        cases w1 with
        | tup hS r => exact ⟨_, rfl, ⟨_, same_t s1.ex hS⟩, h _ B1 ι1 H1 g1 s1 (yld_tup hS r)⟩
      · cases q
    · rename_i q
      split at q <;> cases q
    · exact h.elim
theorem ji_str (he : JE X E e m) : JI X E tg e (mSrcS m) :=
  ji_imp (pi_str he) fun σ H R ⟨F, B, ι, ρ, κ, s, h⟩ => by
    unfold mSrcS at h
    refine evE s (fun x κ1 e1 v B1 ι1 H1 g1 s1 w1 => ?_) (fun n fs κ1 e1 => by rw [e1] at h; exact h) (fun e => by rw [e] at h; exact h)
    rw [e1] at h
    dsimp only [Out.bind] at h
    split at h
    · rename_i xs κ' q
      split at q
      · rename_i ys
        cases q
        cases w1
        exact ⟨ys, rfl, h _ B1 ι1 H1 g1 s1 yld_str⟩
      · cases q
    · rename_i q
      split at q <;> cases q
    · exact h.elim
theorem pi_or {w1 w2 : TI} (h1 : PI X tg e w1) (h2 : PI X tg e w2) : PI X tg e (fun σ H R => w1 σ H R ∨ w2 σ H R) :=
  ⟨fun pins s σ H R I q => q.elim (fun q => h1.run pins s σ H R I q) fun q => h2.run pins s σ H R I q⟩
theorem ji_any (he : JE X E e m) : JI X E tg e (mSrcA m) :=
  ji_imp (pi_or (ji_list (tg := tg) he) (ji_tup he)) fun σ H R ⟨F, B, ι, ρ, κ, s, h⟩ => by
    unfold mSrcA at h
    cases q : m ρ κ with
    | bad => rw [q] at h; exact h.elim
    | ex n fs κ' => exact .inl ⟨F, B, ι, ρ, κ, s, by unfold mSrcL; rw [q] at h ⊢; exact h⟩
    | ok x κ' =>
      rw [q] at h
      cases x with
      | d x =>
        cases x with
        | list xs => exact .inl ⟨F, B, ι, ρ, κ, s, by unfold mSrcL; rw [q]; exact h⟩
        | tuple xs => exact .inr ⟨F, B, ι, ρ, κ, s, by unfold mSrcT; rw [q]; exact h⟩
        | _ => exact h.elim
      | n xs => exact .inl ⟨F, B, ι, ρ, κ, s, by unfold mSrcL; rw [q]; exact h⟩
      | c i => exact h.elim
theorem ji_rng1 (hg : Gl X "range") (hm : X.mg "range" = none) (ha : JA X E [a] ma) (hs : starEach [a] X.env = [(false, eval a X.env)] := by rfl) : JI X E tg (.Call (.Name "range" p) [a] [] pos) (mRng1 ma) :=
  ji_imp (pi_range1 hg hm ha hs) fun σ H R ⟨F, B, ι, ρ, κ, s, h⟩ => by
    unfold mRng1 at h
    refine evA s (fun x κ1 e1 v B1 ι1 H1 g1 s1 w1 => ?_) (fun n fs κ1 e1 => by rw [e1] at h; exact h) (fun e => by rw [e] at h; exact h)
    rw [e1] at h
    dsimp only [Out.bind] at h
    split at h
    · rename_i xs κ' q
      split at q
      · rename_i j
        split at q
        · rename_i hj
          cases q
          cases w1 with
          | cons w w2 =>
            cases w2
            cases w
            exact ⟨j, rfl, hj.1, hj.2, h _ B1 ι1 H1 g1 s1 yld_rng⟩
        · cases q
      · cases q
    · rename_i q
      split at q
      · split at q <;> cases q
      · cases q
    · exact h.elim
theorem ji_rng2 (hg : Gl X "range") (hm : X.mg "range" = none) (ha : JA X E [a, b] ma) (hs : starEach [a, b] X.env = [(false, eval a X.env), (false, eval b X.env)] := by rfl) (hs2 : starEach [b] X.env = [(false, eval b X.env)] := by rfl) :
    JI X E tg (.Call (.Name "range" p) [a, b] [] pos) (mRng2 ma) :=
  ji_imp (pi_range2 hg hm ha hs hs2) fun σ H R ⟨F, B, ι, ρ, κ, s, h⟩ => by
    unfold mRng2 at h
    refine evA s (fun x κ1 e1 v B1 ι1 H1 g1 s1 w1 => ?_) (fun n fs κ1 e1 => by rw [e1] at h; exact h) (fun e => by rw [e] at h; exact h)
    rw [e1] at h
    dsimp only [Out.bind] at h
    split at h
    · rename_i xs κ' q
      split at q
      · rename_i i j
        split at q
        · rename_i hj
          cases q
          cases w1 with
          | cons w w2 =>
            cases w2 with
            | cons w' w3 =>
              cases w3
              cases w
              cases w'
              exact ⟨i, j, rfl, hj, h _ B1 ι1 H1 g1 s1 yld_rng⟩
        · cases q
      · cases q
    · rename_i q
      split at q
      · split at q <;> cases q
      · cases q
    · exact h.elim
end

/-! ### for -/
def forGo (g : MG) (body : MS) : List D → Rho → Kap → OutS
  | [], ρ, κ => .nx ρ κ
  | d :: r, ρ, κ => match g (.d d) ρ κ with
    | none => .bad
    | some (ρ1, κ1) => match body ρ1 κ1 with
      | .nx ρ2 κ2 => forGo g body r ρ2 κ2
      | .ct ρ2 κ2 => forGo g body r ρ2 κ2
      | .bk ρ2 κ2 => .nx ρ2 κ2
      | o => o
def mFor (src : MI) (g : MG) (body : MS) : MS := fun ρ κ => (src ρ κ).bindS fun ds κ1 => forGo g body ds ρ κ1
def whileGo (c : MT) (body : MS) : Nat → Rho → Kap → OutS
  | 0, _, _ => .bad
  | n + 1, ρ, κ => (c ρ κ).bindS fun t κ1 => if t = true then (match body ρ κ1 with
      | .nx ρ2 κ2 => whileGo c body n ρ2 κ2
      | .ct ρ2 κ2 => whileGo c body n ρ2 κ2
      | .bk ρ2 κ2 => .nx ρ2 κ2
      | o => o) else .nx ρ κ1
def mWhile (n : Nat) (c : MT) (body : MS) : MS := fun ρ κ => whileGo c body n ρ κ
section
variable {X : Cx} {E : XK} {tg it c : Expr} {body : List Stmt} {src : MI} {g : MG} {ts : List Nat} {mb : MS} {mc : MT} {pos : Pos}
theorem js_for (hp : PassesOwn (model X.prog X.w) X.A X.env X.xe) (hc : X.calm = true) (hi : JI X E tg it src) (hg : JG X tg g ts) (hb : JSs X E body mb)
    (hs : ∀ x, foldedSetIterable it X.env x = pure x := by intro _; rfl) : JS X E (.For tg it body [] pos) (mFor src g mb) :=
  ps_imp (ps_for hp hc hi hg hb hs) fun De σ H ⟨F, B, ι, ρ, κ, s, h⟩ => by
    unfold mFor at h
    refine ⟨F, B, ι, ρ, κ, s, ?_⟩
    cases q : src ρ κ with
    | bad => rw [q] at h; exact h
    | ex n fs κ' => rw [q] at h; exact h
    | ok ds κ1 =>
      rw [q] at h
      have h : PostS X.K X.mg E F B ι H De (forGo g mb ds ρ κ1) := h
      intro J B1 ι1 H1 g1 s1 y
      refine ⟨fun i m σ H => ∃ B' ι' ρ' κ', Grow F B1 ι1 H1 B' ι' H ∧ SOk X.K F B' ι' σ H ρ' κ' ∧ m + i = ds.length ∧ PostS X.K X.mg E F B' ι' H De (forGo g mb (ds.drop i) ρ' κ'), ⟨ds.length, B1, ι1, ρ, κ1, Grow.refl, s.step g1 s1, rfl, PostS.grow h g1⟩, ?_⟩
      rintro i m σ H ⟨B', ι', ρ', κ', g2, s2, em, h2⟩
      obtain ⟨y1, y2⟩ := y F i B' ι' H κ' (fun _ m => m) (g2.less fun _ m => nomatch m) s2.hs
      cases e : ds[i]? with
      | none =>
        have hl : ds.length ≤ i := List.getElem?_eq_none_iff.mp e
        refine .inl ⟨y2 hl, ?_⟩
        rw [List.drop_eq_nil_of_le hl] at h2
        exact h2 σ B' ι' H Grow.refl s2
      | some d =>
        have hl : i < ds.length := (List.getElem?_eq_some_iff.mp e).1
        obtain ⟨y3, y4⟩ := y1 d e
        have ed : ds.drop i = d :: ds.drop (i + 1) := by
          rw [List.drop_eq_getElem_cons hl]
          rw [List.getElem?_eq_getElem hl] at e
          cases e; rfl
        rw [ed] at h2
        simp only [forGo] at h2
        refine .inr ⟨y3, fun σ' H' => ∃ B' ι' ρ' κ', Grow F B1 ι1 H1 B' ι' H' ∧ SOk X.K F B' ι' σ' H' ρ' κ' ∧ (m - 1) + (i + 1) = ds.length ∧ PostS X.K X.mg E F B' ι' H' De (forGo g mb (ds.drop (i + 1)) ρ' κ'), fun σ' H' hN => ⟨m - 1, by omega, hN⟩, fun x H' hy => ?_⟩
        obtain ⟨B2, g3, s3, r⟩ := y4 x H' hy
        refine ⟨F, B2, ι', ρ', κ', .d d, s2.step g3 s3, r, ?_⟩
        cases q2 : g (.d d) ρ' κ' with
        | none => rw [q2] at h2; exact h2
        | some p =>
          obtain ⟨ρ2, κ2⟩ := p
          rw [q2] at h2
          intro σ2 B4 ι4 H2 _ g4 s4
          refine ⟨F, B4, ι4, ρ2, κ2, s4, ?_⟩
          have gg := g2.trans (g3.trans g4)
          dsimp only at h2
          cases q3 : mb ρ2 κ2 with
          | nx ρ3 κ3 => rw [q3] at h2; exact fun σ3 B3 ι3 H3 g5 s5 => ⟨B3, ι3, ρ3, κ3, gg.trans g5, s5, by omega, PostS.grow h2 ((g3.trans g4).trans g5)⟩
          | ct ρ3 κ3 => rw [q3] at h2; exact fun σ3 B3 ι3 H3 g5 s5 => ⟨B3, ι3, ρ3, κ3, gg.trans g5, s5, by omega, PostS.grow h2 ((g3.trans g4).trans g5)⟩
          | bk ρ3 κ3 => rw [q3] at h2; exact fun σ3 B3 ι3 H3 g5 s5 => h2 σ3 B3 ι3 H3 ((g3.trans g4).trans g5) s5
          | rt x κ3 => rw [q3] at h2; exact fun v B3 ι3 H3 g5 s5 w5 => h2 v B3 ι3 H3 ((g3.trans g4).trans g5) s5 w5
          | ex n fs κ3 => rw [q3] at h2; exact XW.grow h2 (g3.trans g4) fun _ m => m
          | bad => rw [q3] at h2; exact h2
theorem js_while {n : Nat} (hp : PassesOwn (model X.prog X.w) X.A X.env X.xe) (hc : JT X E c mc) (hb : JSs X E body mb) : JS X E (.While c body [] pos) (mWhile n mc mb) :=
  ps_imp (ps_while hp hc hb) fun De σ H ⟨F, B, ι, ρ, κ, s, h⟩ => by
    unfold mWhile at h
    refine ⟨fun m σ' H' => ∃ B' ι' ρ' κ', Grow F B ι H B' ι' H' ∧ SOk X.K F B' ι' σ' H' ρ' κ' ∧ PostS X.K X.mg E F B' ι' H' De (whileGo mc mb m ρ' κ'), ⟨n, B, ι, ρ, κ, Grow.refl, s, h⟩, ?_⟩
    rintro m σ H' ⟨B', ι', ρ', κ', g2, s2, h2⟩
    cases m with
    | zero => exact h2.elim
    | succ m =>
      simp only [whileGo] at h2
      refine evT s2 (fun t κ1 e1 B1 ι1 H1 g1 s1 => ?_) (fun n fs κ1 e1 => by rw [e1] at h2; exact h2) (fun e => by rw [e] at h2; exact h2)
      rw [e1] at h2
      cases t with
      | false => exact h2 σ B1 ι1 H1 g1 (s2.step g1 s1)
      | true =>
        rw [if_pos rfl]
        refine ⟨fun σ' H' => ∃ B' ι' ρ' κ', Grow F B ι H B' ι' H' ∧ SOk X.K F B' ι' σ' H' ρ' κ' ∧ PostS X.K X.mg E F B' ι' H' De (whileGo mc mb m ρ' κ'), fun σ' H' hN => ⟨m, Nat.lt_succ_self m, hN⟩, F, B1, ι1, ρ', κ1, s2.step g1 s1, ?_⟩
        have h2 : PostS X.K X.mg E F B' ι' H' De (match mb ρ' κ1 with
          | .nx ρ2 κ2 => whileGo mc mb m ρ2 κ2
          | .ct ρ2 κ2 => whileGo mc mb m ρ2 κ2
          | .bk ρ2 κ2 => .nx ρ2 κ2
          | o => o) := h2
        cases q3 : mb ρ' κ1 with
        | nx ρ3 κ3 => rw [q3] at h2; exact fun σ3 B3 ι3 H3 g5 s5 => ⟨B3, ι3, ρ3, κ3, g2.trans (g1.trans g5), s5, PostS.grow h2 (g1.trans g5)⟩
        | ct ρ3 κ3 => rw [q3] at h2; exact fun σ3 B3 ι3 H3 g5 s5 => ⟨B3, ι3, ρ3, κ3, g2.trans (g1.trans g5), s5, PostS.grow h2 (g1.trans g5)⟩
        | bk ρ3 κ3 => rw [q3] at h2; exact fun σ3 B3 ι3 H3 g5 s5 => h2 σ3 B3 ι3 H3 (g1.trans g5) s5
        | rt x κ3 => rw [q3] at h2; exact fun v B3 ι3 H3 g5 s5 w5 => h2 v B3 ι3 H3 (g1.trans g5) s5 w5
        | ex n fs κ3 => rw [q3] at h2; exact XW.grow h2 g1 fun _ m => m
        | bad => rw [q3] at h2; exact h2
end
end DL

namespace DL
open L2 PyProof.Rows PySem PySem.Spec

/-! ### list comprehensions -/
def wipeR (ρ : Rho) : List Nat → Rho
  | [] => ρ
  | v :: vs => (wipeR ρ vs).set v none
def noex {α : Type} : Out α → Out α
  | .ex _ _ _ => .bad
  | o => o
def lcGo (g : MG) (t : MT) (el : ME) (ρw : Rho) : List D → List D → Kap → Out DV
  | [], acc, κ => .ok (.n acc) κ
  | d :: r, acc, κ => match g (.d d) ρw κ with
    | none => .bad
    | some (ρ1, κ1) => (noex (t ρ1 κ1)).bind fun b κ2 => if b = true then (noex (el ρ1 κ2)).bind fun y κ3 => match fz y with
        | .d e => if acc.length < 1000000 then lcGo g t el ρw r (acc ++ [e]) κ3 else .bad
        | _ => .bad
      else lcGo g t el ρw r acc κ2
def mLc (src : MI) (g : MG) (t : MT) (el : ME) (vs : List Nat) : ME := fun ρ κ => (src ρ κ).bind fun ds κ1 => lcGo g t el (wipeR ρ vs) ds [] κ1
def mYes : MT := fun _ κ => .ok true κ
section
variable {K : PySem.W.Frag} {mg : Str → Option Value} {E : XK} {F : List Addr} {B : Hp} {ι : List Addr} {σ : L2.St} {H : Hp} {ρ : Rho} {κ : Kap}
theorem SOk.none (s : SOk K F B ι σ H ρ κ) (i : Nat) : SOk K F B ι (σ.set i none) H (ρ.set i none) κ :=
  ⟨s.hs, by rw [List.length_set, List.length_set]; exact s.sl, fun j y e => by
    by_cases q : i = j
    · subst q
      by_cases hl : i < ρ.length
      · rw [List.getElem?_set_self hl] at e; cases e
      · rw [List.getElem?_eq_none (by rw [List.length_set]; omega)] at e; cases e
    · rw [List.getElem?_set_ne q] at e
      obtain ⟨u, e1, w1⟩ := s.loc j y e
      exact ⟨u, by rw [List.getElem?_set_ne q]; exact e1, w1⟩⟩
theorem SOk.wipe (s : SOk K F B ι σ H ρ κ) : ∀ vs : List Nat, SOk K F B ι (wipe σ vs) H (wipeR ρ vs) κ
  | [] => s
  | v :: vs => (SOk.wipe s vs).none v
theorem wipe_get (σ : L2.St) (i : Nat) : ∀ vs : List Nat, i ∈ vs → i < σ.length → (wipe σ vs)[i]? = some none
  | [], h, _ => by cases h
  | v :: vs, h, hl => by
    show ((wipe σ vs).set v none)[i]? = some none
    by_cases q : v = i
    · subst q
      rw [List.getElem?_set_self (by rw [wipe_length]; exact hl)]
    · rw [List.getElem?_set_ne q]
      refine wipe_get σ i vs ?_ hl
      rcases List.mem_cons.mp h with rfl | h
      · exact absurd rfl q
      · exact h
theorem wipe_eq {σ σ' : L2.St} {vs ts : List Nat} (hl : σ'.length = σ.length) (h : ∀ i, i ∉ ts → σ'[i]? = (wipe σ vs)[i]?) (ht : ∀ i ∈ ts, i ∈ vs) : wipe σ' vs = wipe σ vs := by
  apply List.ext_getElem?
  intro i
  by_cases hi : i ∈ vs
  · by_cases hb : i < σ.length
    · rw [wipe_get σ i vs hi hb, wipe_get σ' i vs hi (by omega)]
    · rw [List.getElem?_eq_none (by rw [wipe_length]; omega), List.getElem?_eq_none (by rw [wipe_length]; omega)]
  · rw [wipe_out hi, h i (fun z => hi (ht i z)), ]
/-- the protected new list is written -/
theorem HSt.setP {p : Addr} {o : HO} (s : HSt K (p :: F) B ι H κ) (hp : p ∉ F) : HSt K (p :: F) B ι (upd H p o) κ ∧ Grow F B ι H B ι (upd H p o) := by
  obtain ⟨h1, h2, h3⟩ := s.pro p (List.mem_cons_self ..)
  refine ⟨⟨fun a u e => ?_, s.len, s.nd, s.out, fun a m => ?_, fun i a cl e1 e2 => ?_, fun a m => ?_, fun q m => let t := s.tb q m; t.to (Same.refl _) (upd_ne fun e => t.2.2.2 (e ▸ List.mem_cons_self)) t.2.1 t.2.2.1 t.2.2.2⟩, ⟨Same.refl _, fun _ _ h => h, fun a m => upd_ne (fun (e : a = p) => hp (e ▸ m))⟩⟩
  · rw [upd_ne (fun (q : a = p) => by rw [q, h2] at e; cases e)]; exact s.ex a u e
  · obtain ⟨a1, a2, a3⟩ := s.pro a m
    refine ⟨?_, a2, a3⟩
    by_cases q : a = p
    · subst q; exact ⟨_, upd_same⟩
    · rw [upd_ne q]; exact a1
  · exact (s.cel i a cl e1 e2).mono (Same.refl _) (fun _ _ h => h) (upd_ne (fun (e : a = p) => h3 (e ▸ List.mem_of_getElem? e1)))
  · rw [upd_ne (fun (e : a = p) => h3 (e ▸ m))]; exact s.tr a m
end
section
variable {X : Cx} {E : XK}
/-- the new list of a comprehension, before it -/
theorem HSt.tmp {K : PySem.W.Frag} {F : List Addr} {B : Hp} {ι : List Addr} {H : Hp} {κ : Kap} (s : HSt K F B ι H κ) {p : Addr} {o : HO} (h : H p = none) :
    HSt K (p :: F) B ι (upd H p o) κ ∧ Grow F B ι H B ι (upd H p o) ∧ p ∉ F := by
  obtain ⟨s1, g1, h1, h2, h3⟩ := s.loose (o := o) h
  refine ⟨⟨s1.ex, s1.len, s1.nd, s1.out, fun a m => ?_, s1.cel, s1.tr, fun q m => let t := s1.tb q m; ⟨t.1, t.2.1, t.2.2.1, fun z => (List.mem_cons.mp z).elim ((s.tb q m).nn h) t.2.2.2⟩⟩, g1, h3⟩
  rcases List.mem_cons.mp m with rfl | m
  · exact ⟨⟨_, upd_same⟩, h1, h2⟩
  · exact s1.pro a m
abbrev JTs (X : Cx) (E : XK) (ifs : List Expr) (m : MT) : Prop := PTs X ifs (tT X.K X.mg E m)
theorem jts_nil : JTs X E [] mYes := ⟨fun pins s σ H Q I ⟨F, B, ι, ρ, κ, so, h⟩ => (pts_nil (X := X)).run pins s σ H Q I (h B ι H Grow.refl so.hs)⟩
theorem jts_one {c : Expr} {m : MT} (h : JT X E c m) : JTs X E [c] m := pts_one h
theorem lc_imp {K : PySem.W.Frag} {mg : Str → Option Value} {E : XK} {src : MI} {g : MG} {t : MT} {el : ME} {ts vs : List Nat} (ht : ∀ i ∈ ts, i ∈ vs) {σ : L2.St} {H : Hp} {Q : VK} (h : tM K mg E (mLc src g t el vs) σ H Q) :
    tLc (tI K mg E src) (tG K g ts) (tT K mg E0 t) (tM K mg E0 el) vs σ H Q := by
  obtain ⟨F, B, ι, ρ, κ, s, h⟩ := h
  unfold mLc at h
  refine ⟨F, B, ι, ρ, κ, s, ?_⟩
  cases q : src ρ κ with
  | bad => rw [q] at h; exact h
  | ex n fs κ' => rw [q] at h; exact h
  | ok ds κ1 =>
    rw [q] at h
    have h : PostE K mg E F B ι H Q (lcGo g t el (wipeR ρ vs) ds [] κ1) := h
    intro J B1 ι1 H1 g1 s1 y Dl hD
    obtain ⟨sD, gD, hDF⟩ := s1.tmp (o := .lst []) hD
    refine ⟨fun i m H' => ∃ B' ι' κ' acc vacc, Grow F B1 ι1 H1 B' ι' H' ∧ HSt K (Dl :: F) B' ι' H' κ' ∧ H' Dl = some (.lst vacc) ∧ RpAll K B' vacc acc ∧ m + i = ds.length ∧ PostE K mg E F B' ι' H' Q (lcGo g t el (wipeR ρ vs) (ds.drop i) acc κ'),
      ⟨ds.length, B1, ι1, κ1, [], [], gD, sD, upd_same, .nil, rfl, PostE.grow h (g1.trans gD)⟩, ?_⟩
    rintro i m H' ⟨B', ι', κ', acc, vacc, g2, s2, hL, ra, em, h2⟩
    obtain ⟨y1, y2⟩ := y (Dl :: F) i B' ι' H' κ' (fun _ m => List.mem_cons_of_mem _ m) (g2.less fun _ m => nomatch m) s2
    obtain ⟨p1, p2, p3⟩ := s2.pro Dl (List.mem_cons_self ..)
    cases e : ds[i]? with
    | none =>
      have hl : ds.length ≤ i := List.getElem?_eq_none_iff.mp e
      refine .inl ⟨y2 hl, ?_⟩
      rw [List.drop_eq_nil_of_le hl] at h2
      exact h2 (.ref Dl) B' ι' H' Grow.refl (s2.less fun _ m => List.mem_cons_of_mem _ m) ⟨Dl, vacc, rfl, hL, p2, p3, hDF, ra⟩
    | some d =>
      have hl : i < ds.length := (List.getElem?_eq_some_iff.mp e).1
      obtain ⟨y3, y4⟩ := y1 d e
      have ed : ds.drop i = d :: ds.drop (i + 1) := by
        rw [List.drop_eq_getElem_cons hl]
        rw [List.getElem?_eq_getElem hl] at e
        cases e; rfl
      rw [ed] at h2
      simp only [lcGo] at h2
      refine .inr ⟨y3, fun H' => ∃ B' ι' κ' acc vacc, Grow F B1 ι1 H1 B' ι' H' ∧ HSt K (Dl :: F) B' ι' H' κ' ∧ H' Dl = some (.lst vacc) ∧ RpAll K B' vacc acc ∧ (m - 1) + (i + 1) = ds.length ∧ PostE K mg E F B' ι' H' Q (lcGo g t el (wipeR ρ vs) (ds.drop (i + 1)) acc κ'),
        fun H' hN => ⟨m - 1, by omega, hN⟩, fun x H'' hy => ?_⟩
      obtain ⟨B2, g3, s3, r⟩ := y4 x H'' hy
      have g3' : Grow F B' ι' H' B2 ι' H'' := g3.less fun _ m => List.mem_cons_of_mem _ m
      have sw : SOk K (Dl :: F) B2 ι' (wipe σ vs) H'' (wipeR ρ vs) κ' := (s.step (g1.trans (g2.trans g3')) s3).wipe vs
      refine ⟨Dl :: F, B2, ι', wipeR ρ vs, κ', .d d, sw, r, ?_⟩
      cases q2 : g (.d d) (wipeR ρ vs) κ' with
      | none => rw [q2] at h2; exact h2
      | some p =>
        obtain ⟨ρ2, κ2⟩ := p
        rw [q2] at h2
        intro σ2 B4 ι4 H2 ew g4 s4
        have g4' : Grow F B2 ι' H'' B4 ι4 H2 := g4.less fun _ m => List.mem_cons_of_mem _ m
        have hlen : σ2.length = σ.length := by rw [ew.1, wipe_length]
        refine ⟨wipe_eq hlen ew.2 ht, ?_⟩
        dsimp only at h2
        refine evT s4 (fun b κ3 e3 B5 ι5 H5 g5 s5 => ?_) (fun n fs κ3 e3 => by rw [e3] at h2; exact h2.elim) (fun e3 => by rw [e3] at h2; exact h2)
        rw [e3] at h2
        have g5' : Grow F B4 ι4 H2 B5 ι5 H5 := g5.less fun _ m => List.mem_cons_of_mem _ m
        have hL5 : H5 Dl = some (.lst vacc) := (g5.fr Dl (List.mem_cons_self ..)).trans ((g4.fr Dl (List.mem_cons_self ..)).trans ((g3.fr Dl (List.mem_cons_self ..)).trans hL))
        have gb := g3'.trans (g4'.trans g5')
        cases b with
        | false =>
          rw [if_neg Bool.false_ne_true]
          exact ⟨B5, ι5, κ3, acc, vacc, g2.trans gb, s5, hL5, ra.mono gb.b, by omega, PostE.grow h2 gb⟩
        | true =>
          rw [if_pos rfl]
          have h2 : PostE K mg E F B' ι' H' Q ((noex (el ρ2 κ3)).bind fun y κ3 => match fz y with
            | .d e => if acc.length < 1000000 then lcGo g t el (wipeR ρ vs) (ds.drop (i + 1)) (acc ++ [e]) κ3 else .bad
            | _ => .bad) := h2
          refine evE (s4.step g5 s5) (fun y κ4 e4 v B6 ι6 H6 g6 s6 w6 => ?_) (fun n fs κ4 e4 => by rw [e4] at h2; exact h2.elim) (fun e4 => by rw [e4] at h2; exact h2)
          rw [e4] at h2
          obtain ⟨B7, s7, g7, w7⟩ := s6.fz w6
          have g67 := g6.trans g7
          have g67' : Grow F B5 ι5 H5 B7 ι6 H6 := g67.less fun _ m => List.mem_cons_of_mem _ m
          dsimp only [noex, Out.bind] at h2
          split at h2
          · rename_i e5 q5
            rw [q5] at w7
            split at h2
            · rename_i hacc
              obtain ⟨s8, g8⟩ := s7.setP (o := .lst (vacc ++ [v])) hDF
              refine ⟨vacc, (g6.fr Dl (List.mem_cons_self ..)).trans hL5, by rw [ra.len]; exact Nat.lt_of_lt_of_le hacc (by decide), B7, ι6, κ4, acc ++ [e5], vacc ++ [v], (g2.trans gb).trans (g67'.trans g8), s8, upd_same, ?_, by omega, PostE.grow h2 (gb.trans (g67'.trans g8))⟩
              exact (ra.mono (gb.trans g67').b).append (.cons w7 .nil)
            · exact h2.elim
          · exact h2.elim
theorem je_lc {elt tg iter : Expr} {ifs : List Expr} {scope : Scope} {own : List (Str × Nat)} {pos : Pos} {src : MI} {g : MG} {t : MT} {el : ME} {ts : List Nat} (hc : X.calm = true) (hN : X.N.Nodup) (hi : JI X E tg iter src) (ok : BlkOk X.N X.env.scope scope own)
    (hg : ∀ (s : Shared) (H : Hp) (C : Addr) (cl : List (Str × Addr)) (fp : List Addr), JG (X.blk s H scope (compEnvC scope cl C X.env) fp) tg g ts) (ht : ∀ (s : Shared) (H : Hp) (C : Addr) (cl : List (Str × Addr)) (fp : List Addr), JTs (X.blk s H scope (compEnvC scope cl C X.env) fp) E0 ifs t)
    (he : ∀ (s : Shared) (H : Hp) (C : Addr) (cl : List (Str × Addr)) (fp : List Addr), JE (X.blk s H scope (compEnvC scope cl C X.env) fp) E0 elt el) (hts : ∀ i ∈ ts, i ∈ own.map (·.2) := by decide) (hs : ∀ x, foldedSetIterable iter X.env x = pure x := by intro _; rfl) :
    JE X E (.ListComp elt [⟨tg, iter, ifs, 0⟩] scope pos) (mLc src g t el (own.map (·.2))) :=
  pe_imp (pe_lc hc hN hi ok hg ht he hs) fun _ _ _ h => lc_imp hts h
theorem js_setLc {i : Nat} {y : Str} {py : Pos} {elt tg iter : Expr} {ifs : List Expr} {scope : Scope} {own : List (Str × Nat)} {pos spos : Pos} {src : MI} {g : MG} {t : MT} {el : ME} {ts : List Nat} (hc : X.calm = true) (hN : X.N.Nodup) (hy : X.N[i]? = some y) (hyl : X.env.scope.names.lookup y = some .local)
    (hsw : swapsWith (.ListComp elt [⟨tg, iter, ifs, 0⟩] scope pos) (some (.Name y py)) spos.line X.env = pure true) (hi : JI X E tg iter src) (ok : BlkOk X.N X.env.scope scope own)
    (hg : ∀ (s : Shared) (H : Hp) (C : Addr) (cl : List (Str × Addr)) (fp : List Addr), JG (X.blk s H scope (compEnvC scope cl C X.env) fp) tg g ts) (ht : ∀ (s : Shared) (H : Hp) (C : Addr) (cl : List (Str × Addr)) (fp : List Addr), JTs (X.blk s H scope (compEnvC scope cl C X.env) fp) E0 ifs t)
    (he : ∀ (s : Shared) (H : Hp) (C : Addr) (cl : List (Str × Addr)) (fp : List Addr), JE (X.blk s H scope (compEnvC scope cl C X.env) fp) E0 elt el) (hts : ∀ i ∈ ts, i ∈ own.map (·.2) := by decide) (hs : ∀ x, foldedSetIterable iter X.env x = pure x := by intro _; rfl) :
    JS X E (.Assign [.Name y py] (.ListComp elt [⟨tg, iter, ifs, 0⟩] scope pos) spos) (mSet i (mLc src g t el (own.map (·.2)))) :=
  ps_imp (ps_setLc hc hN hy hyl hsw hi ok hg ht he hs) fun De σ H h => by
    obtain ⟨F, B, ι, ρ, κ, s, h⟩ := set_imp (m := mLc src g t el (own.map (·.2))) h
    exact lc_imp hts ⟨F, B, ι, ρ, κ, s, h⟩
end
end DL

namespace DL
open L2 PyProof.Rows PySem PySem.Spec
/-! ### tuple * 1, tuple * 0 -/
theorem tuple_mulSame (l : Addr) (items : Array Value) (n : Nat) (dd : Option Addr) (sl : Array (Option Value)) (x : Int) (u : Tok) (c0 : (decide (x < -(2 ^ 63)) || decide (x ≥ 2 ^ 63)) = false) (c1 : (items.isEmpty || x == 1) = true) :
    Meets (Builtin.«tuple.__mul__» ⟨[.ref l, .int x u], []⟩) (fun _ R s => s.heap.get? l = some { cls := .type "tuple", dict := dd, data := .seq items n, slots := sl } ∧ R (.ok (.ret (Value.ref l))) s) :=
  .of_wp fun prog w A R s h => by
    obtain ⟨hp, g, d, tk, os⟩ := s
    obtain ⟨hl, h⟩ := h
    have f1 := AutoSeq1.idx_int
    wp_walk using wpAny_loadPart' hl
    repeat (first
      | (refine wpAny_ite_false (decide_eq_false (by rw [c0]; exact Bool.false_ne_true)) ?_; wp_walk using wpAny_loadPart' hl)
      | (refine wpAny_ite_true (decide_eq_true c1) ?_; wp_walk using wpAny_loadPart' hl))
    exact ⟨_, rfl, h⟩
theorem tuple_mulNone (l : Addr) (items : Array Value) (n : Nat) (dd : Option Addr) (sl : Array (Option Value)) (x : Int) (u : Tok) (c0 : (decide (x < -(2 ^ 63)) || decide (x ≥ 2 ^ 63)) = false) (c1 : (items.isEmpty || x == 1) = false) (c2 : (decide (x ≤ 0) || items.isEmpty) = true) :
    Meets (Builtin.«tuple.__mul__» ⟨[.ref l, .int x u], []⟩) (fun _ R s => s.heap.get? l = some { cls := .type "tuple", dict := dd, data := .seq items n, slots := sl } ∧
      R (.ok (.ret (Value.ref s.heap.objs.size))) { s with heap := s.heap.push { cls := Value.type "tuple", data := Data.seq #[] }, toks := s.toks }) :=
  .of_wp fun prog w A R s h => by
    obtain ⟨hp, g, d, tk, os⟩ := s
    obtain ⟨hl, h⟩ := h
    have f1 := AutoSeq1.idx_int
    wp_walk using wpAny_loadPart' hl
    repeat (first
      | (refine wpAny_ite_false (decide_eq_false (by rw [c0]; exact Bool.false_ne_true)) ?_; wp_walk using wpAny_loadPart' hl)
      | (refine wpAny_ite_false (decide_eq_false (by rw [c1]; exact Bool.false_ne_true)) ?_; wp_walk using wpAny_loadPart' hl)
      | (refine wpAny_ite_true (decide_eq_true c2) ?_; wp_walk using wpAny_loadPart' hl))
    exact ⟨_, rfl, h⟩
def rRepT2 (K : PySem.W.Frag) : R2 := fun x y H Q => ∃ l k xs, x = .ref l ∧ y = .int k ∧ SqT K H l xs ∧ -1000000 ≤ k ∧ k ≤ 1000000 ∧
  ((xs = [] ∨ k = 1) → Q (.ref l) H) ∧ (¬ (xs = [] ∨ k = 1) → k ≤ 0 ∧ ∀ p, H p = none → Q (.ref p) (upd H p (.tup [])))
theorem op_repT2 {X : Cx} : OpR X (binaryOp .Mult) (rRepT2 X.K) := by
  intro pins s σ H x y v u Q I rx ry h
  obtain ⟨l, k, xs, rfl, rfl, hT, h1, h2, q1, q2⟩ := h
  cases rx
  obtain ⟨t, rfl⟩ := ry
  obtain ⟨its, r, ⟨⟨cls, dd, data, sl⟩, ho, hc, n, hd⟩, hs⟩ := I.tuple hT
  simp only at hc hd
  subst hc hd
  have hle : its.length = xs.length := r.length.symm
  have c0 : (decide (k < -(2 ^ 63)) || decide (k ≥ 2 ^ 63)) = false := by
    rw [decide_eq_false (by omega), decide_eq_false (by omega)] <;> rfl
  have hne : (its.toArray.isEmpty || k == 1) = true ↔ (xs = [] ∨ k = 1) := by
    rw [Bool.or_eq_true]
    refine or_congr ?_ beq_iff_eq
    cases its with
    | nil =>
      cases xs with
      | nil => simp
      | cons a b => simp at hle
    | cons a b =>
      cases xs with
      | nil => simp at hle
      | cons c d => simp
  by_cases c1 : (its.toArray.isEmpty || k == 1) = true
  · refine wpAny_binaryOp_repeat_ref (T := "tuple") (U := "int") (by decide) ⟨_, ho, rfl⟩ (fun s' => typeIs_int s' k t) noFill_tuple_mul F.fills_int_mul F.slot_int_rmul repeat_tuple F.slot_int_index.lookup
      (call_meets F.slot_int_rmul (typeIs_int s k t) F.entry_int_rmul (F.args_int_rmul_2 _ _) (int_rmul_tuple k t l its.toArray n dd sl)
        ⟨ho, rfl, ⟨_, ho, rfl⟩, call_meets F.slot_tuple_mul ⟨_, ho, rfl⟩ F.entry_tuple_mul (F.args_tuple_mul_2 _ _) (tuple_mulSame l its.toArray n dd sl k t c0 c1) ⟨ho, ?_⟩⟩)
    exact ⟨.ref l, H, I, rfl, q1 (hne.mp c1)⟩
  · obtain ⟨hk, q⟩ := q2 fun z => c1 (hne.mpr z)
    have c1 : (its.toArray.isEmpty || k == 1) = false := by simpa using c1
    have c2 : (decide (k ≤ 0) || its.toArray.isEmpty) = true := by rw [decide_eq_true hk]; rfl
    refine wpAny_binaryOp_repeat_ref (T := "tuple") (U := "int") (by decide) ⟨_, ho, rfl⟩ (fun s' => typeIs_int s' k t) noFill_tuple_mul F.fills_int_mul F.slot_int_rmul repeat_tuple F.slot_int_index.lookup
      (call_meets F.slot_int_rmul (typeIs_int s k t) F.entry_int_rmul (F.args_int_rmul_2 _ _) (int_rmul_tuple k t l its.toArray n dd sl)
        ⟨ho, rfl, ⟨_, ho, rfl⟩, call_meets F.slot_tuple_mul ⟨_, ho, rfl⟩ F.entry_tuple_mul (F.args_tuple_mul_2 _ _) (tuple_mulNone l its.toArray n dd sl k t c0 c1 c2) ⟨ho, ?_⟩⟩)
    refine ⟨.ref s.heap.objs.size, _, I.laid (t' := s.toks) (o := .tup []) (fun b ob q => Heap.get?_push_of_some _ q) (Nat.le_refl _) ?_, rfl, q _ (I.hok.fresh (Nat.le_refl _))⟩
    exact ⟨Nat.zero_le _, _, .nil, IsTup.new _ _⟩
end DL

namespace DL
open L2 PyProof.Rows PySem PySem.Spec

theorem line16 {n : Nat} (h : n ≤ 16000000) : n ≤ sizeLine := Nat.le_trans h (by decide)
section
variable {K : PySem.W.Frag} {F : List Addr} {B : Hp} {ι : List Addr} {H : Hp} {κ : Kap} {v w : V} {x y z : DV}
/-- what BinI asks, where nothing is made -/
theorem keepQ (s : HSt K F B ι H κ) {d : D} {u : V} (r : Rp K B u d) {Q : VK} (q : ∀ v' B' ι' H', Grow F B ι H B' ι' H' → HSt K F B' ι' H' κ → VOk K F B' ι' H' v' (.d d) → Q v' H') : Q u H := q u B ι H Grow.refl s r
/-- .. where a new list is made -/
theorem newQ (s : HSt K F B ι H κ) {vs : List V} {xs : List D} (r : RpAll K B vs xs) {Q : VK} (q : ∀ v' B' ι' H', Grow F B ι H B' ι' H' → HSt K F B' ι' H' κ → VOk K F B' ι' H' v' (.n xs) → Q v' H') :
    ∀ p, H p = none → Q (.ref p) (upd H p (.lst vs)) := fun p hp => by
  obtain ⟨s1, g1, w1⟩ := s.newN hp r
  exact q _ B ι _ g1 s1 w1
/-- .. a new tuple -/
theorem newT (s : HSt K F B ι H κ) {vs : List V} {xs : List D} (r : RpAll K B vs xs) {Q : VK} (q : ∀ v' B' ι' H', Grow F B ι H B' ι' H' → HSt K F B' ι' H' κ → VOk K F B' ι' H' v' (.d (.tuple xs)) → Q v' H') :
    ∀ p, H p = none → Q (.ref p) (upd H p (.tup vs)) := fun p hp => by
  obtain ⟨s1, g1⟩ := s.new (o := .tup vs) hp
  exact q _ _ ι _ g1 s1 (.tup (.inl (.inl upd_same)) (r.mono g1.b))
end

/-! ### + -/
def addD (κ : Kap) (x y : DV) : Option DV := match x, y with
  | .d (.int a), .d (.int b) => some (.d (.int (a + b)))
  | .d (.str a), .d (.str b) => if a.length + b.length ≤ 16000000 then some (.d (.str (a ++ b))) else none
  | .d (.tuple a), .d (.tuple b) => if a.length + b.length ≤ 16000000 then some (.d (.tuple (a ++ b))) else none
  | x, y => match lv κ x, lv κ y with
    | some a, some b => if a.length + b.length ≤ 16000000 then some (.n (a ++ b)) else none
    | _, _ => none
def rAddAll (K : PySem.W.Frag) : R2 := fun x y H Q => (rI0 (fun i j => .int (i + j))) x y H Q ∨ (∃ i j, x = .str i ∧ y = .str j ∧ i.length + j.length ≤ sizeLine ∧ Q (.str (i ++ j)) H) ∨ rCatA K x y H Q ∨ rCat x y H Q
theorem op_addAll {X : Cx} : OpR X (binaryOp .Add) (rAddAll X.K) := op_add.or (op_add_str.or (op_catA.or op_cat))
theorem addI {K : PySem.W.Frag} : BinI K (rAddAll K) addD := fun F B ι H κ v w x y z s wx wy e Q q => by
  unfold addD at e
  split at e
  · cases e; cases wx; cases wy
    exact .inl ⟨_, _, rfl, rfl, keepQ s (.int _) q⟩
  · split at e
    · rename_i hl
      cases e; cases wx; cases wy
      exact .inr (.inl ⟨_, _, rfl, rfl, line16 hl, keepQ s (.str _) q⟩)
    · cases e
  · rename_i a b
    split at e
    · rename_i hl
      cases e
      obtain ⟨p1, vs1, rfl, h1, r1⟩ := tup_ok s wx
      obtain ⟨p2, vs2, rfl, h2, r2⟩ := tup_ok s wy
      refine .inr (.inr (.inl ⟨p1, p2, vs1, vs2, rfl, rfl, h1, h2, by rw [r1.len, r2.len]; exact line16 hl, fun e => ?_, fun _ e => ?_, fun _ _ => newT s (r1.append r2) q⟩))
      · subst e; cases r1
        exact q _ B ι H Grow.refl s wy
      · subst e; cases r2
        rw [List.append_nil] at q
        exact q _ B ι H Grow.refl s wx
    · cases e
  · split at e
    · rename_i a b ea eb
      split at e
      · rename_i hl
        cases e
        obtain ⟨p1, vs1, rfl, h1, r1⟩ := lv_ok s wx ea
        obtain ⟨p2, vs2, rfl, h2, r2⟩ := lv_ok s wy eb
        exact .inr (.inr (.inr ⟨p1, p2, vs1, vs2, rfl, rfl, h1, h2, by rw [r1.len, r2.len]; exact line16 hl, newQ s (r1.append r2) q⟩))
      · cases e
    · cases e

/-! ### ints -/
def intD (f : Int → Int → Option D) (_ : Kap) (x y : DV) : Option DV := match x, y with
  | .d (.int a), .d (.int b) => (f a b).map .d
  | _, _ => none
theorem intI {K : PySem.W.Frag} {C : Int → Int → Prop} {g : Int → Int → V} {f : Int → Int → Option D} (h : ∀ a b d, f a b = some d → C a b ∧ ∀ H, Rp K H (g a b) d) : BinI K (rI C g) (intD f) := fun F B ι H κ v w x y z s wx wy e Q q => by
  unfold intD at e
  split at e
  · rename_i a b
    cases ef : f a b with
    | none => rw [ef] at e; cases e
    | some d =>
      rw [ef] at e
      cases e
      cases wx; cases wy
      obtain ⟨c, r⟩ := h a b d ef
      exact ⟨_, _, rfl, rfl, c, keepQ s (r B) q⟩
  · cases e
theorem intI0 {K : PySem.W.Frag} {g : Int → Int → V} {f : Int → Int → Option D} (h : ∀ a b d, f a b = some d → ∀ H, Rp K H (g a b) d) : BinI K (rI0 g) (intD f) := fun F B ι H κ v w x y z s wx wy e Q q => by
  unfold intD at e
  split at e
  · rename_i a b
    cases ef : f a b with
    | none => rw [ef] at e; cases e
    | some d =>
      rw [ef] at e
      cases e
      cases wx; cases wy
      exact ⟨_, _, rfl, rfl, keepQ s (h a b d ef B) q⟩
  · cases e
def subF (a b : Int) : Option D := some (.int (a - b))
def modF (a b : Int) : Option D := if 0 < b then some (.int (a % b)) else none
def fdivF (a b : Int) : Option D := if 0 < b ∧ b < 1073741824 then some (.int (a / b)) else none
def powF (a b : Int) : Option D := if 0 ≤ b ∧ b ≤ 1000000 ∧ a.natAbs < 2 ^ 64 then some (.int (a ^ b.toNat)) else none
def ltF (a b : Int) : Option D := some (.bool (decide (a < b)))
def leF (a b : Int) : Option D := some (.bool (decide (a ≤ b)))
def gtF (a b : Int) : Option D := some (.bool (decide (b < a)))
def geF (a b : Int) : Option D := some (.bool (decide (b ≤ a)))
section
variable {K : PySem.W.Frag}
theorem subI : BinI K (rI0 fun i j => .int (i - j)) (intD subF) := intI0 fun a b d e H => by cases e; exact .int _
theorem modI : BinI K (rI (fun _ j => 0 < j) fun i j => .int (i % j)) (intD modF) := intI fun a b d e => by
  unfold modF at e; split at e
  · rename_i h; cases e; exact ⟨h, fun H => .int _⟩
  · cases e
theorem fdivI : BinI K (rI CDiv fun i j => .int (i / j)) (intD fdivF) := intI fun a b d e => by
  unfold fdivF at e; split at e
  · rename_i h; cases e; exact ⟨h, fun H => .int _⟩
  · cases e
theorem powI : BinI K (rI CPow fun i j => .int (i ^ j.toNat)) (intD powF) := intI fun a b d e => by
  unfold powF at e; split at e
  · rename_i h; cases e; exact ⟨h, fun H => .int _⟩
  · cases e
theorem ltI : BinI K (rI0 fun i j => .bl (decide (i < j))) (intD ltF) := intI0 fun a b d e H => by cases e; exact .bl _
theorem leI : BinI K (rI0 fun i j => .bl (decide (i ≤ j))) (intD leF) := intI0 fun a b d e H => by cases e; exact .bl _
theorem gtI : BinI K (rI0 fun i j => .bl (decide (j < i))) (intD gtF) := intI0 fun a b d e H => by cases e; exact .bl _
theorem geI : BinI K (rI0 fun i j => .bl (decide (j ≤ i))) (intD geF) := intI0 fun a b d e H => by cases e; exact .bl _
end

/-! ### * -/
def repS (x : Str) (n : Nat) : Str := ⟨(List.replicate n x.cps.toList).flatten.toArray⟩
theorem foldlA (a : Array Nat) : ∀ (n : Nat) (acc : Array Nat), (List.replicate n a).foldl (· ++ ·) acc = (acc.toList ++ (List.replicate n a.toList).flatten).toArray
  | 0, acc => by simp
  | n + 1, acc => by
    rw [List.replicate_succ, List.foldl_cons, foldlA a n (acc ++ a), List.replicate_succ, List.flatten_cons, Array.toList_append, List.append_assoc]
theorem foldlA0 (a : Array Nat) (n : Nat) : (List.replicate n a).foldl (· ++ ·) #[] = (List.replicate n a.toList).flatten.toArray := by
  rw [foldlA]; rfl
theorem rep_len (n : Nat) (l : List Nat) : (List.replicate n l).flatten.length = n * l.length := by
  induction n with
  | zero => simp
  | succ n ih => rw [List.replicate_succ, List.flatten_cons, List.length_append, ih, Nat.succ_mul]; omega
theorem op_mulS {X : Cx} : OpR X (binaryOp .Mult) (fun x y H Q => ∃ (z : Str) (k : Int), x = .str z ∧ y = .int k ∧ -1000000 ≤ k ∧ k ≤ 1000000 ∧ z.length * k.toNat ≤ 16000000 ∧ Q (.str (repS z k.toNat)) H) := by
  intro pins s σ H x y v u Q I rx ry h
  obtain ⟨z, k, rfl, rfl, h1, h2, hz, q⟩ := h
  obtain ⟨t, rfl⟩ := rx
  obtain ⟨t', rfl⟩ := ry
  refine PySem.P.mul_str ?_ ?_ ?_ ?_
  · rw [decide_eq_false (by omega), decide_eq_false (by omega)]; rfl
  · intro hk hne hgt
    rw [Bool.or_eq_false_iff] at hne
    have hk0 : 0 < k := by omega
    have h3 : (z.length : Int) * k ≤ 16000000 := by
      have : ((z.length * k.toNat : Nat) : Int) ≤ ((16000000 : Nat) : Int) := Int.ofNat_le.mpr hz
      rw [Int.natCast_mul, Int.toNat_of_nonneg (by omega)] at this
      exact this
    have h4 : (2 ^ 63 - 1 : Int) / k * k ≤ (2 ^ 63 - 1 : Int) := Int.ediv_mul_le _ (by omega)
    have h5 : (z.length : Int) ≤ 16000000 := by
      have : (z.length : Int) * 1 ≤ (z.length : Int) * k := Int.mul_le_mul_of_nonneg_left (by omega) (by omega)
      omega
    have h6 : (16000000 : Int) ≤ (2 ^ 63 - 1 : Int) / k := by
      rw [Int.le_ediv_iff_mul_le hk0]
      have : (16000000 : Int) * k ≤ 16000000 * 1000000 := by omega
      omega
    omega
  · intro _ _
    show Builtin.Str.tooLong (z.length * k.toNat) = false
    unfold Builtin.Str.tooLong
    rw [decide_eq_false_iff_not]
    have := line16 hz
    omega
  · have fin : ∀ (y : Str), y = repS z k.toNat → (Made.str y).post (EP X pins σ Q) s := fun y e => by
      refine ⟨?_, ⟨.str _, H, I.tok _, ⟨_, rfl⟩, by rw [e]; exact q⟩⟩
      rw [e]
      refine line16 ?_
      show (List.replicate k.toNat z.cps.toList).flatten.toArray.size ≤ 16000000
      rw [List.size_toArray, rep_len, Array.length_toList, Nat.mul_comm]
      exact hz
    by_cases hk : k < 1
    · rw [if_pos hk]
      refine fin _ ?_
      unfold repS
      rw [show k.toNat = 0 by omega]
      rfl
    · rw [if_neg hk]
      by_cases hc : (k == 1 || z.length == 0) = true
      · rw [if_pos hc]
        have ez : repS z k.toNat = z := by
          rw [Bool.or_eq_true] at hc
          rcases hc with hc | hc
          · have : k = 1 := eq_of_beq hc
            subst this
            show (⟨(z.cps.toList ++ []).toArray⟩ : Str) = z
            rw [List.append_nil, Array.toArray_toList]
          · have hz0 : z.cps = #[] := by
              have : z.cps.size = 0 := eq_of_beq hc
              exact Array.eq_empty_of_size_eq_zero this
            obtain ⟨c⟩ := z
            have hz0 : c = #[] := hz0
            subst hz0
            unfold repS
            have : ∀ n : Nat, (List.replicate n (#[] : Array Nat).toList).flatten = [] := fun n => by
              induction n with
              | zero => rfl
              | succ n ih => rw [List.replicate_succ, List.flatten_cons, ih]; rfl
            rw [this]
        exact ⟨.str z, H, I, ⟨t, rfl⟩, by rw [ez] at q; exact q⟩
      · rw [if_neg hc]
        exact fin _ (by rw [foldlA0]; rfl)
def mulD (κ : Kap) (x y : DV) : Option DV := match x, y with
  | .d (.int a), .d (.int b) => if (-(2 ^ 64) < a ∧ a < 2 ^ 64) ∨ (-(2 ^ 64) < b ∧ b < 2 ^ 64) then some (.d (.int (a * b))) else none
  | .d (.str a), .d (.int k) => if -1000000 ≤ k ∧ k ≤ 1000000 ∧ a.length * k.toNat ≤ 16000000 then some (.d (.str (repS a k.toNat))) else none
  | .d (.tuple a), .d (.int k) => if -1000000 ≤ k ∧ k ≤ 1000 ∧ a.length ≤ 1000 then some (.d (.tuple (List.replicate k.toNat a).flatten)) else none
  | x, .d (.int k) => match lv κ x with
    | some a => if -1000000 ≤ k ∧ k ≤ 1000000 ∧ a.length * k.toNat ≤ 16000000 then some (.n (List.replicate k.toNat a).flatten) else none
    | none => none
  | _, _ => none
def rMulAll (K : PySem.W.Frag) : R2 := fun x y H Q => (rI CMul fun i j => .int (i * j)) x y H Q ∨ (∃ (z : Str) (k : Int), x = .str z ∧ y = .int k ∧ -1000000 ≤ k ∧ k ≤ 1000000 ∧ z.length * k.toNat ≤ 16000000 ∧ Q (.str (repS z k.toNat)) H) ∨ rRepT K x y H Q ∨ rRepT2 K x y H Q ∨ rRep x y H Q
theorem op_mulAll {X : Cx} : OpR X (binaryOp .Mult) (rMulAll X.K) := op_mul.or (op_mulS.or (op_repT.or (op_repT2.or op_rep)))
theorem mulI {K : PySem.W.Frag} : BinI K (rMulAll K) mulD := fun F B ι H κ v w x y z s wx wy e Q q => by
  unfold mulD at e
  split at e
  · split at e
    · rename_i h
      cases e; cases wx; cases wy
      exact .inl ⟨_, _, rfl, rfl, h, keepQ s (.int _) q⟩
    · cases e
  · split at e
    · rename_i h
      cases e; cases wx; cases wy
      exact .inr (.inl ⟨_, _, rfl, rfl, h.1, h.2.1, h.2.2, keepQ s (.str _) q⟩)
    · cases e
  · split at e
    · rename_i h
      cases e; cases wy
      obtain ⟨p1, vs1, rfl, h1, r1⟩ := tup_ok s wx
      rename_i a k
      by_cases g : vs1 = [] ∨ k = 1
      · refine .inr (.inr (.inr (.inl ⟨p1, _, vs1, rfl, rfl, h1, h.1, by omega, fun _ => keepQ s (d := .tuple (List.replicate k.toNat a).flatten) ?_ q, fun n => absurd g n⟩)))
        have ea : (List.replicate k.toNat a).flatten = a := by
          rcases g with g | g
          · subst g
            cases r1
            simp
          · subst g; simp
        rw [ea]; exact wx
      · by_cases g2 : k ≤ 0
        · refine .inr (.inr (.inr (.inl ⟨p1, _, vs1, rfl, rfl, h1, h.1, by omega, fun z => absurd z g, fun _ => ⟨g2, ?_⟩⟩)))
          have ek : k.toNat = 0 := by omega
          rw [ek] at q
          exact newT s (xs := []) .nil q
        · exact .inr (.inr (.inl ⟨p1, _, vs1, rfl, rfl, h1, fun z => g (.inl z), by omega, h.2.1, by rw [r1.len]; exact h.2.2, newT s (r1.rep _) q⟩))
    · cases e
  · split at e
    · rename_i a ea
      split at e
      · rename_i h
        cases e; cases wy
        obtain ⟨p1, vs1, rfl, h1, r1⟩ := lv_ok s wx ea
        exact .inr (.inr (.inr (.inr ⟨p1, _, vs1, rfl, rfl, h1, by omega, by omega, by rw [r1.len]; exact line16 h.2.2, newQ s (r1.rep _) q⟩)))
      · cases e
    · cases e
  · cases e

/-! ### neg, abs, int -/
def negD (_ : Kap) (x : DV) : Option DV := match x with
  | .d (.int a) => some (.d (.int (-a)))
  | _ => none
theorem negI {K : PySem.W.Frag} : UnI K (rU fun i => .int (-i)) negD := fun F B ι H κ v x z s wx e Q q => by
  unfold negD at e
  split at e
  · cases e; cases wx; exact ⟨_, rfl, keepQ s (.int _) q⟩
  · cases e

theorem hasDict_dp {K : PySem.W.Frag} {H : Hp} : ∀ {v : V} {d : D}, Dp K H v d → d.hasDict = false
  | _, _, .non => rfl
  | _, _, .bl _ => rfl
  | _, _, .int _ => rfl
  | _, _, .str _ => rfl
  | _, _, .lst _ r => by simp only [PyData.hasDict]; exact all r
  | _, _, .tup _ r => by simp only [PyData.hasDict]; exact all r
where all {K : PySem.W.Frag} {H : Hp} : ∀ {v : List V} {d : List D}, DpAll K H v d → PyData.hasDictAll d = false
  | _, _, .nil => rfl
  | _, _, .cons h r => by simp only [PyData.hasDictAll]; rw [hasDict_dp h, all r]; rfl
/-! ### == != -/
def dat (κ : Kap) : DV → Option D
  | .d x => if x.hasDict = false then some x else none
  | x => (lv κ x).bind fun xs => if PyData.hasDictAll xs = false then some (.list xs) else none
def eqDV (κ : Kap) (x y : DV) : Option Bool := match dat κ x, dat κ y with
  | some a, some b => if a.depth ≤ 64 then some (PyData.eqv a b) else none
  | _, _ => none
def eqD (κ : Kap) (x y : DV) : Option DV := (eqDV κ x y).map fun b => .d (.bool b)
def neD (κ : Kap) (x y : DV) : Option DV := (eqDV κ x y).map fun b => .d (.bool (!b))
section
variable {K : PySem.W.Frag} {F : List Addr} {B : Hp} {ι : List Addr} {H : Hp} {κ : Kap} {v w : V} {x y : DV}
theorem dat_ok (s : HSt K F B ι H κ) (w : VOk K F B ι H v x) {a : D} (e : dat κ x = some a) : Dp K H v a := by
  have list : ∀ {xs : List D}, lv κ x = some xs → PyData.hasDictAll xs = false → Dp K H v (.list xs) := fun {xs} e1 e2 => by
    obtain ⟨p, vs, rfl, h, r⟩ := lv_ok s w e1
    exact .lst (lst1 h) ((r.mono s.ex).dp e2)
  cases x with
  | d x =>
    simp only [dat] at e
    split at e
    · rename_i h; cases e; exact (Rp.mono s.ex w).dp h
    · cases e
  | c i =>
    simp only [dat] at e
    cases q : lv κ (.c i) with
    | none => rw [q] at e; cases e
    | some xs =>
      rw [q] at e
      simp only [Option.bind_some] at e
      split at e
      · rename_i h; cases e; exact list q h
      · cases e
  | n xs =>
    simp only [dat, lv, Option.bind_some] at e
    split at e
    · rename_i h; cases e; exact list rfl h
    · cases e
theorem plain_of : ∀ d : D, d.hasDict = false → d.plain = true
  | .none, _ => rfl
  | .bool _, _ => rfl
  | .int _, _ => rfl
  | .str _, _ => rfl
  | .list xs, h => by rw [PyData.plain]; rw [PyData.hasDict] at h; exact all xs h
  | .tuple xs, h => by rw [PyData.plain]; rw [PyData.hasDict] at h; exact all xs h
  | .dict _, h => by simp [PyData.hasDict] at h
where all : ∀ xs : List D, PyData.hasDictAll xs = false → PyData.plainAll xs = true
  | [], _ => rfl
  | x :: r, h => by
    rw [PyData.hasDictAll, Bool.or_eq_false_iff] at h
    rw [PyData.plainAll, plain_of x h.1, all r h.2]; rfl
theorem eqDV_ok (s : HSt K F B ι H κ) (wx : VOk K F B ι H v x) (wy : VOk K F B ι H w y) {b : Bool} (e : eqDV κ x y = some b) : ∃ a c, Dp K H v a ∧ Dp K H w c ∧ a.plain = true ∧ c.plain = true ∧ a.depth ≤ 64 ∧ b = PyData.eqv a c := by
  unfold eqDV at e
  split at e
  · rename_i a c ea ec
    split at e
    · rename_i h; cases e; exact ⟨a, c, dat_ok s wx ea, dat_ok s wy ec, plain_of a (hasDict_dp (dat_ok s wx ea)), plain_of c (hasDict_dp (dat_ok s wy ec)), h, rfl⟩
    · cases e
  · cases e
end
def rEqP (K : PySem.W.Frag) : R2 := fun x y H Q => ∃ d e, Dp K H x d ∧ Dp K H y e ∧ d.plain = true ∧ e.plain = true ∧ d.depth ≤ 64 ∧ Q (.bl (PyData.eqv d e)) H
def rNeP (K : PySem.W.Frag) : R2 := fun x y H Q => ∃ d e, Dp K H x d ∧ Dp K H y e ∧ d.plain = true ∧ e.plain = true ∧ d.depth ≤ 64 ∧ Q (.bl (!PyData.eqv d e)) H
section
variable {X : Cx}
theorem op_eqP (hu : X.A.units + 64 < cLine) : OpR X (compareOp .Eq) (rEqP X.K) := by
  intro pins s σ H x y v u Q I rx ry h
  obtain ⟨d, e, hd, he, sd, se, hm, q⟩ := h
  obtain ⟨as, r1⟩ := Dp.reads I d x v hd rx
  obtain ⟨bs, r2⟩ := Dp.reads I e y u he ry
  exact SeqAt.eq_plain r1 r2 sd se (Nat.lt_of_le_of_lt (Nat.add_le_add_left (Nat.le_trans (Nat.min_le_left _ _) hm) _) hu) ⟨.bl _, H, I, rfl, q⟩
theorem op_neP (hu : X.A.units + 64 < cLine) : OpR X (compareOp .NotEq) (rNeP X.K) := by
  intro pins s σ H x y v u Q I rx ry h
  obtain ⟨d, e, hd, he, sd, se, hm, q⟩ := h
  obtain ⟨as, r1⟩ := Dp.reads I d x v hd rx
  obtain ⟨bs, r2⟩ := Dp.reads I e y u he ry
  exact SeqAt.ne_plain r1 r2 sd se (Nat.lt_of_le_of_lt (Nat.add_le_add_left (Nat.le_trans (Nat.min_le_left _ _) hm) _) hu) ⟨.bl _, H, I, rfl, q⟩
end
theorem eqI {K : PySem.W.Frag} : BinI K (rEqP K) eqD := fun F B ι H κ v w x y z s wx wy e Q q => by
  unfold eqD at e
  cases e1 : eqDV κ x y with
  | none => rw [e1] at e; cases e
  | some b =>
    rw [e1] at e; cases e
    obtain ⟨a, c, h1, h2, h3, h4, h5, rfl⟩ := eqDV_ok s wx wy e1
    exact ⟨a, c, h1, h2, h3, h4, h5, keepQ s (.bl _) q⟩
theorem neI {K : PySem.W.Frag} : BinI K (rNeP K) neD := fun F B ι H κ v w x y z s wx wy e Q q => by
  unfold neD at e
  cases e1 : eqDV κ x y with
  | none => rw [e1] at e; cases e
  | some b =>
    rw [e1] at e; cases e
    obtain ⟨a, c, h1, h2, h3, h4, h5, rfl⟩ := eqDV_ok s wx wy e1
    exact ⟨a, c, h1, h2, h3, h4, h5, keepQ s (.bl _) q⟩

/-! ### in, not in -/
def flatD : D → Bool
  | .none => true
  | .bool _ => true
  | .int _ => true
  | .str _ => true
  | _ => false
def inDV (κ : Kap) (x y : DV) : Option Bool := match x, y with
  | .d (.str a), .d (.str b) => if a.cps.size = 1 then some (decide (a.cps.getD 0 0 ∈ b.cps.toList)) else none
  | .d a, .d (.tuple ys) => if flatD a = true ∧ ys.all flatD = true then some (ys.any fun y => PyData.eqv y a) else none
  | .d a, y => match lv κ y with
    | some ys => if flatD a = true ∧ ys.all flatD = true then some (ys.any fun y => PyData.eqv y a) else none
    | none => none
  | _, _ => none
def inD (κ : Kap) (x y : DV) : Option DV := (inDV κ x y).map fun b => .d (.bool b)
def ninD (κ : Kap) (x y : DV) : Option DV := (inDV κ x y).map fun b => .d (.bool (!b))
section
variable {K : PySem.W.Frag} {F : List Addr} {B : Hp} {ι : List Addr} {H : Hp} {κ : Kap} {v w : V} {x y : DV}
theorem flat_of {v : V} {d : D} (r : Rp K B v d) (h : flatD d = true) : flatV v = true := by
  cases r with
  | lst _ _ => cases h
  | tup _ _ => cases h
  | scr _ => cases h
  | fnc _ _ => cases h
  | clo _ _ => cases h
  | dic _ _ => cases h
  | _ => rfl
theorem eqv_of {v u : V} {d e : D} (r : Rp K B v d) (h : flatD d = true) (r2 : Rp K B u e) (h2 : flatD e = true) : eqV v u = PyData.eqv d e := by
  cases r with
  | lst _ _ => cases h
  | tup _ _ => cases h
  | scr _ => cases h
  | fnc _ _ => cases h
  | clo _ _ => cases h
  | dic _ _ => cases h
  | _ =>
    cases r2 with
    | lst _ _ => cases h2
    | tup _ _ => cases h2
    | scr _ => cases h2
    | fnc _ _ => cases h2
    | clo _ _ => cases h2
    | dic _ _ => cases h2
    | _ => first | rfl | simp [eqV, PyData.eqv]
theorem flats_of : ∀ {vs : List V} {ds : List D}, RpAll K B vs ds → ds.all flatD = true → vs.all flatV = true
  | _, _, .nil, _ => rfl
  | _, _, .cons h r, e => by
    rw [List.all_cons, Bool.and_eq_true] at e ⊢
    exact ⟨flat_of h e.1, flats_of r e.2⟩
theorem inV_of {u : V} {d : D} (r : Rp K B u d) (h : flatD d = true) : ∀ {vs : List V} {ds : List D}, RpAll K B vs ds → ds.all flatD = true → inV u vs = ds.any fun y => PyData.eqv y d
  | _, _, .nil, _ => rfl
  | _, _, .cons h1 r1, e => by
    rw [List.all_cons, Bool.and_eq_true] at e
    show (eqV _ u || inV u _) = _
    rw [List.any_cons, inV_of r h r1 e.2, eqv_of h1 e.1 r h]
def rInAll (K : PySem.W.Frag) : R2 := fun x y H Q => rInS x y H Q ∨ rIn K false x y H Q
def rNinAll (K : PySem.W.Frag) : R2 := fun x y H Q => rNotInS x y H Q ∨ rIn K true x y H Q
theorem op_inAll {X : Cx} : OpR X (compareOp .In) (rInAll X.K) := op_inS.or op_in_seq
theorem op_ninAll {X : Cx} : OpR X (compareOp .NotIn) (rNinAll X.K) := op_notInS.or op_notIn_seq
theorem in_ok (s : HSt K F B ι H κ) (wx : VOk K F B ι H v x) (wy : VOk K F B ι H w y) {b : Bool} (e : inDV κ x y = some b) :
    (∃ (c : Nat) (z : Str), v = .str ⟨#[c]⟩ ∧ w = .str z ∧ b = decide (c ∈ z.cps.toList)) ∨ ∃ p xs, w = .ref p ∧ (SqL K H p xs ∨ SqT K H p xs) ∧ flatV v = true ∧ xs.all flatV = true ∧ b = inV v xs := by
  unfold inDV at e
  split at e
  · rename_i a c
    split at e
    · rename_i h
      cases e; cases wx; cases wy
      obtain ⟨a⟩ := a
      obtain ⟨l⟩ := a
      match l, h with
      | [k], _ => exact .inl ⟨k, c, rfl, rfl, rfl⟩
    · cases e
  · split at e
    · rename_i h
      cases e
      obtain ⟨p, vs, rfl, h1, r⟩ := tup_ok s wy
      exact .inr ⟨p, vs, rfl, .inr h1, flat_of wx h.1, flats_of r h.2, (inV_of wx h.1 r h.2).symm⟩
    · cases e
  · split at e
    · rename_i ys ey
      split at e
      · rename_i h
        cases e
        obtain ⟨p, vs, rfl, h1, r⟩ := lv_ok s wy ey
        exact .inr ⟨p, vs, rfl, .inl (lst1 h1), flat_of wx h.1, flats_of r h.2, (inV_of wx h.1 r h.2).symm⟩
      · cases e
    · cases e
  · cases e
end
theorem inI {K : PySem.W.Frag} : BinI K (rInAll K) inD := fun F B ι H κ v w x y z s wx wy e Q q => by
  unfold inD at e
  cases e1 : inDV κ x y with
  | none => rw [e1] at e; cases e
  | some b =>
    rw [e1] at e; cases e
    rcases in_ok s wx wy e1 with ⟨c, z, rfl, rfl, rfl⟩ | ⟨p, xs, rfl, h1, h2, h3, rfl⟩
    · exact .inl ⟨c, z, rfl, rfl, keepQ s (.bl _) q⟩
    · exact .inr ⟨p, xs, rfl, h1, h2, h3, by rw [if_neg Bool.false_ne_true]; exact keepQ s (.bl _) q⟩
theorem ninI {K : PySem.W.Frag} : BinI K (rNinAll K) ninD := fun F B ι H κ v w x y z s wx wy e Q q => by
  unfold ninD at e
  cases e1 : inDV κ x y with
  | none => rw [e1] at e; cases e
  | some b =>
    rw [e1] at e; cases e
    rcases in_ok s wx wy e1 with ⟨c, z, rfl, rfl, rfl⟩ | ⟨p, xs, rfl, h1, h2, h3, rfl⟩
    · exact .inl ⟨c, z, rfl, rfl, keepQ s (.bl _) q⟩
    · exact .inr ⟨p, xs, rfl, h1, h2, h3, by rw [if_pos rfl]; exact keepQ s (.bl _) q⟩

/-! ### is None, is True -/
def isNone : D → Bool
  | .none => true
  | _ => false
def isD (_ : Kap) (x y : DV) : Option DV := match x, y with
  | .d a, .d .none => some (.d (.bool (isNone a)))
  | .n _, .d .none => some (.d (.bool false))
  | .d (.bool a), .d (.bool b) => some (.d (.bool (decide (a = b))))
  | _, _ => none
def isnD (κ : Kap) (x y : DV) : Option DV := match isD κ x y with
  | some (.d (.bool b)) => some (.d (.bool (!b)))
  | _ => none
def rIsAll : R2 := fun x y H Q => (y = .non ∧ Q (.bl (decide (x = .non))) H) ∨ rIsB x y H Q
def rIsnAll : R2 := fun x y H Q => (y = .non ∧ Q (.bl (!decide (x = .non))) H) ∨ rNotB x y H Q
theorem op_isAll {X : Cx} : OpR X (compareOp .Is) rIsAll := op_isN.or op_isBl
theorem op_isnAll {X : Cx} : OpR X (compareOp .IsNot) rIsnAll := op_notN.or op_notBl
theorem is_ok {K : PySem.W.Frag} {F : List Addr} {B : Hp} {ι : List Addr} {H : Hp} {κ : Kap} {v w : V} {x y z : DV} (wx : VOk K F B ι H v x) (wy : VOk K F B ι H w y) (e : isD κ x y = some z) :
    ∃ b, z = .d (.bool b) ∧ ((w = .non ∧ b = decide (v = .non)) ∨ ∃ c d : Bool, v = .bl c ∧ w = .bl d ∧ b = decide (c = d)) := by
  unfold isD at e
  split at e
  · rename_i a
    cases wy
    cases e
    refine ⟨_, rfl, .inl ⟨rfl, ?_⟩⟩
    cases wx <;> rfl
  · cases wy
    cases e
    obtain ⟨p, vs, rfl, _⟩ := wx
    exact ⟨_, rfl, .inl ⟨rfl, rfl⟩⟩
  · cases wx; cases wy; cases e
    exact ⟨_, rfl, .inr ⟨_, _, rfl, rfl, rfl⟩⟩
  · cases e
theorem isI {K : PySem.W.Frag} : BinI K rIsAll isD := fun F B ι H κ v w x y z s wx wy e Q q => by
  obtain ⟨b, rfl, h⟩ := is_ok wx wy e
  rcases h with ⟨rfl, rfl⟩ | ⟨c, d, rfl, rfl, rfl⟩
  · exact .inl ⟨rfl, keepQ s (.bl _) q⟩
  · exact .inr ⟨c, d, rfl, rfl, keepQ s (.bl _) q⟩
theorem isnI {K : PySem.W.Frag} : BinI K rIsnAll isnD := fun F B ι H κ v w x y z s wx wy e Q q => by
  unfold isnD at e
  split at e
  · rename_i b e1
    cases e
    obtain ⟨b', eb, h⟩ := is_ok wx wy e1
    cases eb
    rcases h with ⟨rfl, rfl⟩ | ⟨c, d, rfl, rfl, rfl⟩
    · exact .inl ⟨rfl, keepQ s (.bl _) q⟩
    · exact .inr ⟨c, d, rfl, rfl, keepQ s (.bl _) q⟩
  · cases e
end DL

namespace DL
open L2 PyProof.Rows PySem PySem.Spec

/-! ### reading a list, the script too -/
def lvS (κ : Kap) : DV → Option (List D)
  | .d (.dict [(.none, .list xs)]) => some xs
  | x => lv κ x
section
variable {K : PySem.W.Frag} {F : List Addr} {B : Hp} {ι : List Addr} {H : Hp} {κ : Kap} {v w : V} {x y z : DV}
theorem lvS_ok (s : HSt K F B ι H κ) (w : VOk K F B ι H v x) {xs : List D} (e : lvS κ x = some xs) : ∃ a vs, v = .ref a ∧ SqL K H a vs ∧ RpAll K B vs xs := by
  unfold lvS at e
  split at e
  · cases e
    cases w with
    | scr h => exact ⟨_, _, rfl, s.ex.seq h, RpAll.ints _⟩
    | dic h r => cases r
  · obtain ⟨a, vs, rfl, h, r⟩ := lv_ok s w e
    exact ⟨a, vs, rfl, lst1 h, r⟩

/-! ### x[i] -/
theorem atI_rp {vs : List V} {xs : List D} (r : RpAll K B vs xs) {i : Int} {d : D} (e : atI xs i = some d) : ∃ v, atI vs i = some v ∧ Rp K B v d := by
  unfold atI at e ⊢
  rw [r.len]
  cases q : ixN xs.length i with
  | none => rw [q] at e; cases e
  | some j =>
    rw [q] at e
    obtain ⟨v, h1, h2⟩ := r.get (show xs[j]? = some d from e)
    exact ⟨v, h1, h2⟩
theorem atI_pr {ι : List Addr} {vs : List V} {xs : List DV} (r : Paired (WOk K B ι) vs xs) {i : Int} {d : DV} (e : atI xs i = some d) : ∃ v, atI vs i = some v ∧ WOk K B ι v d := by
  unfold atI at e ⊢
  rw [r.length]
  cases q : ixN xs.length i with
  | none => rw [q] at e; cases e
  | some j =>
    rw [q] at e
    obtain ⟨v, h1, h2⟩ := Paired.getP r (show xs[j]? = some d from e)
    exact ⟨v, h1, h2⟩
def ixD (κ : Kap) (x y : DV) : Option DV := match x, y with
  | .d (.str a), .d (.int i) => if a.length ≤ 16000000 then (atI a.cps.toList i).map fun c => .d (.str ⟨#[c]⟩) else none
  | .d (.tuple xs), .d (.int i) => (atI xs i).map .d
  | .c j, .d (.int i) => match κ[j]? with
    | some (.lst ys) => atI ys i
    | _ => none
  | x, .d (.int i) => match lvS κ x with
    | some xs => (atI xs i).map .d
    | none => none
  | _, _ => none
theorem ixI : BinI K (rIx K) ixD := fun F B ι H κ v w x y z s wx wy e Q q => by
  unfold ixD at e
  split at e
  · rename_i a i
    split at e
    · rename_i hl
      cases e1 : atI a.cps.toList i with
      | none => rw [e1] at e; cases e
      | some c =>
        rw [e1] at e; cases e; cases wx; cases wy
        exact .inr (.inr ⟨a, i, c, rfl, rfl, line16 hl, e1, keepQ s (.str _) q⟩)
    · cases e
  · rename_i xs i
    cases e1 : atI xs i with
    | none => rw [e1] at e; cases e
    | some d =>
      rw [e1] at e; cases e; cases wy
      obtain ⟨p, vs, rfl, h1, r⟩ := tup_ok s wx
      obtain ⟨u, e2, r2⟩ := atI_rp r e1
      exact .inr (.inl ⟨p, vs, i, u, rfl, rfl, h1, e2, keepQ s r2 q⟩)
  · rename_i j i
    split at e
    · rename_i ys ey
      cases wy
      obtain ⟨a, h1, rfl⟩ := wx
      obtain ⟨vs, h2, h3⟩ := s.cel j a _ h1 ey
      obtain ⟨u, e2, r2⟩ := atI_pr h3 e
      exact .inl ⟨a, vs, i, u, rfl, rfl, lst1 h2, e2, q u B ι H Grow.refl s r2.toV⟩
    · cases e
  · rename_i i _ _ _
    split at e
    · rename_i xs ex
      cases e1 : atI xs i with
      | none => rw [e1] at e; cases e
      | some d =>
        rw [e1] at e; cases e; cases wy
        obtain ⟨p, vs, rfl, h1, r⟩ := lvS_ok s wx ex
        obtain ⟨u, e2, r2⟩ := atI_rp r e1
        exact .inl ⟨p, vs, i, u, rfl, rfl, h1, e2, keepQ s r2 q⟩
    · cases e
  · cases e

/-! ### len, list, tuple, int, str, ord, abs -/
def lenD (κ : Kap) (xs : List DV) : Option DV := match xs with
  | [.d (.str a)] => if a.length ≤ 16000000 then some (.d (.int a.length)) else none
  | [.d (.tuple ys)] => some (.d (.int ys.length))
  | [x] => (lvS κ x).map fun ys => .d (.int ys.length)
  | _ => none
theorem lenI : CalI K (fun xs H Q => ∃ x n, xs = [x] ∧ LenV K x H n ∧ Q (.int n) H) lenD := fun F B ι H κ vs xs z s w e Q q => by
  unfold lenD at e
  split at e
  · split at e
    · rename_i a hl
      cases e
      cases w with
      | cons w1 w2 => cases w2; cases w1; exact ⟨_, _, rfl, ⟨line16 hl, rfl⟩, keepQ s (.int _) q⟩
    · cases e
  · cases e
    cases w with
    | cons w1 w2 =>
      cases w2
      obtain ⟨p, us, rfl, h1, r⟩ := tup_ok s w1
      exact ⟨_, _, rfl, .inr ⟨us, h1, r.len.symm⟩, keepQ s (.int _) q⟩
  · rename_i x _ _
    cases e1 : lvS κ x with
    | none => rw [e1] at e; cases e
    | some ys =>
      rw [e1] at e; cases e
      cases w with
      | cons w1 w2 =>
        cases w2
        obtain ⟨p, us, rfl, h1, r⟩ := lvS_ok (F := F) s w1.toV e1
        exact ⟨_, _, rfl, .inl ⟨us, h1, r.len.symm⟩, keepQ s (.int _) q⟩
  · cases e
def listD (κ : Kap) (xs : List DV) : Option DV := match xs with
  | [.d (.tuple ys)] => some (.n ys)
  | [x] => (lvS κ x).map fun ys => .n ys
  | _ => none
theorem listI : CalI K (fun xs H Q => ∃ p ys, xs = [.ref p] ∧ (SqL K H p ys ∨ SqT K H p ys) ∧ ∀ l, H l = none → Q (.ref l) (upd H l (.lst ys))) listD := fun F B ι H κ vs xs z s w e Q q => by
  unfold listD at e
  split at e
  · cases e
    cases w with
    | cons w1 w2 =>
      cases w2
      obtain ⟨p, us, rfl, h1, r⟩ := tup_ok s w1
      exact ⟨p, us, rfl, .inr h1, newQ s r q⟩
  · rename_i x _
    cases e1 : lvS κ x with
    | none => rw [e1] at e; cases e
    | some ys =>
      rw [e1] at e; cases e
      cases w with
      | cons w1 w2 =>
        cases w2
        obtain ⟨p, us, rfl, h1, r⟩ := lvS_ok (F := F) s w1.toV e1
        exact ⟨p, us, rfl, .inl h1, newQ s r q⟩
  · cases e
def tupleD (κ : Kap) (xs : List DV) : Option DV := match xs with
  | [.d (.tuple ys)] => some (.d (.tuple ys))
  | [x] => (lvS κ x).map fun ys => .d (.tuple ys)
  | _ => none
theorem tupleI : CalI K (fun xs H Q => ∃ p ys, xs = [.ref p] ∧ ((SqL K H p ys ∧ ∀ l, H l = none → Q (.ref l) (upd H l (.tup ys))) ∨ (SqT K H p ys ∧ Q (.ref p) H))) tupleD := fun F B ι H κ vs xs z s w e Q q => by
  unfold tupleD at e
  split at e
  · cases e
    cases w with
    | cons w1 w2 =>
      cases w2
      obtain ⟨p, us, rfl, h1, r⟩ := tup_ok s w1
      exact ⟨p, us, rfl, .inr ⟨h1, q _ B ι H Grow.refl s w1⟩⟩
  · rename_i x _
    cases e1 : lvS κ x with
    | none => rw [e1] at e; cases e
    | some ys =>
      rw [e1] at e; cases e
      cases w with
      | cons w1 w2 =>
        cases w2
        obtain ⟨p, us, rfl, h1, r⟩ := lvS_ok (F := F) s w1.toV e1
        exact ⟨p, us, rfl, .inl ⟨h1, newT s r q⟩⟩
  · cases e
def cal1 (f : D → Option D) (_ : Kap) (xs : List DV) : Option DV := match xs with
  | [.d x] => (f x).map .d
  | _ => none
theorem cal1I {r : List V → Hp → VK → Prop} {f : D → Option D} (h : ∀ (B H : Hp) (v : V) (d e : D) (Q : VK), Same B H → Rp K B v d → f d = some e → (∀ u, Rp K B u e → Q u H) → r [v] H Q) : CalI K r (cal1 f) := fun F B ι H κ vs xs z s w e Q q => by
  unfold cal1 at e
  split at e
  · rename_i x
    cases e1 : f x with
    | none => rw [e1] at e; cases e
    | some d =>
      rw [e1] at e; cases e
      cases w with
      | cons w1 w2 =>
        cases w2
        exact h B H _ x d Q s.ex w1 e1 fun u r => keepQ s r q
  · cases e
def intF : D → Option D
  | .int i => some (.int i)
  | .bool b => some (.int (if b then 1 else 0))
  | _ => none
theorem intCI : CalI K (fun xs H Q => (∃ i, xs = [.int i] ∧ Q (.int i) H) ∨ ∃ k, xs = [.bl k] ∧ Q (.int (if k then 1 else 0)) H) (cal1 intF) := cal1I fun B H v d e Q _ r h q => by
  cases r with
  | int i => cases h; exact .inl ⟨_, rfl, q _ (.int _)⟩
  | bl b => cases h; exact .inr ⟨_, rfl, q _ (.int _)⟩
  | _ => cases h
def strF : D → Option D
  | .int i => if i.natAbs.log2 < 1920 then some (.str (toString i)) else none
  | .str x => some (.str x)
  | _ => none
theorem op_strAll {X : Cx} : CallR X (.type "str") (fun xs H Q => (∃ i, xs = [.int i] ∧ i.natAbs.log2 < 1920 ∧ Q (.str (toString i)) H) ∨ ∃ a, xs = [.str a] ∧ Q (.str a) H) := CallR.or call_str_int SkE.call_str_str
theorem strI : CalI K (fun xs H Q => (∃ i : Int, xs = [.int i] ∧ i.natAbs.log2 < 1920 ∧ Q (.str (toString i)) H) ∨ ∃ a, xs = [.str a] ∧ Q (.str a) H) (cal1 strF) := cal1I fun B H v d e Q _ r h q => by
  cases r with
  | int i =>
    simp only [strF] at h
    split at h
    · rename_i hl; cases h; exact .inl ⟨i, rfl, hl, q _ (.str _)⟩
    · cases h
  | str x => simp only [strF, Option.some.injEq] at h; subst h; exact .inr ⟨x, rfl, q _ (.str _)⟩
  | _ => cases h
def ordF : D → Option D
  | .str x => if x.length = 1 then some (.int (x.cps.getD 0 0 : Nat)) else none
  | _ => none
theorem ordI : CalI K (fun xs H Q => ∃ x, xs = [.str x] ∧ x.length = 1 ∧ Q (.int (x.cps.getD 0 0 : Nat)) H) (cal1 ordF) := cal1I fun B H v d e Q _ r h q => by
  cases r with
  | str x =>
    simp only [ordF] at h
    split at h
    · rename_i hl; cases h; exact ⟨x, rfl, hl, q _ (.int _)⟩
    · cases h
  | _ => cases h
def absF : D → Option D
  | .int i => some (.int (if i < 0 then -i else i))
  | _ => none
theorem absI : CalI K (fun xs H Q => ∃ i, xs = [.int i] ∧ Q (.int (if i < 0 then -i else i)) H) (cal1 absF) := cal1I fun B H v d e Q _ r h q => by
  cases r with
  | int i => cases h; exact ⟨i, rfl, q _ (.int _)⟩
  | _ => cases h

/-! ### all, any, sum, max, min -/
def boolsD : List D → Option (List Bool)
  | [] => some []
  | .bool b :: r => (boolsD r).map (b :: ·)
  | _ => none
def intsD : List D → Option (List Int)
  | [] => some []
  | .int b :: r => (intsD r).map (b :: ·)
  | _ => none
theorem bools_ok : ∀ {vs : List V} {ds : List D} {bs : List Bool}, RpAll K B vs ds → boolsD ds = some bs → vs = bs.map V.bl
  | _, _, _, .nil, e => by cases e; rfl
  | _, _, bs, .cons (d := d) (ds := ds) h r, e => by
    cases h with
    | bl b =>
      simp only [boolsD] at e
      cases q : boolsD ds with
      | none => rw [q] at e; cases e
      | some cs => rw [q] at e; cases e; rw [bools_ok r q]; rfl
    | _ => cases e
theorem ints_ok : ∀ {vs : List V} {ds : List D} {bs : List Int}, RpAll K B vs ds → intsD ds = some bs → vs = bs.map V.int
  | _, _, _, .nil, e => by cases e; rfl
  | _, _, bs, .cons (d := d) (ds := ds) h r, e => by
    cases h with
    | int b =>
      simp only [intsD] at e
      cases q : intsD ds with
      | none => rw [q] at e; cases e
      | some cs => rw [q] at e; cases e; rw [ints_ok r q]; rfl
    | _ => cases e
def lstD (f : List D → Option D) (κ : Kap) (xs : List DV) : Option DV := match xs with
  | [x] => (lv κ x).bind fun ys => (f ys).map .d
  | _ => none
theorem lstI {r : List V → Hp → VK → Prop} {f : List D → Option D} (h : ∀ (B H : Hp) (a : Addr) (us : List V) (ys : List D) (e : D) (Q : VK), H a = some (.lst us) → RpAll K B us ys → f ys = some e → (∀ u, Rp K B u e → Q u H) → r [.ref a] H Q) : CalI K r (lstD f) := fun F B ι H κ vs xs z s w e Q q => by
  unfold lstD at e
  split at e
  · rename_i x
    cases e1 : lv κ x with
    | none => rw [e1] at e; cases e
    | some ys =>
      rw [e1] at e
      simp only [Option.bind_some] at e
      cases e2 : f ys with
      | none => rw [e2] at e; cases e
      | some d =>
        rw [e2] at e; cases e
        cases w with
        | cons w1 w2 =>
          cases w2
          obtain ⟨p, us, rfl, h1, r⟩ := lv_ok (F := F) s w1.toV e1
          exact h B H p us ys d Q h1 r e2 fun u r => keepQ s r q
  · cases e
def allF (xs : List D) : Option D := (boolsD xs).map fun bs => .bool (bs.all id)
def anyF (xs : List D) : Option D := (boolsD xs).map fun bs => .bool (bs.any id)
def sumF (xs : List D) : Option D := (intsD xs).map fun bs => .int bs.sum
def maxI : List Int → Int
  | [] => 0
  | [x] => x
  | x :: y :: r => if x ≤ maxI (y :: r) then maxI (y :: r) else x
def minI : List Int → Int
  | [] => 0
  | [x] => x
  | x :: y :: r => if minI (y :: r) ≤ x then minI (y :: r) else x
theorem maxI_mem : ∀ (x : Int) (r : List Int), maxI (x :: r) ∈ x :: r
  | x, [] => by simp [maxI]
  | x, y :: r => by
    simp only [maxI]
    split
    · exact List.mem_cons_of_mem _ (maxI_mem y r)
    · exact List.mem_cons_self ..
theorem maxI_le : ∀ (x : Int) (r : List Int) (z : Int), z ∈ x :: r → z ≤ maxI (x :: r)
  | x, [], z, h => by simp at h; simp [maxI, h]
  | x, y :: r, z, h => by
    simp only [maxI]
    rcases List.mem_cons.mp h with rfl | h
    · split <;> omega
    · have := maxI_le y r z h
      split <;> omega
theorem minI_mem : ∀ (x : Int) (r : List Int), minI (x :: r) ∈ x :: r
  | x, [] => by simp [minI]
  | x, y :: r => by
    simp only [minI]
    split
    · exact List.mem_cons_of_mem _ (minI_mem y r)
    · exact List.mem_cons_self ..
theorem minI_le : ∀ (x : Int) (r : List Int) (z : Int), z ∈ x :: r → minI (x :: r) ≤ z
  | x, [], z, h => by simp at h; simp [minI, h]
  | x, y :: r, z, h => by
    simp only [minI]
    rcases List.mem_cons.mp h with rfl | h
    · split <;> omega
    · have := minI_le y r z h
      split <;> omega
def maxF (xs : List D) : Option D := (intsD xs).bind fun bs => if bs = [] then none else some (.int (maxI bs))
def minF (xs : List D) : Option D := (intsD xs).bind fun bs => if bs = [] then none else some (.int (minI bs))
theorem allI : CalI K (rAll K) (lstD allF) := lstI fun B H a us ys e Q h r ef q => by
  unfold allF at ef
  cases e1 : boolsD ys with
  | none => rw [e1] at ef; cases ef
  | some bs => rw [e1] at ef; cases ef; rw [bools_ok r e1] at h; exact ⟨a, bs, rfl, lst1 h, q _ (.bl _)⟩
theorem anyI : CalI K (rAny K) (lstD anyF) := lstI fun B H a us ys e Q h r ef q => by
  unfold anyF at ef
  cases e1 : boolsD ys with
  | none => rw [e1] at ef; cases ef
  | some bs => rw [e1] at ef; cases ef; rw [bools_ok r e1] at h; exact ⟨a, bs, rfl, lst1 h, q _ (.bl _)⟩
theorem sumI : CalI K (rSum K) (lstD sumF) := lstI fun B H a us ys e Q h r ef q => by
  unfold sumF at ef
  cases e1 : intsD ys with
  | none => rw [e1] at ef; cases ef
  | some bs => rw [e1] at ef; cases ef; rw [ints_ok r e1] at h; exact ⟨a, bs, rfl, lst1 h, q _ (.int _)⟩
theorem maxLI : CalI K (rMax K) (lstD maxF) := lstI fun B H a us ys e Q h r ef q => by
  unfold maxF at ef
  cases e1 : intsD ys with
  | none => rw [e1] at ef; cases ef
  | some bs =>
    rw [e1] at ef
    simp only [Option.bind_some] at ef
    cases bs with
    | nil => rw [if_pos rfl] at ef; cases ef
    | cons x r' =>
      rw [if_neg (by simp)] at ef; cases ef
      rw [ints_ok r e1] at h
      refine ⟨a, x :: r', rfl, lst1 h, by simp, fun m hm hy => ?_⟩
      have h1 := hy _ (maxI_mem x r')
      have h2 := maxI_le x r' m hm
      rw [show m = maxI (x :: r') by omega]
      exact q _ (.int _)
theorem minLI : CalI K (rMin K) (lstD minF) := lstI fun B H a us ys e Q h r ef q => by
  unfold minF at ef
  cases e1 : intsD ys with
  | none => rw [e1] at ef; cases ef
  | some bs =>
    rw [e1] at ef
    simp only [Option.bind_some] at ef
    cases bs with
    | nil => rw [if_pos rfl] at ef; cases ef
    | cons x r' =>
      rw [if_neg (by simp)] at ef; cases ef
      rw [ints_ok r e1] at h
      refine ⟨a, x :: r', rfl, lst1 h, by simp, fun m hm hy => ?_⟩
      have h1 := hy _ (minI_mem x r')
      have h2 := minI_le x r' m hm
      rw [show m = minI (x :: r') by omega]
      exact q _ (.int _)
def max2D (_ : Kap) (xs : List DV) : Option DV := match xs with
  | [.d (.int i), .d (.int j)] => some (.d (.int (if j > i then j else i)))
  | _ => none
def min2D (_ : Kap) (xs : List DV) : Option DV := match xs with
  | [.d (.int i), .d (.int j)] => some (.d (.int (if j < i then j else i)))
  | _ => none
theorem max2I : CalI K (fun xs H Q => ∃ i j, xs = [.int i, .int j] ∧ Q (.int (if j > i then j else i)) H) max2D := fun F B ι H κ vs xs z s w e Q q => by
  unfold max2D at e
  split at e
  · cases e
    cases w with
    | cons w1 w2 => cases w2 with
      | cons w2 w3 => cases w3; cases w1; cases w2; exact ⟨_, _, rfl, keepQ s (.int _) q⟩
  · cases e
theorem min2I : CalI K (fun xs H Q => ∃ i j, xs = [.int i, .int j] ∧ Q (.int (if j < i then j else i)) H) min2D := fun F B ι H κ vs xs z s w e Q q => by
  unfold min2D at e
  split at e
  · cases e
    cases w with
    | cons w1 w2 => cases w2 with
      | cons w2 w3 => cases w3; cases w1; cases w2; exact ⟨_, _, rfl, keepQ s (.int _) q⟩
  · cases e

/-! ### repr -/
def reprD (κ : Kap) (xs : List DV) : Option DV := match xs with
  | [x] => (dat κ x).bind fun d => if d.showable = true ∧ d.shown.length ≤ 16000000 ∧ d.depth ≤ 40 then some (.d (.str d.shown)) else none
  | _ => none
def rRepr (K : PySem.W.Frag) : List V → Hp → VK → Prop := fun xs H Q => ∃ v d, xs = [v] ∧ Dp K H v d ∧ d.showable = true ∧ d.hasDict = false ∧ d.shown.length ≤ 16000000 ∧ d.depth ≤ 40 ∧ Q (.str d.shown) H
end
section
variable {X : Cx}
theorem reprI {K : PySem.W.Frag} : CalI K (rRepr K) reprD := fun F B ι H κ vs xs z s w e Q q => by
  unfold reprD at e
  split at e
  · rename_i x
    cases e1 : dat κ x with
    | none => rw [e1] at e; cases e
    | some d =>
      rw [e1] at e
      simp only [Option.bind_some] at e
      split at e
      · rename_i h
        cases e
        cases w with
        | cons w1 w2 =>
          cases w2
          have dp := dat_ok (F := F) s w1.toV e1
          exact ⟨_, d, rfl, dp, h.1, hasDict_dp dp, h.2.1, h.2.2, keepQ s (.str _) q⟩
      · cases e
  · cases e
end
end DL

namespace DL
open L2 PyProof.Rows PySem PySem.Spec

section
variable {X : Cx}
theorem call_reprG (gu : X.A.guards = some []) (hu : X.A.units + 64 < cLine) : CallR X (.builtin "repr") (rRepr X.K) := by
  intro pins s σ H xs us Q I r h
  obtain ⟨v, d, rfl, dp, hs, hd, hl, hdep, q⟩ := h
  obtain ⟨u, rfl, rx⟩ := vals1 r
  obtain ⟨as, rd⟩ := Dp.reads I d v u dp rx
  have hl := line16 hl
  have fin : ∀ h' t k, (∀ b o, s.heap.get? b = some o → h'.get? b = some o) → EP X pins σ Q (.str d.shown t) { s with heap := h', toks := k } := fun h' t k kp => ⟨.str _, H, I.kept kp, ⟨_, rfl⟩, q⟩
  cases rd with
  | none => exact PySem.P.repr_of_none (fin s.heap _ _ fun _ _ e => e)
  | bool b => exact PySem.P.repr_of_bool (fin s.heap _ _ fun _ _ e => e)
  | int i t => exact PySem.P.repr_of_int (of_decide_eq_true hs) (fin s.heap _ _ fun _ _ e => e)
  | str x t => exact PySem.P.repr_of_str (fin s.heap _ _ fun _ _ e => e) hl
  | list h1 h2 h3 h4 => exact repr_of_reads' (h₀ := s.heap) (.list h1 h2 h3 h4) hs (PyData.noDict_hsm hd) gu (by omega) (fun _ _ e => e) (fun h' u t kp => fin h' u t kp) hl
  | tuple h1 h2 h3 h4 => exact repr_of_reads' (h₀ := s.heap) (.tuple h1 h2 h3 h4) hs (PyData.noDict_hsm hd) gu (by omega) (fun _ _ e => e) (fun h' u t kp => fin h' u t kp) hl
  | dict h1 h2 h3 h4 h5 => simp [PyData.hasDict] at hd
end

/-! ### isinstance -/
def isT (T : String) : D → Bool
  | .none => T == "NoneType"
  | .bool _ => T == "bool" || T == "int"
  | .int _ => T == "int"
  | .str _ => T == "str"
  | .list _ => T == "list"
  | .tuple _ => T == "tuple"
  | .dict _ => T == "dict"
def dvD : DV → D
  | .d x => x
  | .c _ => .list []
  | .n _ => .list []
def tyD : D → String
  | .none => "NoneType"
  | .bool _ => "bool"
  | .int _ => "int"
  | .str _ => "str"
  | .list _ => "list"
  | .tuple _ => "tuple"
  | .dict _ => "dict"
def knownT (T : String) : Bool := T == "int" || T == "bool" || T == "str" || T == "list" || T == "tuple"
theorem kit_known : ∀ T ∈ ["int", "bool", "str", "list", "tuple"], ∀ U ∈ ["NoneType", "bool", "int", "str", "list", "tuple"], kitB U T = some (U == T || (U == "bool" && T == "int")) := by decide +kernel
def isCell (κ : Kap) : DV → Bool
  | .c i => match κ[i]? with
    | some (.lst _) => true
    | _ => false
  | .d (.dict _) => false
  | _ => true
def mIsI (T : String) (m : ME) : ME := fun ρ κ => (m ρ κ).bind fun x κ1 => if isCell κ1 x = true then .ok (.d (.bool (isT T (dvD x)))) κ1 else .bad
def mIsI2 (T U : String) (m : ME) : ME := fun ρ κ => (m ρ κ).bind fun x κ1 => if isCell κ1 x = true then .ok (.d (.bool (isT T (dvD x) || isT U (dvD x)))) κ1 else .bad
section
variable {K : PySem.W.Frag} {F : List Addr} {B : Hp} {ι : List Addr} {H : Hp} {κ : Kap} {v : V} {x : DV}
theorem isT_eq (T : String) (hT : T ∈ ["int", "bool", "str", "list", "tuple"]) (d : D) (hd : ∀ k, d ≠ .dict k) : kitB (tyD d) T = some (isT T d) := by
  have hU : tyD d ∈ ["NoneType", "bool", "int", "str", "list", "tuple"] := by
    cases d with
    | dict k => exact absurd rfl (hd k)
    | _ => simp [tyD]
  rw [kit_known T hT (tyD d) hU]
  congr 1
  revert T
  cases d with
  | dict k => exact absurd rfl (hd k)
  | _ => simp only [tyD, isT] <;> decide
theorem tyOf_tup {a : Addr} {xs : List V} (h : SqT K H a xs) : TyX K H (.ref a) (.type "tuple") := by
  rcases h with (h | ⟨o, h⟩) | ⟨o, its, n, h, h2, _⟩
  · exact .base (.tup h)
  · exact .fTuple h
  · exact .kTuple h h2
theorem tyX_of (s : HSt K F B ι H κ) (w : VOk K F B ι H v x) (hc : isCell κ x = true) : TyX K H v (.type (tyD (dvD x))) ∧ ∀ k, dvD x ≠ .dict k := by
  cases x with
  | d x =>
    cases x with
    | none => cases w; exact ⟨.base .non, fun k => nofun⟩
    | bool b => cases w; exact ⟨.base (.bl b), fun k => nofun⟩
    | int b => cases w; exact ⟨.base (.int b), fun k => nofun⟩
    | str b => cases w; exact ⟨.base (.str b), fun k => nofun⟩
    | list xs => cases w with | lst h r => exact ⟨.base (.lst (s.ex _ _ h)), fun k => nofun⟩
    | tuple xs => cases w with | tup h r => exact ⟨tyOf_tup (same_t s.ex h), fun k => nofun⟩
    | dict k => cases hc
  | c i =>
    obtain ⟨a, h1, rfl⟩ := w
    simp only [isCell] at hc
    split at hc
    · rename_i ys e
      obtain ⟨vs, h2, _⟩ := s.cel i a _ h1 e
      exact ⟨.base (.lst h2), fun k => nofun⟩
    · cases hc
  | n xs =>
    obtain ⟨p, vs, rfl, h1, _⟩ := w
    exact ⟨.base (.lst h1), fun k => nofun⟩
end
section
variable {X : Cx} {E : XK} {e c c2 : Expr} {m : ME} {T U : String} {p pos p2 : Pos}
theorem je_isi (hg : Gl X "isinstance") (hm : X.mg "isinstance" = none) (he : JE X E e m) (hc : PE X c (tC (.ty T))) (hT : T ∈ ["int", "bool", "str", "list", "tuple"])
    (h1 : starEach [e, c] X.env = (false, eval e X.env) :: starEach [c] X.env := by rfl) (h2 : starEach [c] X.env = (false, eval c X.env) :: starEach [] X.env := by rfl) (hpl : (backTo pos (starEach [c] X.env)).any (·.1) = false := by rfl) :
    JE X E (.Call (.Name "isinstance" p) [e, c] [] pos) (mIsI T m) :=
  pe_imp (pe_callB call_isi hg hm (by decide +kernel) (pa_cons he (pa_cons hc pa_nil h2) h1) (by decide) (by decide) h1 hpl) fun σ H Q ⟨F, B, ι, ρ, κ, s, h⟩ => by
    unfold mIsI at h
    refine evE s (fun x κ1 e1 v B1 ι1 H1 g1 s1 w1 => ?_) (fun n fs κ1 e1 => by rw [e1] at h; exact h) (fun e => by rw [e] at h; exact h)
    rw [e1] at h
    dsimp only [Out.bind] at h
    split at h
    · rename_i hx
      obtain ⟨ty, nd⟩ := tyX_of s1 w1 hx
      exact ⟨v, .ty T, _, .type T, _, rfl, .ty T, ty, kit_ty (isT_eq T hT _ nd), h _ B1 ι1 H1 g1 s1 (.bl _)⟩
    · exact h.elim
theorem je_isi2 {k : Nat} (hg : Gl X "isinstance") (hm : X.mg "isinstance" = none) (he : JE X E e m) (hc : PE X c (tC (.ty T))) (hc2 : PE X c2 (tC (.ty U))) (hT : T ∈ ["int", "bool", "str", "list", "tuple"]) (hU : U ∈ ["int", "bool", "str", "list", "tuple"])
    (h1 : starEach [e, .Tuple [c, c2] k p2] X.env = (false, eval e X.env) :: starEach [.Tuple [c, c2] k p2] X.env := by rfl) (h2 : starEach [.Tuple [c, c2] k p2] X.env = (false, eval (.Tuple [c, c2] k p2) X.env) :: starEach [] X.env := by rfl)
    (h3 : starEach [c, c2] X.env = (false, eval c X.env) :: starEach [c2] X.env := by rfl) (h4 : starEach [c2] X.env = (false, eval c2 X.env) :: starEach [] X.env := by rfl)
    (hpl : (backTo pos (starEach [.Tuple [c, c2] k p2] X.env)).any (·.1) = false := by rfl) :
    JE X E (.Call (.Name "isinstance" p) [e, .Tuple [c, c2] k p2] [] pos) (mIsI2 T U m) :=
  pe_imp (pe_callB call_isiT hg hm (by decide +kernel) (pa_cons he (pa_cons (pe_tup (pa_cons hc (pa_cons hc2 pa_nil h4) h3)) pa_nil h2) h1) (by decide) (by decide) h1 hpl) fun σ H Q ⟨F, B, ι, ρ, κ, s, h⟩ => by
    unfold mIsI2 at h
    refine evE s (fun x κ1 e1 v B1 ι1 H1 g1 s1 w1 => ?_) (fun n fs κ1 e1 => by rw [e1] at h; exact h) (fun e => by rw [e] at h; exact h)
    rw [e1] at h
    dsimp only [Out.bind] at h
    split at h
    · rename_i hx
      refine ⟨(by show 2 ≤ sizeLine; decide), fun t ht => ?_⟩
      obtain ⟨F', hF, sF, back⟩ := s1.hold w1
      obtain ⟨s2, g2⟩ := sF.new (o := .tup [.ty T, .ty U]) ht
      obtain ⟨w2, s2', g2'⟩ := back g2 s2
      obtain ⟨ty, nd⟩ := tyX_of s2' w2 hx
      have k1 := kit_ty (K := X.K) (isT_eq T hT _ nd)
      have k2 := kit_ty (K := X.K) (isT_eq U hU _ nd)
      have kk : PySem.W.kitAny X.K (.type (tyD (dvD x))) [.type T, .type U] = some (isT T (dvD x) || isT U (dvD x)) :=
        kitAny_cons k1 (fun ha => by rw [ha, Bool.false_or]; exact kitAny_cons k2 (fun hb => by rw [hb]; rfl) fun hb => hb) fun ha => by rw [ha]; rfl
      exact ⟨v, t, [.ty T, .ty U], _, [.type T, .type U], _, rfl, upd_same, .cons (.ty T) (.cons (.ty U) .nil), ty, kk, h _ _ _ _ (g1.trans g2') s2' (.bl _)⟩
    · exact h.elim
end

/-! ### slices -/
abbrev MO := Rho → Kap → Out (Option Int)
def mNoP : MO := fun _ κ => .ok none κ
def mPt (m : ME) : MO := fun ρ κ => (m ρ κ).bind fun x κ1 => match x with
  | .d (.int i) => .ok (some i) κ1
  | _ => .bad
def tO (K : PySem.W.Frag) (mg : Str → Option Value) (E : XK) (m : MO) : TO := fun σ H Q => ∃ F B ι ρ κ, SOk K F B ι σ H ρ κ ∧ match m ρ κ with
  | .ok o κ' => ∀ B' ι' H', Grow F B ι H B' ι' H' → HSt K F B' ι' H' κ' → Q o H'
  | .ex n fs κ' => XW K mg E F B ι H n fs κ'
  | .bad => False
abbrev JO (X : Cx) (E : XK) (e : Option Expr) (m : MO) : Prop := PO X e (tO X.K X.mg E m)
def cutD (xs : List D) (lo hi : Option Int) : List D := (xs.drop (HT.sIx xs.length 0 lo)).take (HT.sIx xs.length xs.length hi - HT.sIx xs.length 0 lo)
def slD (κ : Kap) (x : DV) (lo hi : Option Int) : Option DV := match x with
  | .d (.str a) => if a.length ≤ 16000000 then some (.d (.str (cutS a lo hi))) else none
  | .d (.tuple xs) => some (.d (.tuple (cutD xs lo hi)))
  | x => (lvS κ x).map fun xs => .n (cutD xs lo hi)
def mSl (f : Kap → DV → Option Int → Option Int → Option DV) (a : ME) (l u : MO) : ME := fun ρ κ => (a ρ κ).bind fun x κ1 => (l ρ κ1).bind fun lo κ2 => (u ρ κ2).bind fun hi κ3 => opt κ3 (f κ3 x lo hi)
def mRev (a : ME) : ME := fun ρ κ => (a ρ κ).bind fun x κ1 => match lvS κ1 x with
  | some xs => .ok (.n xs.reverse) κ1
  | none => .bad
section
variable {X : Cx} {E : XK} {e : Expr} {m : ME} {ml mu : MO} {lo hi : Option Expr} {pos p2 : Pos}
theorem po_imp {e : Option Expr} {t t' : TO} (h : PO X e t) (i : ∀ σ H Q, t' σ H Q → t σ H Q) : PO X e t' := ⟨fun pins s σ H Q I q => h.run pins s σ H Q I (i σ H Q q)⟩
theorem jo_none : JO X E none mNoP := po_imp po_none fun σ H Q ⟨F, B, ι, ρ, κ, s, h⟩ => h B ι H Grow.refl s.hs
theorem jo_some (he : JE X E e m) : JO X E (some e) (mPt m) := po_imp (po_some he) fun σ H Q ⟨F, B, ι, ρ, κ, s, h⟩ => by
  unfold mPt at h
  refine evE s (fun x κ1 e1 v B1 ι1 H1 g1 s1 w1 => ?_) (fun n fs κ1 e1 => by rw [e1] at h; exact h) (fun e => by rw [e] at h; exact h)
  rw [e1] at h
  dsimp only [Out.bind] at h
  split at h
  · rename_i o κ' q
    split at q
    · cases q; cases w1; exact ⟨_, rfl, h B1 ι1 H1 g1 s1⟩
    · cases q
  · rename_i q; split at q <;> cases q
  · exact h.elim
theorem evO {K : PySem.W.Frag} {mg : Str → Option Value} {F : List Addr} {B : Hp} {ι : List Addr} {σ : L2.St} {H : Hp} {ρ : Rho} {κ : Kap} {m : MO} {Q : Option Int → Hp → Prop} (s : SOk K F B ι σ H ρ κ)
    (hok : ∀ x κ1, m ρ κ = .ok x κ1 → ∀ B1 ι1 H1, Grow F B ι H B1 ι1 H1 → HSt K F B1 ι1 H1 κ1 → Q x H1)
    (hex : ∀ n fs κ1, m ρ κ = .ex n fs κ1 → XW K mg E F B ι H n fs κ1) (hb : m ρ κ ≠ .bad) : tO K mg E m σ H Q := by
  refine ⟨F, B, ι, ρ, κ, s, ?_⟩
  cases e : m ρ κ with
  | ok x κ1 => exact hok x κ1 e
  | ex n fs κ1 => exact hex n fs κ1 e
  | bad => exact hb e
theorem cut_rp {K : PySem.W.Frag} {B : Hp} {vs : List V} {xs : List D} (r : RpAll K B vs xs) (lo hi : Option Int) : RpAll K B (cutV vs lo hi) (cutD xs lo hi) := by
  unfold cutV cutD
  rw [r.len]
  exact (r.drop _).take _
theorem sl_all : SlR X (fun x lo hi H Q => rSlS x lo hi H Q ∨ rSlA X.K x lo hi H Q ∨ rSlL X.K x lo hi H Q) := sl_str.or (sl_tupA.or sl_list)
theorem je_sl (he : JE X E e m) (hl : JO X E lo ml) (hu : JO X E hi mu) : JE X E (.Subscript e (.Slice lo hi none p2) pos) (mSl slD m ml mu) :=
  pe_imp (pe_slice sl_all he hl hu) fun σ H Q ⟨F, B, ι, ρ, κ, s, h⟩ => by
    unfold mSl at h
    refine evE s (fun x κ1 e1 v B1 ι1 H1 g1 s1 w1 => ?_) (fun n fs κ1 e1 => by rw [e1] at h; exact h) (fun e => by rw [e] at h; exact h)
    rw [e1] at h
    replace h : PostE X.K X.mg E F B ι H Q ((ml ρ κ1).bind fun lo κ2 => (mu ρ κ2).bind fun hi κ3 => opt κ3 (slD κ3 x lo hi)) := h
    obtain ⟨F', hF, s1', back⟩ := s1.hold w1
    refine evO (s.step g1 s1') (fun lo κ2 e2 B2 ι2 H2 g2 s2 => ?_) (fun n fs κ2 e2 => by rw [e2] at h; exact XW.grow h g1 hF) (fun e2 => by rw [e2] at h; exact h)
    rw [e2] at h
    replace h : PostE X.K X.mg E F B ι H Q ((mu ρ κ2).bind fun hi κ3 => opt κ3 (slD κ3 x lo hi)) := h
    refine evO ((s.step g1 s1').step g2 s2) (fun hi κ3 e3 B3 ι3 H3 g3 s3 => ?_) (fun n fs κ3 e3 => by rw [e3] at h; exact XW.grow h (g1.trans (g2.less hF)) hF) (fun e3 => by rw [e3] at h; exact h)
    rw [e3] at h
    replace h : PostE X.K X.mg E F B ι H Q (opt κ3 (slD κ3 x lo hi)) := h
    obtain ⟨w3, s3', g3'⟩ := back (g2.trans g3) s3
    have gg := g1.trans g3'
    cases q : slD κ3 x lo hi with
    | none => rw [q] at h; exact h.elim
    | some z =>
      rw [q] at h
      replace h : ∀ v B' ι' H', Grow F B ι H B' ι' H' → HSt X.K F B' ι' H' κ3 → VOk X.K F B' ι' H' v z → Q v H' := h
      unfold slD at q
      split at q
      · split at q
        · rename_i hl
          cases q; cases w3
          exact .inl ⟨_, rfl, line16 hl, h _ B3 ι3 H3 gg s3' (.str _)⟩
        · cases q
      · rename_i xs
        cases q
        obtain ⟨p, vs, rfl, h1, r⟩ := tup_ok s3' w3
        refine .inr (.inl ⟨p, vs, rfl, h1, fun hw => ?_, fun _ => newT s3' (cut_rp r lo hi) fun v' B' ι' H' g s' w' => h v' B' ι' H' (gg.trans g) s' w'⟩)
        have e : cutD xs lo hi = xs := by
          unfold cutD
          rw [← r.len, hw.1, hw.2, List.drop_zero, Nat.sub_zero, List.take_of_length_le (Nat.le_of_eq r.len.symm)]
        rw [e] at h
        exact h _ B3 ι3 H3 gg s3' w3
      · cases q1 : lvS κ3 x with
        | none => rw [q1] at q; cases q
        | some xs =>
          rw [q1] at q; cases q
          obtain ⟨p, vs, rfl, h1, r⟩ := lvS_ok s3' w3 q1
          exact .inr (.inr ⟨p, vs, rfl, h1, newQ s3' (cut_rp r lo hi) fun v' B' ι' H' g s' w' => h v' B' ι' H' (gg.trans g) s' w'⟩)
theorem je_rev {k : Nat} {p1 p3 : Pos} (he : JE X E e m) : JE X E (.Subscript e (.Slice none none (some (.UnaryOp .USub (.Constant (.int 1) k p1) p2)) p3) pos) (mRev m) :=
  pe_imp (pe_revL he) fun σ H Q ⟨F, B, ι, ρ, κ, s, h⟩ => by
    unfold mRev at h
    refine evE s (fun x κ1 e1 v B1 ι1 H1 g1 s1 w1 => ?_) (fun n fs κ1 e1 => by rw [e1] at h; exact h) (fun e => by rw [e] at h; exact h)
    rw [e1] at h
    dsimp only [Out.bind] at h
    split at h
    · rename_i xs q
      obtain ⟨p, vs, rfl, h1, r⟩ := lvS_ok s1 w1 q
      exact ⟨p, vs, rfl, h1, newQ s1 r.reverse fun v' B' ι' H' g s' w' => h v' B' ι' H' (g1.trans g) s' w'⟩
    · exact h.elim
end
end DL

namespace DL
open L2 PyProof.Rows PySem PySem.Spec

section
variable {K : PySem.W.Frag} {F : List Addr} {B : Hp} {ι : List Addr} {H : Hp} {κ : Kap} {v : V} {x : DV}
/-- a cell is written -/
theorem HSt.setCell (s : HSt K F B ι H κ) {i : Nat} {a : Addr} (hi : ι[i]? = some a) (hl : κ[i]? ≠ some .dead) {o : HO} {cl : Cell} (hc : ∀ H' : Hp, H' a = some o → COk K B ι H' a cl) :
    HSt K F B ι (upd H a o) (κ.set i cl) ∧ Grow F B ι H B ι (upd H a o) := by
  have ma := List.mem_of_getElem? hi
  have hb := s.out i a hi hl
  refine ⟨⟨fun b u e => ?_, by rw [List.length_set]; exact s.len, s.nd, fun j b m l => ?_, fun b m => ?_, fun j b cl' e1 e2 => ?_, fun b m => ?_, fun q m => let t := s.tb q m; t.to (Same.refl _) (upd_ne fun z => t.2.2.1 (z ▸ ma)) t.2.1 t.2.2.1 t.2.2.2⟩, ⟨Same.refl _, fun _ _ h => h, fun b m => upd_ne (fun (e : b = a) => (s.pro b m).2.2 (e ▸ ma))⟩⟩
  · rw [upd_ne (fun (q : b = a) => by rw [q, hb] at e; cases e)]; exact s.ex b u e
  · by_cases q : i = j
    · subst q; rw [hi] at m; cases m; exact hb
    · rw [List.getElem?_set_ne q] at l; exact s.out j b m l
  · obtain ⟨h1, h2, h3⟩ := s.pro b m
    refine ⟨?_, h2, h3⟩
    rw [upd_ne (fun (e : b = a) => h3 (e ▸ ma))]; exact h1
  · by_cases q : i = j
    · subst q
      rw [hi] at e1
      cases e1
      rw [List.getElem?_set_self (by rw [← s.len]; exact (List.getElem?_eq_some_iff.mp hi).1)] at e2
      cases e2
      exact hc _ upd_same
    · rw [List.getElem?_set_ne q] at e2
      exact (s.cel j b cl' e1 e2).mono (Same.refl _) (fun _ _ h => h) (upd_ne (fun (e : b = a) => q (nd_ix s.nd hi (e ▸ e1))))
  · by_cases q : b = a
    · subst q; exact ⟨_, upd_same⟩
    · rw [upd_ne q]; exact s.tr b m
end

/-! ### methods of a cell -/
/-- what a method does to a list's items, and its value -/
def CelI (r : V → List V → Hp → VK → Prop) (f : List DV → List DV → Option (DV × List DV)) : Prop :=
  ∀ (K : PySem.W.Frag) (B : Hp) (ι : List Addr) (H : Hp) (a : Addr) (us ws : List V) (ys xs : List DV) (z : DV) (ys' : List DV), H a = some (.lst us) → Paired (WOk K B ι) us ys → Paired (WOk K B ι) ws xs → f ys xs = some (z, ys') →
    ∀ Q : VK, (∀ v us', WOk K B ι v z → Paired (WOk K B ι) us' ys' → Q v (upd H a (.lst us'))) → r (.ref a) ws H Q
def mCm (f : List DV → List DV → Option (DV × List DV)) (mo : ME) (ma : MA) : ME := fun ρ κ => (mo ρ κ).bind fun x κ1 => match x with
  | .c i => match κ1[i]? with
    | some (.lst _) => (ma ρ κ1).bind fun xs κ2 => match κ2[i]? with
      | some (.lst ys) => match f ys xs with
        | some (z, ys') => .ok z (κ2.set i (.lst ys'))
        | none => .bad
      | _ => .bad
    | _ => .bad
  | _ => .bad
section
variable {K : PySem.W.Frag} {mg : Str → Option Value} {E : XK}
theorem cm_imp {r : V → List V → Hp → VK → Prop} {f : List DV → List DV → Option (DV × List DV)} {mo : ME} {ma : MA} (hi : CelI r f) {σ : L2.St} {H : Hp} {Q : VK} (h : tM K mg E (mCm f mo ma) σ H Q) : tBM K "list" r (tM K mg E mo) (tA K mg E ma) σ H Q := by
  obtain ⟨F, B, ι, ρ, κ, s, h⟩ := h
  unfold mCm at h
  refine evE s (fun x κ1 e1 v B1 ι1 H1 g1 s1 w1 => ?_) (fun n fs κ1 e1 => by rw [e1] at h; exact h) (fun e => by rw [e] at h; exact h)
  rw [e1] at h
  dsimp only [Out.bind] at h
  split at h
  · rename_i i
    split at h
    · rename_i ys0 e0
      obtain ⟨a, h1, rfl⟩ := w1
      obtain ⟨us0, h0, _⟩ := s1.cel i a _ h1 e0
      refine ⟨.inl ⟨rfl, us0, lst1 h0⟩, ?_⟩
      replace h : PostE K mg E F B ι H Q ((ma ρ κ1).bind fun xs κ2 => match κ2[i]? with
        | some (.lst ys) => match f ys xs with
          | some (z, ys') => .ok z (κ2.set i (.lst ys'))
          | none => .bad
        | _ => .bad) := h
      refine evA (s.step g1 s1) (fun xs κ2 e2 ws B2 ι2 H2 g2 s2 w2 => ?_) (fun n fs κ2 e2 => by rw [e2] at h; exact XW.grow h g1 fun _ m => m) (fun e => by rw [e] at h; exact h)
      rw [e2] at h
      dsimp only [Out.bind] at h
      split at h
      · rename_i ys e3
        split at h
        · rename_i z ys' e4
          have h2 := g2.i i a h1
          obtain ⟨us, h3, p3⟩ := s2.cel i a _ h2 e3
          refine hi K B2 ι2 H2 a us ws ys xs z ys' h3 p3 w2 e4 Q fun v us' wv p' => ?_
          obtain ⟨s3, g3⟩ := s2.setCell h2 (by rw [e3]; simp) (o := .lst us') (cl := .lst ys') fun H' e => ⟨us', e, p'⟩
          exact h v B2 ι2 _ ((g1.trans g2).trans g3) s3 wv.toV
        · exact h.elim
      · exact h.elim
    · exact h.elim
  · exact h.elim
theorem cm0_imp {r : V → List V → Hp → VK → Prop} {f : List DV → List DV → Option (DV × List DV)} {mo : ME} (hi : CelI r f) {σ : L2.St} {H : Hp} {Q : VK} (h : tM K mg E (mCm f mo mNil) σ H Q) : tBM0 K "list" r (tM K mg E mo) σ H Q := by
  obtain ⟨F, B, ι, ρ, κ, s, h⟩ := h
  unfold mCm at h
  refine evE s (fun x κ1 e1 v B1 ι1 H1 g1 s1 w1 => ?_) (fun n fs κ1 e1 => by rw [e1] at h; exact h) (fun e => by rw [e] at h; exact h)
  rw [e1] at h
  dsimp only [Out.bind, mNil] at h
  split at h
  · rename_i i
    split at h
    · rename_i ys0 e0
      obtain ⟨a, h1, rfl⟩ := w1
      obtain ⟨us0, h0, p0⟩ := s1.cel i a _ h1 e0
      refine ⟨.inl ⟨rfl, us0, lst1 h0⟩, ?_⟩
      have e0' : κ1[i]? = some (.lst ys0) := by assumption
      replace h : PostE K mg E F B ι H Q (match κ1[i]? with
        | some (.lst ys) => match f ys [] with
          | some (z, ys') => .ok z (κ1.set i (.lst ys'))
          | none => .bad
        | _ => .bad) := by rw [e0']; exact h
      rw [e0'] at h
      dsimp only at h
      split at h
      · rename_i z ys' e4
        refine hi K B1 ι1 H1 a us0 [] _ [] z ys' h0 p0 .nil e4 Q fun v us' wv p' => ?_
        obtain ⟨s3, g3⟩ := s1.setCell h1 (by first | (rw [e0]; simp) | (rw [e0']; simp)) (o := .lst us') (cl := .lst ys') fun H' e => ⟨us', e, p'⟩
        exact h v B1 ι1 _ (g1.trans g3) s3 wv.toV
      · exact h.elim
    · exact h.elim
  · exact h.elim
end
section
variable {X : Cx} {E : XK} {o e : Expr} {es : List Expr} {name : Str} {apos cpos : Pos} {id : String} {r : V → List V → Hp → VK → Prop} {f : List DV → List DV → Option (DV × List DV)} {mo : ME} {ma : MA}
theorem je_cm (slot : Slot "list" name id) (hty : typeOf (.builtin id) = pure (.type "method_descriptor")) (hm : MtR X id r) (hi : CelI r f) (ho : JE X E o mo) (ha : JA X E (e :: es) ma)
    (hbase : attributeBase o name X.env (eval o X.env) = eval o X.env := by rfl)
    (hfew : ((backTo cpos (starEach (e :: es) X.env)).all (fun x => !x.1) && (backToKw cpos (keywordEach [] X.env)).all (fun x => x.1.isSome)
      && decide ((e :: es).length + ([] : List Keyword).length + (if ([] : List Keyword).isEmpty then 0 else 1) < 30)) = true := by rfl)
    (hline : (apos.endLine == cpos.line) = true := by rfl) (hs : starEach (e :: es) X.env = (false, eval e X.env) :: starEach es X.env := by rfl) (hplain : (backTo cpos (starEach es X.env)).any (·.1) = false := by rfl) :
    JE X E (.Call (.Attribute o name apos) (e :: es) [] cpos) (mCm f mo ma) :=
  pe_imp (pe_bm PySem.F.plainAttrs_list slot hty hm ho ha hbase hfew hline hs hplain) fun _ _ _ h => cm_imp hi h
theorem je_cm0 (slot : Slot "list" name id) (hty : typeOf (.builtin id) = pure (.type "method_descriptor")) (hm : MtR X id r) (hi : CelI r f) (ho : JE X E o mo)
    (hbase : attributeBase o name X.env (eval o X.env) = eval o X.env := by rfl) (hline : (apos.endLine == cpos.line) = true := by rfl) : JE X E (.Call (.Attribute o name apos) [] [] cpos) (mCm f mo mNil) :=
  pe_imp (pe_bm0 PySem.F.plainAttrs_list slot hty hm ho hbase hline) fun _ _ _ h => cm0_imp hi h
end
section
variable {K : PySem.W.Frag} {B : Hp} {ι : List Addr}
theorem pr_take {us : List V} {ys : List DV} (n : Nat) (p : Paired (WOk K B ι) us ys) : Paired (WOk K B ι) (us.take n) (ys.take n) := by
  induction p generalizing n with
  | nil => cases n <;> exact .nil
  | cons h _ ih => cases n with
    | zero => exact .nil
    | succ n => exact .cons h (ih n)
theorem pr_drop {us : List V} {ys : List DV} (n : Nat) (p : Paired (WOk K B ι) us ys) : Paired (WOk K B ι) (us.drop n) (ys.drop n) := by
  induction p generalizing n with
  | nil => cases n <;> exact .nil
  | cons h t ih => cases n with
    | zero => exact .cons h t
    | succ n => exact ih n
theorem pr_app {us ws : List V} {ys xs : List DV} (p : Paired (WOk K B ι) us ys) (q : Paired (WOk K B ι) ws xs) : Paired (WOk K B ι) (us ++ ws) (ys ++ xs) := by
  induction p with
  | nil => exact q
  | cons h _ ih => exact .cons h ih
theorem pr_erase {us : List V} {ys : List DV} (n : Nat) (p : Paired (WOk K B ι) us ys) : Paired (WOk K B ι) (us.eraseIdx n) (ys.eraseIdx n) := by
  induction p generalizing n with
  | nil => exact .nil
  | cons h t ih => cases n with
    | zero => exact t
    | succ n => exact .cons h (ih n)
theorem pr_set {us : List V} {ys : List DV} {v : V} {x : DV} (n : Nat) (w : WOk K B ι v x) (p : Paired (WOk K B ι) us ys) : Paired (WOk K B ι) (us.set n v) (ys.set n x) := by
  induction p generalizing n with
  | nil => exact .nil
  | cons h t ih => cases n with
    | zero => exact .cons w t
    | succ n => exact .cons h (ih n)
theorem pr_rev {us : List V} {ys : List DV} (p : Paired (WOk K B ι) us ys) : Paired (WOk K B ι) us.reverse ys.reverse := by
  induction p with
  | nil => exact .nil
  | cons h _ ih =>
    rw [List.reverse_cons, List.reverse_cons]
    exact pr_app ih (.cons h .nil)
end
def appF (ys xs : List DV) : Option (DV × List DV) := match xs with
  | [x] => if ys.length < 1000000 then some (.d .none, ys ++ [x]) else none
  | _ => none
theorem appI : CelI rAppend appF := fun K B ι H a us ws ys xs z ys' h p w e Q q => by
  unfold appF at e
  split at e
  · split at e
    · rename_i x hl
      cases e
      cases w with
      | cons w1 w2 =>
        cases w2
        exact ⟨a, us, _, rfl, rfl, h, by rw [p.length]; exact Nat.lt_of_lt_of_le hl (by decide), q .non _ .non (pr_app p (.cons w1 .nil))⟩
    · cases e
  · cases e
def insF (ys xs : List DV) : Option (DV × List DV) := match xs with
  | [.d (.int i), x] => if ys.length < 1000000 ∧ 0 ≤ i ∧ i < 1000000 then some (.d .none, ys.take i.toNat ++ [x] ++ ys.drop i.toNat) else none
  | _ => none
def rIns : V → List V → Hp → VK → Prop := fun x vs H Q => ∃ (l : Addr) (xs : List V) (i : Int) (y : V), x = .ref l ∧ vs = [.int i, y] ∧ H l = some (.lst xs) ∧ xs.length < sizeLine ∧ 0 ≤ i ∧ i < 2 ^ 63 ∧ Q .non (upd H l (.lst (xs.take i.toNat ++ [y] ++ xs.drop i.toNat)))
theorem insI : CelI rIns insF := fun K B ι H a us ws ys xs z ys' h p w e Q q => by
  unfold insF at e
  split at e
  · split at e
    · rename_i i x hl
      cases e
      cases w with
      | cons w1 w2 => cases w2 with
        | cons w2 w3 =>
          cases w3; cases w1
          exact ⟨a, us, _, _, rfl, rfl, h, by rw [p.length]; exact Nat.lt_of_lt_of_le hl.1 (by decide), hl.2.1, by omega, q .non _ .non (pr_app (pr_app (pr_take _ p) (.cons w2 .nil)) (pr_drop _ p))⟩
    · cases e
  · cases e
def popF (ys xs : List DV) : Option (DV × List DV) := match xs with
  | [] => (ys[ys.length - 1]?).map fun y => (y, ys.dropLast)
  | _ => none
theorem popI : CelI rPop popF := fun K B ι H a us ws ys xs z ys' h p w e Q q => by
  unfold popF at e
  split at e
  · cases w
    cases e1 : ys[ys.length - 1]? with
    | none => rw [e1] at e; cases e
    | some y =>
      rw [e1] at e; cases e
      obtain ⟨v, h1, h2⟩ := Paired.getP p e1
      refine ⟨a, us, v, rfl, rfl, h, by rw [p.length]; exact h1, q v _ h2 ?_⟩
      rw [List.dropLast_eq_take, List.dropLast_eq_take, p.length]
      exact pr_take _ p
  · cases e
def popAtF (ys xs : List DV) : Option (DV × List DV) := match xs with
  | [.d (.int i)] => if 0 ≤ i ∧ i < 1000000 then (ys[i.toNat]?).map fun y => (y, ys.eraseIdx i.toNat) else none
  | _ => none
theorem popAtI : CelI rPopAt popAtF := fun K B ι H a us ws ys xs z ys' h p w e Q q => by
  unfold popAtF at e
  split at e
  · split at e
    · rename_i i hl
      cases e1 : ys[i.toNat]? with
      | none => rw [e1] at e; cases e
      | some y =>
        rw [e1] at e; cases e
        cases w with
        | cons w1 w2 =>
          cases w2; cases w1
          obtain ⟨v, h1, h2⟩ := Paired.getP p e1
          have hlt : i.toNat < us.length := (List.getElem?_eq_some_iff.mp h1).1
          refine ⟨a, us, i, i.toNat, v, rfl, rfl, h, by omega, by omega, ?_, h1, q v _ h2 (pr_erase _ p)⟩
          have := (ixN_seq (n := us.length) (i := i) (j := i.toNat) (by unfold ixN; rw [if_pos hl.1, if_pos (by omega)])).1
          exact this
    · cases e
  · cases e
def revF (ys xs : List DV) : Option (DV × List DV) := match xs with
  | [] => some (.d .none, ys.reverse)
  | _ => none
theorem revI : CelI rReverse revF := fun K B ι H a us ws ys xs z ys' h p w e Q q => by
  unfold revF at e
  split at e
  · cases e; cases w
    exact ⟨a, us, rfl, rfl, h, q .non _ .non (pr_rev p)⟩
  · cases e

/-! ### x[i] = e -/
def bSub (mo mi : ME) : MG := fun x ρ κ => match mo ρ κ with
  | .ok (.c j) κ1 => match mi ρ κ1 with
    | .ok (.d (.int k)) κ2 => match κ2[j]? with
      | some (.lst ys) => match ixN ys.length k with
        | some n => some (ρ, κ2.set j (.lst (ys.set n x)))
        | none => none
      | _ => none
    | _ => none
  | _ => none
section
variable {X : Cx} {o i : Expr} {mo mi : ME} {pos : Pos}
theorem jg_sub (ho : JE X E0 o mo) (hi : JE X E0 i mi)
    (ha : ∀ v, assign (.Subscript o i pos) X.env v = (do
      let ov ← holding [v] (eval o X.env)
      let iv ← holding [v, ov] (eval i X.env)
      standAt pos
      holding [v, ov, iv] (setItem ov iv v)
      release [v, ov, iv] []) := by intro _; rfl) : JG X (.Subscript o i pos) (bSub mo mi) [] :=
  pg_imp (pg_sub ho hi set_list ha) fun v σ H Q ⟨F, B, ι, ρ, κ, x, s, w, h⟩ => by
    unfold bSub at h
    refine evE s (fun y κ1 e1 u B1 ι1 H1 g1 s1 w1 => ?_) (fun n fs κ1 e1 => by rw [e1] at h; exact h.elim) (fun e => by rw [e] at h; exact h)
    rw [e1] at h
    cases y with
    | d y => exact h.elim
    | n y => exact h.elim
    | c j =>
      dsimp only at h
      refine evE (s.step g1 s1) (fun z κ2 e2 u2 B2 ι2 H2 g2 s2 w2 => ?_) (fun n fs κ1 e2 => by rw [e2] at h; exact h.elim) (fun e => by rw [e] at h; exact h)
      rw [e2] at h
      obtain ⟨a, h1, rfl⟩ := w1
      cases z with
      | c _ => exact h.elim
      | n _ => exact h.elim
      | d z =>
        cases z with
        | int k =>
          dsimp only at h
          cases q1 : κ2[j]? with
          | none => rw [q1] at h; exact h.elim
          | some cl =>
            rw [q1] at h
            cases cl with
            | lst ys =>
              dsimp only at h
              cases q2 : ixN ys.length k with
              | none => rw [q2] at h; exact h.elim
              | some n =>
                rw [q2] at h
                have h2 := g2.i j a h1
                obtain ⟨us, h3, p3⟩ := s2.cel j a _ h2 q1
                cases w2
                have w' := (w.grow g1).grow g2
                obtain ⟨s3, g3⟩ := s2.setCell h2 (by rw [q1]; simp) (o := .lst (us.set n v)) (cl := .lst (ys.set n x)) fun H' e => ⟨_, e, pr_set n w' p3⟩
                exact ⟨a, us, k, n, rfl, rfl, h3, by rw [p3.length]; exact q2, h σ B2 ι2 _ ⟨rfl, fun _ _ => rfl⟩ ((g1.trans g2).trans g3) (s.step ((g1.trans g2).trans g3) s3)⟩
            | _ => exact h.elim
        | _ => exact h.elim
end

/-! ### methods of a text -/
def mMs (f : Kap → Str → List DV → Option DV) (mo : ME) (ma : MA) : ME := fun ρ κ => (mo ρ κ).bind fun x κ1 => match x with
  | .d (.str a) => (ma ρ κ1).bind fun xs κ2 => opt κ2 (f κ2 a xs)
  | _ => .bad
def MsI (K : PySem.W.Frag) (r : V → List V → Hp → VK → Prop) (f : Kap → Str → List DV → Option DV) : Prop :=
  ∀ F B ι H κ a ws xs z, HSt K F B ι H κ → Paired (WOk K B ι) ws xs → f κ a xs = some z → ∀ Q : VK,
    (∀ v' B' ι' H', Grow F B ι H B' ι' H' → HSt K F B' ι' H' κ → VOk K F B' ι' H' v' z → Q v' H') → r (.str a) ws H Q
section
variable {K : PySem.W.Frag} {mg : Str → Option Value} {E : XK}
theorem ms_imp {r : V → List V → Hp → VK → Prop} {f : Kap → Str → List DV → Option DV} {mo : ME} {ma : MA} (hi : MsI K r f) {σ : L2.St} {H : Hp} {Q : VK} (h : tM K mg E (mMs f mo ma) σ H Q) : tBM K "str" r (tM K mg E mo) (tA K mg E ma) σ H Q := by
  obtain ⟨F, B, ι, ρ, κ, s, h⟩ := h
  unfold mMs at h
  refine evE s (fun x κ1 e1 v B1 ι1 H1 g1 s1 w1 => ?_) (fun n fs κ1 e1 => by rw [e1] at h; exact h) (fun e => by rw [e] at h; exact h)
  rw [e1] at h
  dsimp only [Out.bind] at h
  split at h
  · rename_i a
    cases w1
    refine ⟨rfl, ?_⟩
    replace h : PostE K mg E F B ι H Q ((ma ρ κ1).bind fun xs κ2 => opt κ2 (f κ2 a xs)) := h
    refine evA (s.step g1 s1) (fun xs κ2 e2 ws B2 ι2 H2 g2 s2 w2 => ?_) (fun n fs κ2 e2 => by rw [e2] at h; exact XW.grow h g1 fun _ m => m) (fun e => by rw [e] at h; exact h)
    rw [e2] at h
    replace h : PostE K mg E F B ι H Q (opt κ2 (f κ2 a xs)) := h
    cases e : f κ2 a xs with
    | none => rw [e] at h; exact h.elim
    | some z =>
      rw [e] at h
      exact hi F B2 ι2 H2 κ2 a ws xs z s2 w2 e Q fun v' B' ι' H' g s' w' => h v' B' ι' H' ((g1.trans g2).trans g) s' w'
  · exact h.elim
theorem ms0_imp {r : V → List V → Hp → VK → Prop} {f : Kap → Str → List DV → Option DV} {mo : ME} (hi : MsI K r f) {σ : L2.St} {H : Hp} {Q : VK} (h : tM K mg E (mMs f mo mNil) σ H Q) : tBM0 K "str" r (tM K mg E mo) σ H Q := by
  obtain ⟨F, B, ι, ρ, κ, s, h⟩ := h
  unfold mMs at h
  refine evE s (fun x κ1 e1 v B1 ι1 H1 g1 s1 w1 => ?_) (fun n fs κ1 e1 => by rw [e1] at h; exact h) (fun e => by rw [e] at h; exact h)
  rw [e1] at h
  dsimp only [Out.bind, mNil] at h
  split at h
  · rename_i a
    cases w1
    refine ⟨rfl, ?_⟩
    replace h : PostE K mg E F B ι H Q (opt κ1 (f κ1 a [])) := h
    cases e : f κ1 a [] with
    | none => rw [e] at h; exact h.elim
    | some z =>
      rw [e] at h
      exact hi F B1 ι1 H1 κ1 a [] [] z s1 .nil e Q fun v' B' ι' H' g s' w' => h v' B' ι' H' (g1.trans g) s' w'
  · exact h.elim
end
section
variable {X : Cx} {E : XK} {o e : Expr} {es : List Expr} {name : Str} {apos cpos : Pos} {id : String} {r : V → List V → Hp → VK → Prop} {f : Kap → Str → List DV → Option DV} {mo : ME} {ma : MA}
theorem je_ms (slot : Slot "str" name id) (hty : typeOf (.builtin id) = pure (.type "method_descriptor")) (hm : MtR X id r) (hi : MsI X.K r f) (ho : JE X E o mo) (ha : JA X E (e :: es) ma)
    (hbase : attributeBase o name X.env (eval o X.env) = eval o X.env := by rfl)
    (hfew : ((backTo cpos (starEach (e :: es) X.env)).all (fun x => !x.1) && (backToKw cpos (keywordEach [] X.env)).all (fun x => x.1.isSome)
      && decide ((e :: es).length + ([] : List Keyword).length + (if ([] : List Keyword).isEmpty then 0 else 1) < 30)) = true := by rfl)
    (hline : (apos.endLine == cpos.line) = true := by rfl) (hs : starEach (e :: es) X.env = (false, eval e X.env) :: starEach es X.env := by rfl) (hplain : (backTo cpos (starEach es X.env)).any (·.1) = false := by rfl) :
    JE X E (.Call (.Attribute o name apos) (e :: es) [] cpos) (mMs f mo ma) :=
  pe_imp (pe_bm PySem.F.plainAttrs_str slot hty hm ho ha hbase hfew hline hs hplain) fun _ _ _ h => ms_imp hi h
theorem je_ms0 (slot : Slot "str" name id) (hty : typeOf (.builtin id) = pure (.type "method_descriptor")) (hm : MtR X id r) (hi : MsI X.K r f) (ho : JE X E o mo)
    (hbase : attributeBase o name X.env (eval o X.env) = eval o X.env := by rfl) (hline : (apos.endLine == cpos.line) = true := by rfl) : JE X E (.Call (.Attribute o name apos) [] [] cpos) (mMs f mo mNil) :=
  pe_imp (pe_bm0 PySem.F.plainAttrs_str slot hty hm ho hbase hline) fun _ _ _ h => ms0_imp hi h
end
def upperF (_ : Kap) (a : Str) (xs : List DV) : Option DV := match xs with
  | [] => if a.length ≤ 5000000 then some (.d (.str (Txt.upper a))) else none
  | _ => none
def lowerF (_ : Kap) (a : Str) (xs : List DV) : Option DV := match xs with
  | [] => if a.length ≤ 5000000 then some (.d (.str (Txt.lower a))) else none
  | _ => none
def stripF (_ : Kap) (a : Str) (xs : List DV) : Option DV := match xs with
  | [.d (.str b)] => if a.length ≤ 16000000 then some (.d (.str (Txt.stripChars a b))) else none
  | _ => none
def strsD : List D → Option (List Str)
  | [] => some []
  | .str b :: r => (strsD r).map (b :: ·)
  | _ => none
def seqD (κ : Kap) : DV → Option (List D)
  | .d (.tuple ys) => some ys
  | y => lv κ y
def joinF (κ : Kap) (a : Str) (xs : List DV) : Option DV := match xs with
  | [y] => ((seqD κ y).bind strsD).bind fun (ys : List Str) => if (ys.map (·.length)).sum + ys.length * a.length ≤ 16000000 then some (.d (.str (Txt.join a ys))) else none
  | _ => none
section
variable {K : PySem.W.Frag}
theorem upperI : MsI K (fun x xs H Q => ∃ a, x = .str a ∧ xs = [] ∧ a.length ≤ 5592405 ∧ Q (.str (Txt.upper a)) H) upperF := fun F B ι H κ a ws xs z s w e Q q => by
  unfold upperF at e
  split at e
  · split at e
    · rename_i hl; cases e; cases w; exact ⟨_, rfl, rfl, by omega, keepQ s (.str _) q⟩
    · cases e
  · cases e
theorem lowerI : MsI K (fun x xs H Q => ∃ a, x = .str a ∧ xs = [] ∧ a.length ≤ 5592405 ∧ Q (.str (Txt.lower a)) H) lowerF := fun F B ι H κ a ws xs z s w e Q q => by
  unfold lowerF at e
  split at e
  · split at e
    · rename_i hl; cases e; cases w; exact ⟨_, rfl, rfl, by omega, keepQ s (.str _) q⟩
    · cases e
  · cases e
theorem stripI : MsI K (fun x xs H Q => ∃ a b, x = .str a ∧ xs = [.str b] ∧ a.length ≤ sizeLine ∧ Q (.str (Txt.stripChars a b)) H) stripF := fun F B ι H κ a ws xs z s w e Q q => by
  unfold stripF at e
  split at e
  · split at e
    · rename_i hl; cases e
      cases w with
      | cons w1 w2 => cases w2; cases w1; exact ⟨_, _, rfl, rfl, line16 hl, keepQ s (.str _) q⟩
    · cases e
  · cases e
theorem strs_ok {B : Hp} : ∀ {vs : List V} {ds : List D} {bs : List Str}, RpAll K B vs ds → strsD ds = some bs → vs = bs.map V.str
  | _, _, _, .nil, e => by cases e; rfl
  | _, _, bs, .cons (d := d) (ds := ds) h r, e => by
    cases h with
    | str b =>
      simp only [strsD] at e
      cases q : strsD ds with
      | none => rw [q] at e; cases e
      | some cs => rw [q] at e; cases e; rw [strs_ok r q]; rfl
    | _ => cases e
theorem seqD_ok {F : List Addr} {B : Hp} {ι : List Addr} {H : Hp} {κ : Kap} {v : V} {x : DV} (s : HSt K F B ι H κ) (w : VOk K F B ι H v x) {xs : List D} (e : seqD κ x = some xs) : ∃ a vs, v = .ref a ∧ (SqL K H a vs ∨ SqT K H a vs) ∧ RpAll K B vs xs := by
  unfold seqD at e
  split at e
  · cases e
    obtain ⟨p, vs, rfl, h, r⟩ := tup_ok s w
    exact ⟨p, vs, rfl, .inr h, r⟩
  · obtain ⟨p, vs, rfl, h, r⟩ := lv_ok s w e
    exact ⟨p, vs, rfl, .inl (lst1 h), r⟩
theorem joinI : MsI K (fun x xs H Q => ∃ a p, ∃ ys : List Str, x = .str a ∧ xs = [.ref p] ∧ (SqL K H p (ys.map V.str) ∨ SqT K H p (ys.map V.str)) ∧
    (ys.map (·.length)).sum + ys.length * a.length ≤ 16777216 ∧ Q (.str (Txt.join a ys)) H) joinF := fun F B ι H κ a ws xs z s w e Q q => by
  unfold joinF at e
  split at e
  · rename_i y
    cases w with
    | cons w1 w2 =>
      cases w2
      cases e1 : seqD κ y with
      | none => rw [e1] at e; cases e
      | some ys =>
        rw [e1] at e
        simp only [Option.bind_some] at e
        cases e2 : strsD ys with
        | none => rw [e2] at e; cases e
        | some zs =>
          rw [e2] at e
          simp only [Option.bind_some] at e
          split at e
          · rename_i hl
            cases e
            obtain ⟨p, vs, rfl, h1, r⟩ := seqD_ok (F := F) s w1.toV e1
            rw [strs_ok r e2] at h1
            exact ⟨a, p, zs, rfl, rfl, h1, by omega, keepQ s (.str _) q⟩
          · cases e
  · cases e
end

/-! ### chains -/
def mChain (f g : Kap → DV → DV → Option DV) (a b c : ME) : ME := fun ρ κ => (a ρ κ).bind fun x κ1 => (b ρ κ1).bind fun y κ2 => match f κ2 x (fz y) with
  | some (.d (.bool true)) => (c ρ κ2).bind fun z κ3 => opt κ3 (g κ3 (fz y) z)
  | some (.d (.bool false)) => .ok (.d (.bool false)) κ2
  | _ => .bad
section
variable {K : PySem.W.Frag} {mg : Str → Option Value} {E : XK}
theorem chain_imp {r r' : R2} {f g : Kap → DV → DV → Option DV} {ma mb mc : ME} (hi : BinI K r f) (hi' : BinI K r' g) {σ : L2.St} {H : Hp} {Q : VK} (h : tM K mg E (mChain f g ma mb mc) σ H Q) : tChain r r' (tM K mg E ma) (tM K mg E mb) (tM K mg E mc) σ H Q := by
  obtain ⟨F, B, ι, ρ, κ, s, h⟩ := h
  unfold mChain at h
  refine evE s (fun x κ1 e1 v B1 ι1 H1 g1 s1 w1 => ?_) (fun n fs κ1 e1 => by rw [e1] at h; exact h) (fun e => by rw [e] at h; exact h)
  rw [e1] at h
  obtain ⟨F', hF, s1', back⟩ := s1.hold w1
  replace h : PostE K mg E F B ι H Q ((mb ρ κ1).bind fun y κ2 => match f κ2 x (fz y) with
    | some (.d (.bool true)) => (mc ρ κ2).bind fun z κ3 => opt κ3 (g κ3 (fz y) z)
    | some (.d (.bool false)) => .ok (.d (.bool false)) κ2
    | _ => .bad) := h
  refine evE (s.step g1 s1') (fun y κ2 e2 w B2 ι2 H2 g2 s2 w2 => ?_) (fun n fs κ2 e2 => by rw [e2] at h; exact XW.grow h g1 hF) (fun e => by rw [e] at h; exact h)
  rw [e2] at h
  obtain ⟨B3, s3, g3, w3⟩ := s2.fz w2
  obtain ⟨w1', s3', g3'⟩ := back (g2.trans g3) s3
  have so := s.step (g1.trans g3') s3'
  dsimp only [Out.bind] at h
  split at h
  · rename_i ef
    refine hi F B3 ι2 H2 κ2 v w x (fz y) _ s3' w1' w3.toV ef _ fun z' B4 ι4 H4 g4 s4 w4 => ?_
    cases w4
    refine ⟨true, rfl, ?_⟩
    rw [if_pos rfl]
    replace h : PostE K mg E F B ι H Q ((mc ρ κ2).bind fun z κ3 => opt κ3 (g κ3 (fz y) z)) := h
    refine evE (so.step g4 s4) (fun z κ5 e5 u B5 ι5 H5 g5 s5 w5 => ?_) (fun n fs κ2 e2 => by rw [e2] at h; exact XW.grow h ((g1.trans g3').trans g4) fun _ m => m) (fun e => by rw [e] at h; exact h)
    rw [e5] at h
    replace h : PostE K mg E F B ι H Q (opt κ5 (g κ5 (fz y) z)) := h
    cases q : g κ5 (fz y) z with
    | none => rw [q] at h; exact h.elim
    | some z2 =>
      rw [q] at h
      exact hi' F B5 ι5 H5 κ5 w u (fz y) z z2 s5 ((w3.grow g4).grow g5).toV w5 q Q fun v' B' ι' H' g s' w' => h v' B' ι' H' (((((g1.trans g3').trans g4).trans g5)).trans g) s' w'
  · rename_i ef
    refine hi F B3 ι2 H2 κ2 v w x (fz y) _ s3' w1' w3.toV ef _ fun z' B4 ι4 H4 g4 s4 w4 => ?_
    cases w4
    exact ⟨false, rfl, by rw [if_neg Bool.false_ne_true]; exact h _ B4 ι4 H4 ((g1.trans g3').trans g4) s4 (.bl _)⟩
  · exact h.elim
end
section
variable {X : Cx} {E : XK} {a b c : Expr} {ma mb mc : ME} {pos : Pos} {op op' : CmpOp} {r r' : R2} {f g : Kap → DV → DV → Option DV}
theorem je_chain (ho : OpR X (compareOp op) r) (hi : BinI X.K r f) (ho' : OpR X (compareOp op') r') (hi' : BinI X.K r' g) (ha : JE X E a ma) (hb : JE X E b mb) (hc : JE X E c mc)
    (hm : lastMarks [op, op'] [b, c] = false := by with_unfolding_all rfl) : JE X E (.Compare a [op, op'] [b, c] pos) (mChain f g ma mb mc) :=
  pe_imp (pe_chain ho ho' ha hb hc hm) fun _ _ _ h => chain_imp hi hi' h
theorem jt_chain (ho : OpR X (compareOp op) r) (hi : BinI X.K r f) (ho' : OpR X (compareOp op') r') (hi' : BinI X.K r' g) (ha : JE X E a ma) (hb : JE X E b mb) (hc : JE X E c mc)
    (hm : lastMarks [op, op'] [b, c] = false := by with_unfolding_all rfl) : JT X E (.Compare a [op, op'] [b, c] pos) (mTb (mChain f g ma mb mc)) :=
  pt_imp (pt_chain ho ho' ha hb hc hm) fun _ _ _ h => chain_imp hi hi' (tb_imp h)
end
end DL

namespace DL
open L2 PyProof.Rows PySem PySem.Spec

/-- a def of the text that keeps its mirror -/
structure Cal (P : Program) (w : World) (K : PySem.W.Frag) (mg : Str → Option Value) (base : Heap) (k : Nat) (x : Str) (st : Stmt) (ps : List Str) (m : MF) : Prop where
  ex : ∃ f fd, Fun K x x st f fd ∧ Binds K fd ps [] ∧ FnG P w K mg base CX0 k f fd ps (spM K mg ps.length m) ∧ mg x = some (.ref f)
  na : NArgs m ps.length
section
variable {X : Cx} {k : Nat} {st : Stmt} {ps : List Str} {m : MF} {x : Str} {p pos : Pos} {e : Expr} {es : List Expr} {ma : MA}
theorem je_callC (gu : X.A.guards = some []) (hr : Room k X.A) (C : Cal X.prog X.w X.K X.mg X.base k x st ps m) (ha : JA X E0 (e :: es) ma) (hg : Gl X x := by rfl) (hdb : (x == ("__debug__" : Str)) = false := by decide) (he : starEach (e :: es) X.env = (false, eval e X.env) :: starEach es X.env := by rfl) (hpl : (backTo pos (starEach es X.env)).any (·.1) = false := by rfl) :
    JE X E0 (.Call (.Name x p) (e :: es) [] pos) (mCall m ma) := by
  obtain ⟨f, fd, Fu, hb, Fo, hm⟩ := C.ex
  exact je_call gu Fo C.na hr hg hm Fu.kp hb ha hdb he hpl
theorem je_callC0 (gu : X.A.guards = some []) (hr : Room k X.A) (C : Cal X.prog X.w X.K X.mg X.base k x st ps m) (hg : Gl X x := by rfl) (hdb : (x == ("__debug__" : Str)) = false := by decide) : JE X E0 (.Call (.Name x p) [] [] pos) (mCall m mNil) := by
  obtain ⟨f, fd, Fu, hb, Fo, hm⟩ := C.ex
  exact je_call0 gu Fo C.na hr hg hm Fu.kp hb hdb
end
theorem Cal.more {P : Program} {w : World} {K : PySem.W.Frag} {mg : Str → Option Value} {base : Heap} {j k : Nat} {x : Str} {st : Stmt} {ps : List Str} {m : MF} (C : Cal P w K mg base j x st ps m) (h : j ≤ k) : Cal P w K mg base k x st ps m := by
  obtain ⟨⟨f, fd, a, b, c, d⟩, n⟩ := C
  exact ⟨⟨f, fd, a, b, c.more h, d⟩, n⟩

/-! ### calls by keywords alone -/
structure JK (X : Cx) (E : XK) (kws : List Keyword) (m : MA) : Prop where
  pk : PK X kws (tA X.K X.mg E m)
theorem pk_imp {X : Cx} {k : List Keyword} {t t' : TA} (h : PK X k t) (i : ∀ σ H Q, t' σ H Q → t σ H Q) : PK X k t' := ⟨fun p pins s σ H Q I q => h.run p pins s σ H Q I (i σ H Q q)⟩
section
variable {X : Cx} {E : XK} {a : Expr} {ma : ME} {mr : MA} {kws : List Keyword} {nm : Option Str} {kpos : Pos}
theorem jk_nil : JK X E [] mNil := ⟨pk_imp pk_nil fun σ H Q ⟨F, B, ι, ρ, κ, s, h⟩ => h [] B ι H Grow.refl s.hs .nil⟩
theorem jk_cons (ha : JE X E a ma) (hr : JK X E kws mr) : JK X E (⟨nm, a, kpos⟩ :: kws) (mCons ma mr) :=
  ⟨pk_imp (pk_cons ha hr.pk) fun σ H Q ⟨F, B, ι, ρ, κ, s, h⟩ => by
    unfold mCons at h
    refine evE s (fun x κ1 e1 v B1 ι1 H1 g1 s1 w1 => ?_) (fun n fs κ1 e1 => by rw [e1] at h; exact h) (fun e => by rw [e] at h; exact h)
    rw [e1] at h
    replace h : PostA X.K X.mg E F B ι H Q (Out.bind (mr ρ κ1) fun xs κ2 => .ok (fz x :: xs) κ2) := h
    obtain ⟨B1', s1', g1', w1'⟩ := s1.fz w1
    refine evA (s.step (g1.trans g1') s1') (fun xs κ2 e2 vs B2 ι2 H2 g2 s2 w2 => ?_) (fun n fs κ2 e2 => by rw [e2] at h; exact XW.grow h (g1.trans g1') fun _ m => m) (fun e => by rw [e] at h; exact h)
    rw [e2] at h
    exact h (v :: vs) B2 ι2 H2 ((g1.trans g1').trans g2) s2 (.cons (w1'.grow g2) w2)⟩
end
/-- the keywords' values, put in the parameters' order -/
def perm {α : Type} (ix : List Nat) (xs : List α) : List α := ix.filterMap fun i => xs[i]?
def mCallK (ix : List Nat) (n : Nat) (m : MF) (a : MA) : ME := fun ρ κ => (a ρ κ).bind fun xs κ1 => if xs.length = n then m (perm ix xs) κ1 else .bad
theorem perm_pr {α β : Type} {R : α → β → Prop} {xs : List α} {ys : List β} (p : Paired R xs ys) : ∀ ix : List Nat, Paired R (perm ix xs) (perm ix ys)
  | [] => .nil
  | i :: r => by
    have ih := perm_pr p r
    unfold perm at ih ⊢
    rw [List.filterMap_cons, List.filterMap_cons]
    cases q : ys[i]? with
    | none =>
      have : xs[i]? = none := by
        rw [List.getElem?_eq_none_iff] at q ⊢
        rw [p.length]; exact q
      rw [this]; exact ih
    | some b =>
      obtain ⟨a, e, h⟩ := Paired.getP p q
      rw [e]; exact .cons h ih
section
variable {X : Cx} {k : Nat} {st : Stmt} {ps ks : List Str} {m : MF} {x : Str} {p pos : Pos} {kws : List Keyword} {ma : MA} {ix : List Nat}
theorem je_callCK (gu : X.A.guards = some []) (hr : Room k X.A) (C : Cal X.prog X.w X.K X.mg X.base k x st ps m) (hkw : JK X E0 kws ma)
    (hb : ∀ (kV doc pm : Value) (an : Option Addr) (cdv ct : Value) (ws : List Value), ws.length = ks.length → bindArgs (PySem.W.fnOf x x (defArgs st) (defBody st) (defScope st) .none kV doc pm an cdv ct) ⟨[], ks.zip ws⟩ = pure (ps.zip (perm ix ws)))
    (hg : Gl X x := by rfl) (hall : (backToKw pos (keywordEach kws X.env)).all (·.1.isSome) = true := by rfl) (hks : (backToKw pos (keywordEach kws X.env)).filterMap (·.1) = ks := by rfl) (hdb : (x == ("__debug__" : Str)) = false := by decide)
    (hpl : ((backTo pos (starEach [] X.env)).any (·.1) || (backToKw pos (keywordEach kws X.env)).any (·.1.isNone)) = false := by rfl) :
    JE X E0 (.Call (.Name x p) [] kws pos) (mCallK ix ks.length m ma) := by
  obtain ⟨f, fd, Fu, _, Fo, hm⟩ := C.ex
  constructor
  intro pins s σ H Q I h
  refine wpAny_Call_Name_kw (ld_glob I hg hm (PySem.W.callWith_KW0 (h₀ := X.base) I.ok.mod.kin Fu.kp hall ?_ hpl) hdb)
  obtain ⟨F, B, ι, ρ, κ, so, h⟩ := h
  unfold mCallK at h
  refine thn (hkw.pk.run pos pins s σ H (fun vs H1 => spM X.K X.mg ps.length m (perm ix vs) H1 Q E0 ∧ vs.length = ks.length) I ?_) ?_
  · refine evA so (fun xs κ1 e1 vs B1 ι1 H1 g1 s1 w1 => ?_) (fun n fs κ1 e1 => by rw [e1] at h; exact fun C d B' ι' H' ws a b c e f => absurd (h C d B' ι' H' ws a b c e f) id) (fun e => by rw [e] at h; exact h)
    rw [e1] at h
    dsimp only [Out.bind] at h
    split at h
    · rename_i hl
      have hl2 : (perm ix xs).length = ps.length := Decidable.byContradiction fun q => by rw [C.na _ _ q] at h; exact h
      have pp := perm_pr w1 ix
      exact ⟨⟨by rw [pp.length]; exact hl2, F, B1, ι1, perm ix xs, κ1, s1, pp, PostE.grow h g1⟩, by rw [w1.length]; exact hl⟩
    · exact h.elim
  · rintro ws s2 ⟨zs, H2, I2, rz, q2, lz⟩
    refine ⟨I2.kIn, ?_⟩
    rw [hks]
    have lw : ws.length = ks.length := by rw [← rz.length]; exact lz
    obtain ⟨oc, od, kV, doc, pm, an, cdv, ct, osl, rfl, look, code⟩ := Fu.ex
    exact goes Fo gu hr (fun _ => .of_eq (hb kV doc pm an cdv ct ws lw)) pass0 I2 (perm_pr rz ix) q2
end

/-! ### a, b = x, y, stored at once -/
def put (fl : Bool) (x : DV) (κ : Kap) : Option (DV × Kap) := if fl = true then (match x with
  | .n xs => some (.c κ.length, κ ++ [.lst (xs.map .d)])
  | _ => none) else some (fz x, κ)
def addF (v : V) (x : DV) (F : List Addr) : List Addr := match x, v with
  | .n _, .ref p => p :: F
  | _, _ => F
def mPar (i j : Nat) (f1 f2 : Bool) (a b : ME) : MS := fun ρ κ => (a ρ κ).bindS fun x κ1 => (b ρ κ1).bindS fun y κ2 => match put f1 x κ2 with
  | some (x', κ3) => match put f2 y κ3 with
    | some (y', κ4) => .nx ((ρ.set i (some x')).set j (some y')) κ4
    | none => .bad
  | none => .bad
section
variable {K : PySem.W.Frag} {mg : Str → Option Value} {E : XK} {F : List Addr} {B : Hp} {ι : List Addr} {H : Hp} {κ : Kap} {v u : V} {x y : DV}
theorem HSt.put (s : HSt K F B ι H κ) (w : VOk K F B ι H v x) {fl : Bool} {x' : DV} {κ' : Kap} (e : put fl x κ = some (x', κ')) :
    ∃ B' ι', HSt K F B' ι' H κ' ∧ Grow F B ι H B' ι' H ∧ WOk K B' ι' v x' ∧ ∀ u y, VOk K (addF v x F) B ι H u y → VOk K F B' ι' H u y := by
  unfold DL.put at e
  have other : ∀ {B' : Hp} {ι' : List Addr} {p : Addr}, Grow F B ι H B' ι' H → (∀ q, q ≠ p → B q = none → B' q = none) → (∀ q, q ≠ p → q ∉ ι → q ∉ ι') → ∀ u y, VOk K (p :: F) B ι H u y → VOk K F B' ι' H u y := by
    intro B' ι' p g hB hι u y w
    cases y with
    | d y => exact Rp.mono g.b w
    | c i => exact (show WOk K B ι u (.c i) from w).grow g
    | n ys =>
      obtain ⟨q, vs, e, h1, h2, h3, h4, r⟩ := w
      have qp : q ≠ p := fun z => h4 (by rw [z]; exact List.mem_cons_self ..)
      exact ⟨q, vs, e, h1, hB q qp h2, hι q qp h3, fun z => h4 (List.mem_cons_of_mem _ z), r.mono g.b⟩
  cases x with
  | d x =>
    cases fl with
    | true => rw [if_pos rfl] at e; cases e
    | false => rw [if_neg Bool.false_ne_true] at e; cases e; exact ⟨B, ι, s, Grow.refl, w, fun u y h => h⟩
  | c i =>
    cases fl with
    | true => rw [if_pos rfl] at e; cases e
    | false => rw [if_neg Bool.false_ne_true] at e; cases e; exact ⟨B, ι, s, Grow.refl, w, fun u y h => h⟩
  | n xs =>
    obtain ⟨p, vs, rfl, h1, h2, h3, h4, r⟩ := w
    cases fl with
    | true =>
      rw [if_pos rfl] at e; cases e
      obtain ⟨s2, g2, w2⟩ := s.cell h1 h2 h3 h4 r
      refine ⟨B, _, s2, g2, w2, other g2 (fun _ _ h => h) fun q hq hn hm => ?_⟩
      rcases List.mem_append.mp hm with m | m
      · exact hn m
      · exact hq (List.mem_singleton.mp m)
    | false =>
      rw [if_neg Bool.false_ne_true] at e; cases e
      obtain ⟨s2, g2⟩ := s.frz h1 h2 h3 h4
      exact ⟨_, ι, s2, g2, .lst upd_same (r.mono g2.b), other g2 (fun q hq h => by rw [upd_ne hq]; exact h) fun _ _ h => h⟩
theorem HSt.hold2 (s : HSt K F B ι H κ) (w : VOk K F B ι H v x) : (∀ a ∈ F, a ∈ addF v x F) ∧ HSt K (addF v x F) B ι H κ ∧
    ∀ {B' : Hp} {ι' : List Addr} {H' : Hp} {κ' : Kap}, Grow (addF v x F) B ι H B' ι' H' → HSt K (addF v x F) B' ι' H' κ' → VOk K F B' ι' H' v x ∧ HSt K F B' ι' H' κ' ∧ Grow F B ι H B' ι' H' := by
  cases x with
  | d x => exact ⟨fun _ m => m, s, fun g h => ⟨Rp.mono g.b w, h, g⟩⟩
  | c i => exact ⟨fun _ m => m, s, fun g h => ⟨(show WOk K B ι v (.c i) from w).grow g, h, g⟩⟩
  | n xs =>
    obtain ⟨p, vs, rfl, h1, h2, h3, h4, r⟩ := w
    refine ⟨fun _ m => List.mem_cons_of_mem _ m, ⟨s.ex, s.len, s.nd, s.out, fun a m => ?_, s.cel, s.tr, fun q m => let t := s.tb q m; t.to (Same.refl _) rfl t.2.1 t.2.2.1 fun z => (List.mem_cons.mp z).elim (t.ne h1 (by intro _ z; cases z)) t.2.2.2⟩, fun g h => ?_⟩
    · rcases List.mem_cons.mp m with rfl | m
      · exact ⟨⟨_, h1⟩, h2, h3⟩
      · exact s.pro a m
    · obtain ⟨⟨o, e1⟩, e2, e3⟩ := h.pro p (List.mem_cons_self ..)
      exact ⟨⟨p, vs, rfl, (g.fr p (List.mem_cons_self ..)).trans h1, e2, e3, h4, r.mono g.b⟩, h.less fun _ m => List.mem_cons_of_mem _ m, g.less fun _ m => List.mem_cons_of_mem _ m⟩
theorem par_imp {i j : Nat} {f1 f2 : Bool} {ma mb : ME} {De : Ends} {σ : L2.St} {H : Hp} (h : tS K mg E (mPar i j f1 f2 ma mb) De σ H) : tPar i j (tCons (tM K mg E ma) (tCons (tM K mg E mb) tNil)) De σ H := by
  obtain ⟨F, B, ι, ρ, κ, s, h⟩ := h
  unfold mPar at h
  refine evE s (fun x κ1 e1 v B1 ι1 H1 g1 s1 w1 => ?_) (fun n fs κ1 e1 => by rw [e1] at h; exact h) (fun e => by rw [e] at h; exact h)
  rw [e1] at h
  obtain ⟨hF, s1', back⟩ := s1.hold2 w1
  replace h : PostS K mg E F B ι H De ((mb ρ κ1).bindS fun y κ2 => match put f1 x κ2 with
    | some (x', κ3) => match put f2 y κ3 with
      | some (y', κ4) => .nx ((ρ.set i (some x')).set j (some y')) κ4
      | none => .bad
    | none => .bad) := h
  refine evE (s.step g1 s1') (fun y κ2 e2 u B2 ι2 H2 g2 s2 w2 => ?_) (fun n fs κ2 e2 => by rw [e2] at h; exact XW.grow h g1 hF) (fun e => by rw [e] at h; exact h)
  rw [e2] at h
  obtain ⟨w1', s2', g2'⟩ := back g2 s2
  dsimp only [Out.bindS] at h
  split at h
  · rename_i x' κ3 q1
    split at h
    · rename_i y' κ4 q2
      obtain ⟨B3, ι3, s3, g3, w3, oth⟩ := s2'.put w1' q1
      obtain ⟨B4, ι4, s4, g4, w4, _⟩ := s3.put (oth u y w2) q2
      have gg := ((g1.trans g2').trans g3).trans g4
      exact ⟨v, u, rfl, h _ B4 ι4 H2 gg (((s.step gg s4).set i (w3.grow g4)).set j w4)⟩
    · exact h.elim
  · exact h.elim
end
section
variable {X : Cx} {E : XK} {i j : Nat} {f1 f2 : Bool} {x y : Str} {a b : Expr} {ma mb : ME} {px py pt pos : Pos} {kt k2 : Nat} {pt2 : Pos}
theorem js_par (hc : X.calm = true) (hN : X.N.Nodup) (hi : X.N[i]? = some x) (hj : X.N[j]? = some y) (hij : i ≠ j)
    (hx : X.env.scope.names.lookup x = some .local) (hy : X.env.scope.names.lookup y = some .local) (ha : JE X E a ma) (hb : JE X E b mb)
    (hw : swappedStores [.Tuple [.Name x px, .Name y py] kt pt] (.Tuple [a, b] k2 pt2) X.env = pure (some [x, y]))
    (h1 : starEach [a, b] X.env = (false, eval a X.env) :: starEach [b] X.env := by rfl) (h2 : starEach [b] X.env = (false, eval b X.env) :: starEach [] X.env := by rfl)
    (hs : swapsWithSole [.Tuple [.Name x px, .Name y py] kt pt] (.Tuple [a, b] k2 pt2) pos.line X.env = pure false := by rfl) :
    JS X E (.Assign [.Tuple [.Name x px, .Name y py] kt pt] (.Tuple [a, b] k2 pt2) pos) (mPar i j f1 f2 ma mb) :=
  ps_imp (ps_par hc hN hi hj hij hx hy (pa_cons ha (pa_cons hb pa_nil h2) h1) hw hs) fun _ _ _ h => par_imp h
end
end DL

namespace DL
open L2 PyProof.Rows PySem PySem.Spec

/-! ### enumerate, zip of lists -/
def enumD : Nat → List D → List D
  | _, [] => []
  | k, d :: r => .tuple [.int k, d] :: enumD (k + 1) r
theorem enumD_get : ∀ (ds : List D) (k i : Nat), (enumD k ds)[i]? = (ds[i]?).map fun d => .tuple [.int ((k + i : Nat) : Int), d]
  | [], _, _ => by simp [enumD]
  | d :: r, k, 0 => by simp [enumD]
  | d :: r, k, i + 1 => by
    simp only [enumD, List.getElem?_cons_succ]
    rw [enumD_get r (k + 1) i, show k + 1 + i = k + (i + 1) by omega]
theorem enumD_len : ∀ (ds : List D) (k : Nat), (enumD k ds).length = ds.length
  | [], _ => rfl
  | d :: r, k => by simp [enumD, enumD_len r]
def zipD : List D → List D → List D
  | a :: r, b :: q => .tuple [a, b] :: zipD r q
  | _, _ => []
theorem zipD_get : ∀ (xs ys : List D) (i : Nat) (d : D), (zipD xs ys)[i]? = some d → ∃ a b, xs[i]? = some a ∧ ys[i]? = some b ∧ d = .tuple [a, b]
  | [], _, _, _, h => by simp [zipD] at h
  | _ :: _, [], _, _, h => by simp [zipD] at h
  | a :: r, b :: q, 0, d, h => by simp [zipD] at h; exact ⟨a, b, rfl, rfl, h.symm⟩
  | a :: r, b :: q, i + 1, d, h => by
    simp only [zipD, List.getElem?_cons_succ] at h ⊢
    exact zipD_get r q i d h
theorem zipD_len : ∀ (xs ys : List D), (zipD xs ys).length = min xs.length ys.length
  | [], _ => by simp [zipD]
  | _ :: _, [] => by simp [zipD]
  | a :: r, b :: q => by simp only [zipD, List.length_cons, zipD_len r q]; omega
def mEnum (a : MA) : MI := fun ρ κ => (a ρ κ).bind fun xs κ1 => match xs with
  | [.d (.list ds)] => .ok (enumD 0 ds) κ1
  | _ => .bad
def mZip (a : MA) : MI := fun ρ κ => (a ρ κ).bind fun xs κ1 => match xs with
  | [.d (.list ds), .d (.list es)] => .ok (zipD ds es) κ1
  | _ => .bad
section
variable {K : PySem.W.Frag} {F : List Addr} {B B' : Hp} {ι ι' : List Addr} {H H' : Hp} {κ : Kap}
theorem yld_enum {a : Addr} {vs : List V} {xs : List D} (hS : SqL K B a vs) (r : RpAll K B vs xs) : Yld K F B ι H (Ite K a) (enumD 0 xs) := fun F' i B' ι' H' κ' _ g s => by
  have h1 : SqL K H' a vs := s.ex.seq (g.b.seq hS)
  refine ⟨fun d e => ?_, fun e => ⟨vs, h1, by rw [r.len, ← enumD_len xs 0]; exact e⟩⟩
  rw [enumD_get] at e
  cases q : xs[i]? with
  | none => rw [q] at e; cases e
  | some y =>
    rw [q] at e
    simp only [Option.map_some, Option.some.injEq, Nat.zero_add] at e
    subst e
    obtain ⟨v, e1, w⟩ := r.get q
    refine ⟨⟨vs, v, h1, e1⟩, fun x H'' yy => ?_⟩
    obtain ⟨T, z, rfl, hT, rfl, hz⟩ := yy
    have ez := hz vs h1
    rw [e1] at ez
    cases ez
    obtain ⟨s2, g2⟩ := s.new (o := .tup [.int (i : Nat), v]) hT
    exact ⟨_, g2, s2, .tup (.inl (.inl upd_same)) (.cons (.int _) (.cons ((w.mono g.b).mono g2.b) .nil))⟩
theorem yld_zip {a b : Addr} {vs us : List V} {xs ys : List D} (hS : SqL K B a vs) (r : RpAll K B vs xs) (hS2 : SqL K B b us) (r2 : RpAll K B us ys) : Yld K F B ι H (Itz K a b) (zipD xs ys) := fun F' i B' ι' H' κ' _ g s => by
  have h1 : SqL K H' a vs := s.ex.seq (g.b.seq hS)
  have h2 : SqL K H' b us := s.ex.seq (g.b.seq hS2)
  refine ⟨fun d e => ?_, fun e => ⟨vs, us, h1, h2, ?_⟩⟩
  · obtain ⟨p, q, e1, e2, rfl⟩ := zipD_get xs ys i d e
    obtain ⟨v, e3, w⟩ := r.get e1
    obtain ⟨u, e4, w2⟩ := r2.get e2
    refine ⟨⟨vs, us, v, u, h1, h2, e3, e4⟩, fun x H'' yy => ?_⟩
    obtain ⟨T, z, z2, rfl, hT, rfl, hz, hz2⟩ := yy
    have ez := hz vs h1
    rw [e3] at ez
    cases ez
    have ez2 := hz2 us h2
    rw [e4] at ez2
    cases ez2
    obtain ⟨s2, g2⟩ := s.new (o := .tup [v, u]) hT
    exact ⟨_, g2, s2, .tup (.inl (.inl upd_same)) (.cons ((w.mono g.b).mono g2.b) (.cons ((w2.mono g.b).mono g2.b) .nil))⟩
  · rw [zipD_len] at e
    rw [r.len, r2.len]
    omega
end
section
variable {X : Cx} {E : XK} {e e2 : Expr} {ma : MA} {p pos tpos : Pos} {elts : List Expr} {kk : Nat}
theorem ji_enum (hg : Gl X "enumerate") (hm : X.mg "enumerate" = none) (ha : JA X E [e] ma) (hs : starEach [e] X.env = [(false, eval e X.env)] := by rfl) : JI X E (.Tuple elts kk tpos) (.Call (.Name "enumerate" p) [e] [] pos) (mEnum ma) :=
  ji_imp (pi_enum hg hm ha hs) fun σ H R ⟨F, B, ι, ρ, κ, s, h⟩ => by
    unfold mEnum at h
    refine evA s (fun x κ1 e1 v B1 ι1 H1 g1 s1 w1 => ?_) (fun n fs κ1 e1 => by rw [e1] at h; exact h) (fun e => by rw [e] at h; exact h)
    rw [e1] at h
    dsimp only [Out.bind] at h
    split at h
    · rename_i xs κ' q
      split at q
      · cases q
        cases w1 with
        | cons w w2 =>
          cases w2
          cases w with
          | lst hL r => exact ⟨_, _, rfl, lst1 (s1.ex _ _ hL), h _ B1 ι1 H1 g1 s1 (yld_enum (lst1 hL) r)⟩
      · cases q
    · rename_i q; split at q <;> cases q
    · exact h.elim
theorem ji_zip (hg : Gl X "zip") (hm : X.mg "zip" = none) (ha : JA X E [e, e2] ma) (hs : starEach [e, e2] X.env = (false, eval e X.env) :: starEach [e2] X.env := by rfl) (hpl : (backTo pos (starEach [e2] X.env)).any (·.1) = false := by rfl) : JI X E (.Tuple elts kk tpos) (.Call (.Name "zip" p) [e, e2] [] pos) (mZip ma) :=
  ji_imp (pi_zip hg hm ha hs hpl) fun σ H R ⟨F, B, ι, ρ, κ, s, h⟩ => by
    unfold mZip at h
    refine evA s (fun x κ1 e1 v B1 ι1 H1 g1 s1 w1 => ?_) (fun n fs κ1 e1 => by rw [e1] at h; exact h) (fun e => by rw [e] at h; exact h)
    rw [e1] at h
    dsimp only [Out.bind] at h
    split at h
    · rename_i xs κ' q
      split at q
      · cases q
        cases w1 with
        | cons w w2 => cases w2 with
          | cons w' w3 =>
            cases w3
            cases w with
            | lst hL r => cases w' with
              | lst hL2 r2 => exact ⟨_, _, _, _, rfl, lst1 (s1.ex _ _ hL), lst1 (s1.ex _ _ hL2), h _ B1 ι1 H1 g1 s1 (yld_zip (lst1 hL) r (lst1 hL2) r2)⟩
      · cases q
    · rename_i q; split at q <;> cases q
    · exact h.elim
end
end DL

namespace DL
open L2 PyProof.Rows PySem PySem.Spec RZ
/-! ### zip of tuples, range with a step -/
def mZipA (a : MA) : MI := fun ρ κ => (a ρ κ).bind fun xs κ1 => match xs with
  | [.d (.list ds), .d (.list es)] => .ok (zipD ds es) κ1
  | [.d (.tuple ds), .d (.tuple es)] => .ok (zipD ds es) κ1
  | _ => .bad
def stepD (lo c : Int) (n : Nat) : List D := (List.range n).map fun (i : Nat) => PyData.int (lo + (i : Int) * c)
def mRng3 (a : MA) : MI := fun ρ κ => (a ρ κ).bind fun xs κ1 => match xs with
  | [.d (.int i), .d (.int j), .d (.int c)] => if c ≠ 0 ∧ c.natAbs < 1073741824 ∧ Builtin.Range.small i j c = true ∧ 0 ≤ Builtin.Range.rangeSize i j c then .ok (stepD i c (Builtin.Range.rangeSize i j c).toNat) κ1 else .bad
  | _ => .bad
section
variable {K : PySem.W.Frag} {F : List Addr} {B B' : Hp} {ι ι' : List Addr} {H H' : Hp} {κ : Kap}
theorem yld_zipT {a b : Addr} {vs us : List V} {xs ys : List D} (hS : SqT K B a vs) (r : RpAll K B vs xs) (hS2 : SqT K B b us) (r2 : RpAll K B us ys) : Yld K F B ι H (ItzT K a b) (zipD xs ys) := fun F' i B' ι' H' κ' _ g s => by
  have h1 : SqT K H' a vs := same_t s.ex (same_t g.b hS)
  have h2 : SqT K H' b us := same_t s.ex (same_t g.b hS2)
  refine ⟨fun d e => ?_, fun e => ⟨vs, us, h1, h2, ?_⟩⟩
  · obtain ⟨p, q, e1, e2, rfl⟩ := zipD_get xs ys i d e
    obtain ⟨v, e3, w⟩ := r.get e1
    obtain ⟨u, e4, w2⟩ := r2.get e2
    refine ⟨⟨vs, us, v, u, h1, h2, e3, e4⟩, fun x H'' yy => ?_⟩
    obtain ⟨T, z, z2, rfl, hT, rfl, hz, hz2⟩ := yy
    have ez := hz vs h1
    rw [e3] at ez
    cases ez
    have ez2 := hz2 us h2
    rw [e4] at ez2
    cases ez2
    obtain ⟨s2, g2⟩ := s.new (o := .tup [v, u]) hT
    exact ⟨_, g2, s2, .tup (.inl (.inl upd_same)) (.cons ((w.mono g.b).mono g2.b) (.cons ((w2.mono g.b).mono g2.b) .nil))⟩
  · rw [zipD_len] at e
    rw [r.len, r2.len]
    omega
theorem stepD_get {lo c : Int} {n i : Nat} {d : D} (e : (stepD lo c n)[i]? = some d) : i < n ∧ d = .int (lo + (i : Int) * c) := by
  unfold stepD at e
  rw [List.getElem?_map] at e
  cases q : (List.range n)[i]? with
  | none => rw [q] at e; cases e
  | some k =>
    rw [q] at e
    obtain ⟨h1, h2⟩ := List.getElem?_eq_some_iff.mp q
    rw [List.length_range] at h1
    rw [List.getElem_range] at h2
    subst h2
    cases e
    exact ⟨h1, rfl⟩
theorem yld_step {lo c : Int} {n : Nat} : Yld K F B ι H (Itc lo c n) (stepD lo c n) := fun F' i B' ι' H' κ' _ g s => by
  refine ⟨fun d e => ?_, fun e => by show n ≤ i; simpa [stepD] using e⟩
  obtain ⟨h1, rfl⟩ := stepD_get e
  refine ⟨h1, fun x H'' yy => ?_⟩
  obtain ⟨rfl, rfl⟩ := yy
  exact ⟨B', Grow.refl, s, .int _⟩
end
section
variable {X : Cx} {E : XK} {tg e e2 a b c : Expr} {ma : MA} {p pos tpos : Pos} {elts : List Expr} {kk : Nat}
theorem ji_zipA (hg : Gl X "zip") (hm : X.mg "zip" = none) (ha : JA X E [e, e2] ma) (hs : starEach [e, e2] X.env = (false, eval e X.env) :: starEach [e2] X.env := by rfl) (hpl : (backTo pos (starEach [e2] X.env)).any (·.1) = false := by rfl) : JI X E (.Tuple elts kk tpos) (.Call (.Name "zip" p) [e, e2] [] pos) (mZipA ma) :=
  ji_imp (pi_zipA hg hm ha hs hpl) fun σ H R ⟨F, B, ι, ρ, κ, s, h⟩ => by
    unfold mZipA at h
    refine evA s (fun x κ1 e1 v B1 ι1 H1 g1 s1 w1 => ?_) (fun n fs κ1 e1 => by rw [e1] at h; exact h) (fun e => by rw [e] at h; exact h)
    rw [e1] at h
    dsimp only [Out.bind] at h
    split at h
    · rename_i xs κ' q
      split at q
      · cases q
        cases w1 with
        | cons w w2 => cases w2 with
          | cons w' w3 =>
            cases w3
            cases w with
            | lst hL r => cases w' with
              | lst hL2 r2 => exact ⟨_, _, _, _, rfl, .inl ⟨lst1 (s1.ex _ _ hL), lst1 (s1.ex _ _ hL2), h _ B1 ι1 H1 g1 s1 (yld_zip (lst1 hL) r (lst1 hL2) r2)⟩⟩
      · cases q
        cases w1 with
        | cons w w2 => cases w2 with
          | cons w' w3 =>
            cases w3
            cases w with
            | tup hL r => cases w' with
              | tup hL2 r2 => exact ⟨_, _, _, _, rfl, .inr ⟨same_t s1.ex hL, same_t s1.ex hL2, h _ B1 ι1 H1 g1 s1 (yld_zipT hL r hL2 r2)⟩⟩
      · cases q
    · rename_i q; split at q <;> cases q
    · exact h.elim
theorem ji_rng3 (hg : Gl X "range") (hm : X.mg "range" = none) (ha : JA X E [a, b, c] ma) (hs : starEach [a, b, c] X.env = (false, eval a X.env) :: starEach [b, c] X.env := by rfl) (hpl : (backTo pos (starEach [b, c] X.env)).any (·.1) = false := by rfl) : JI X E tg (.Call (.Name "range" p) [a, b, c] [] pos) (mRng3 ma) :=
  ji_imp (pi_range3 hg hm ha hs hpl) fun σ H R ⟨F, B, ι, ρ, κ, s, h⟩ => by
    unfold mRng3 at h
    refine evA s (fun x κ1 e1 v B1 ι1 H1 g1 s1 w1 => ?_) (fun n fs κ1 e1 => by rw [e1] at h; exact h) (fun e => by rw [e] at h; exact h)
    rw [e1] at h
    dsimp only [Out.bind] at h
    split at h
    · rename_i xs κ' q
      split at q
      · split at q
        · rename_i i j c hc
          cases q
          cases w1 with
          | cons w w2 => cases w2 with
            | cons w' w3 => cases w3 with
              | cons w'' w4 =>
                cases w4; cases w; cases w'; cases w''
                refine ⟨i, j, c, _, rfl, ⟨hc.1, hc.2.1, hc.2.2.1, (Int.toNat_of_nonneg hc.2.2.2).symm⟩, h _ B1 ι1 H1 g1 s1 ?_⟩
                exact yld_step
        · cases q
      · cases q
    · rename_i q; split at q
      · split at q <;> cases q
      · cases q
    · exact h.elim
end
end DL

namespace DL
open L2 PyProof.Rows PySem PySem.Spec
/-! ### divmod, more methods of texts -/
def divmodD (_ : Kap) (xs : List DV) : Option DV := match xs with
  | [.d (.int i), .d (.int j)] => if 0 < j ∧ j < 1073741824 then some (.d (.tuple [.int (i / j), .int (i % j)])) else none
  | _ => none
def newStrs (ys : List Str) : DV := .n (ys.map PyData.str)
theorem strs_rp {K : PySem.W.Frag} {B : Hp} : ∀ ys : List Str, RpAll K B (ys.map V.str) (ys.map PyData.str)
  | [] => .nil
  | y :: r => .cons (.str y) (strs_rp r)
def splitF (_ : Kap) (a : Str) (xs : List DV) : Option DV := match xs with
  | [.d (.str b)] => if b.length ≠ 0 ∧ a.length ≤ 16000000 then some (newStrs (Txt.split a b)) else none
  | _ => none
def wordsF (_ : Kap) (a : Str) (xs : List DV) : Option DV := match xs with
  | [] => if a.length ≤ 16000000 then some (newStrs (Txt.words a)) else none
  | _ => none
def strip0F (_ : Kap) (a : Str) (xs : List DV) : Option DV := match xs with
  | [] => if a.length ≤ 16000000 then some (.d (.str (Txt.strip a))) else none
  | _ => none
def ms1 (f : Str → Str → PyData) (_ : Kap) (a : Str) (xs : List DV) : Option DV := match xs with
  | [.d (.str b)] => some (.d (f a b))
  | _ => none
def ms0 (f : Str → PyData) (_ : Kap) (a : Str) (xs : List DV) : Option DV := match xs with
  | [] => some (.d (f a))
  | _ => none
section
variable {K : PySem.W.Frag}
theorem divmodI : CalI K (fun xs H Q => ∃ i j, xs = [.int i, .int j] ∧ CDiv i j ∧ ∀ p, H p = none → Q (.ref p) (upd H p (.tup [.int (i / j), .int (i % j)]))) divmodD := fun F B ι H κ vs xs z s w e Q q => by
  unfold divmodD at e
  split at e
  · split at e
    · rename_i h
      cases e
      cases w with
      | cons w1 w2 => cases w2 with
        | cons w2 w3 => cases w3; cases w1; cases w2; exact ⟨_, _, rfl, h, newT s (.cons (.int _) (.cons (.int _) .nil)) q⟩
    · cases e
  · cases e
theorem splitI : MsI K (fun x xs H Q => ∃ a b, x = .str a ∧ xs = [.str b] ∧ (b.length == 0) = false ∧ a.length + 2 ≤ sizeLine ∧ rNewStrs (Txt.split a b) H Q) splitF := fun F B ι H κ a ws xs z s w e Q q => by
  unfold splitF at e
  split at e
  · split at e
    · rename_i b h
      cases e
      cases w with
      | cons w1 w2 =>
        cases w2; cases w1
        exact ⟨a, b, rfl, rfl, by simpa using h.1, Nat.le_trans (Nat.add_le_add_right h.2 2) (by decide), newQ s (strs_rp _) q⟩
    · cases e
  · cases e
theorem wordsI : MsI K (fun x xs H Q => ∃ a, x = .str a ∧ xs = [] ∧ a.length + 2 ≤ sizeLine ∧ rNewStrs (Txt.words a) H Q) wordsF := fun F B ι H κ a ws xs z s w e Q q => by
  unfold wordsF at e
  split at e
  · split at e
    · rename_i h
      cases e
      cases w
      exact ⟨a, rfl, rfl, Nat.le_trans (Nat.add_le_add_right h 2) (by decide), newQ s (strs_rp _) q⟩
    · cases e
  · cases e
theorem strip0I : MsI K (fun x xs H Q => ∃ a, x = .str a ∧ xs = [] ∧ a.length ≤ sizeLine ∧ Q (.str (Txt.strip a)) H) strip0F := fun F B ι H κ a ws xs z s w e Q q => by
  unfold strip0F at e
  split at e
  · split at e
    · rename_i h
      cases e
      cases w
      exact ⟨a, rfl, rfl, line16 h, keepQ s (.str _) q⟩
    · cases e
  · cases e
theorem startsI : MsI K (fun x xs H Q => ∃ a b, x = .str a ∧ xs = [.str b] ∧ Q (.bl (Txt.startswith a b)) H) (ms1 fun a b => .bool (Txt.startswith a b)) := fun F B ι H κ a ws xs z s w e Q q => by
  unfold ms1 at e
  split at e
  · cases e
    cases w with
    | cons w1 w2 => cases w2; cases w1; exact ⟨a, _, rfl, rfl, keepQ s (.bl _) q⟩
  · cases e
theorem endsI : MsI K (fun x xs H Q => ∃ a b, x = .str a ∧ xs = [.str b] ∧ Q (.bl (Txt.endswith a b)) H) (ms1 fun a b => .bool (Txt.endswith a b)) := fun F B ι H κ a ws xs z s w e Q q => by
  unfold ms1 at e
  split at e
  · cases e
    cases w with
    | cons w1 w2 => cases w2; cases w1; exact ⟨a, _, rfl, rfl, keepQ s (.bl _) q⟩
  · cases e
theorem findI : MsI K (fun x xs H Q => ∃ a b, x = .str a ∧ xs = [.str b] ∧ Q (.int (Txt.find a b)) H) (ms1 fun a b => .int (Txt.find a b)) := fun F B ι H κ a ws xs z s w e Q q => by
  unfold ms1 at e
  split at e
  · cases e
    cases w with
    | cons w1 w2 => cases w2; cases w1; exact ⟨a, _, rfl, rfl, keepQ s (.int _) q⟩
  · cases e
theorem countI : MsI K (fun x xs H Q => ∃ a b, x = .str a ∧ xs = [.str b] ∧ Q (.int (Txt.count a b)) H) (ms1 fun a b => .int (Txt.count a b)) := fun F B ι H κ a ws xs z s w e Q q => by
  unfold ms1 at e
  split at e
  · cases e
    cases w with
    | cons w1 w2 => cases w2; cases w1; exact ⟨a, _, rfl, rfl, keepQ s (.int _) q⟩
  · cases e
end
end DL

namespace DL
open L2 PyProof.Rows PySem PySem.Spec
/-! ### a truth as a number -/
def bz (b : Bool) : Int := if b = true then 1 else 0
theorem gives_neg_b (p : Bool) : Gives (Builtin.«int.__neg__» ⟨[.bool p], []⟩) (.int (-(if p = true then (1 : Int) else 0))) := .of_eq rfl
section
variable {X : Cx}
theorem op_bAdd : OpR X (binaryOp .Add) (fun x y H Q => ∃ k i, x = .bl k ∧ y = .int i ∧ Q (.int (bz k + i)) H) := by
  intro pins s σ H x y v u Q I rx ry h
  obtain ⟨k, i, rfl, rfl, q⟩ := h
  obtain ⟨t, rfl⟩ := ry
  cases rx
  exact PySem.IntBool.add_bool_int ⟨.int (bz k + i), H, I.tok _, ⟨_, rfl⟩, q⟩
theorem op_bSub : OpR X (binaryOp .Sub) (fun x y H Q => ∃ k i, x = .bl k ∧ y = .int i ∧ Q (.int (bz k - i)) H) := by
  intro pins s σ H x y v u Q I rx ry h
  obtain ⟨k, i, rfl, rfl, q⟩ := h
  obtain ⟨t, rfl⟩ := ry
  cases rx
  exact PySem.IntBool.sub_bool_int ⟨.int (bz k - i), H, I.tok _, ⟨_, rfl⟩, q⟩
theorem un_bNeg : UnR X (unaryOp .USub) (fun x H Q => ∃ k, x = .bl k ∧ Q (.int (-bz k)) H) := by
  intro pins s σ H x v Q I rx h
  obtain ⟨k, rfl, q⟩ := h
  cases rx
  exact unaryOp_gives (op := .USub) (typeIs_bool' s k) rfl F.slot_bool_neg F.entry_int_neg (F.args_int_neg_1 _) (gives_neg_b k) ⟨.int (-bz k), H, I.tok _, ⟨_, rfl⟩, q⟩
theorem call_strB : CallR X (.type "str") (fun xs H Q => ∃ k, xs = [.bl k] ∧ Q (.str (if k = true then "True" else "False")) H) := by
  intro pins s σ H xs us Q I r h
  obtain ⟨k, rfl, q⟩ := h
  obtain ⟨u, rfl, r1⟩ := vals1 r
  cases r1
  exact PySem.P.str_of_bool ⟨.str (if k = true then "True" else "False"), H, I.tok _, ⟨_, by cases k <;> rfl⟩, q⟩
def rAddB (K : PySem.W.Frag) : R2 := fun x y H Q => (∃ k i, x = .bl k ∧ y = .int i ∧ Q (.int (bz k + i)) H) ∨ rAddAll K x y H Q
theorem op_addB : OpR X (binaryOp .Add) (rAddB X.K) := op_bAdd.or op_addAll
def rSubB : R2 := fun x y H Q => (∃ k i, x = .bl k ∧ y = .int i ∧ Q (.int (bz k - i)) H) ∨ (rI0 fun i j => .int (i - j)) x y H Q
theorem op_subB : OpR X (binaryOp .Sub) rSubB := op_bSub.or op_sub
def rNegB : V → Hp → VK → Prop := fun x H Q => (∃ k, x = .bl k ∧ Q (.int (-bz k)) H) ∨ (rU fun i => .int (-i)) x H Q
theorem un_negB : UnR X (unaryOp .USub) rNegB := fun pins s σ H x v Q I rx h => h.elim (un_bNeg pins s σ H x v Q I rx) (un_neg pins s σ H x v Q I rx)
def rStrB : List V → Hp → VK → Prop := fun xs H Q => (∃ k, xs = [.bl k] ∧ Q (.str (if k = true then "True" else "False")) H) ∨ ((∃ i : Int, xs = [.int i] ∧ i.natAbs.log2 < 1920 ∧ Q (.str (toString i)) H) ∨ ∃ a, xs = [.str a] ∧ Q (.str a) H)
theorem op_strB : CallR X (.type "str") rStrB := fun pins s σ H xs us Q I r h => h.elim (call_strB pins s σ H xs us Q I r) (op_strAll pins s σ H xs us Q I r)
end
def addB (κ : Kap) (x y : DV) : Option DV := match x, y with
  | .d (.bool a), .d (.int b) => some (.d (.int (bz a + b)))
  | x, y => addD κ x y
def subB (κ : Kap) (x y : DV) : Option DV := match x, y with
  | .d (.bool a), .d (.int b) => some (.d (.int (bz a - b)))
  | x, y => DL.intD subF κ x y
def negB (κ : Kap) (x : DV) : Option DV := match x with
  | .d (.bool a) => some (.d (.int (-bz a)))
  | x => negD κ x
def strB : D → Option D
  | .bool k => some (.str (if k = true then "True" else "False"))
  | x => strF x
section
variable {K : PySem.W.Frag}
theorem addBI : BinI K (rAddB K) addB := fun F B ι H κ v w x y z s wx wy e Q q => by
  unfold addB at e
  split at e
  · cases e; cases wx; cases wy
    exact .inl ⟨_, _, rfl, rfl, keepQ s (.int _) q⟩
  · exact .inr (addI F B ι H κ v w x y z s wx wy e Q q)
theorem subBI : BinI K rSubB subB := fun F B ι H κ v w x y z s wx wy e Q q => by
  unfold subB at e
  split at e
  · cases e; cases wx; cases wy
    exact .inl ⟨_, _, rfl, rfl, keepQ s (.int _) q⟩
  · exact .inr (subI F B ι H κ v w x y z s wx wy e Q q)
theorem negBI : UnI K rNegB negB := fun F B ι H κ v x z s wx e Q q => by
  unfold negB at e
  split at e
  · cases e; cases wx
    exact .inl ⟨_, rfl, keepQ s (.int _) q⟩
  · exact .inr (negI F B ι H κ v x z s wx e Q q)
theorem strBI : CalI K rStrB (cal1 strB) := fun F B ι H κ vs xs z s w e Q q => by
  unfold cal1 at e
  split at e
  · rename_i d
    cases d with
    | bool k =>
      cases e
      cases w with
      | cons w1 w2 =>
        cases w2
        cases w1
        exact .inl ⟨_, rfl, keepQ s (.str _) q⟩
    | _ => exact .inr (strI F B ι H κ vs [_] z s w e Q q)
  · cases e
end
end DL

namespace DL
open L2 PyProof.Rows PySem PySem.Spec
/-! ### defs as values -/
abbrev fnD (x : Str) : D := .dict [(.bool true, .str x)]
def mCallV (i : Nat) (tbl : Str → Option MF) (a : MA) : ME := fun ρ κ => match ρ[i]? with
  | some (some (.d (.dict [(.bool true, .str x)]))) => match tbl x with
    | some m => mCall m a ρ κ
    | none => .bad
  | _ => .bad
section
variable {X : Cx} {k i : Nat} {f : Addr} {fd : FuncData} {ps : List Str} {sp : Sp} {dvs : List V} {ds : List Value} {E : XK} {x y : Str} {p pos : Pos} {e : Expr} {es : List Expr} {t : TA} {CX : CXT} {ma : MA}
theorem pe_callLG (F : FnG X.prog X.w X.K X.mg X.base CX k f fd ps sp) (gu : X.A.guards = some []) (hr : Room k X.A) (hN : X.N[i]? = some x) (hv : Vis X.env.scope x) (hk : PySem.W.keepIn X.K (.ref f) = true) (hb : Binds X.K fd ps ds) (hd : Vals dvs ds) (hx : Passes CX X E) (ha : PA X (e :: es) t)
    (hdb : (x == ("__debug__" : Str)) = false := by decide) (hcd : (x == ("__classdict__" : Str)) = false := by decide)
    (he : starEach (e :: es) X.env = (false, eval e X.env) :: starEach es X.env := by rfl) (hpl : (backTo pos (starEach es X.env)).any (·.1) = false := by rfl) : PE X (.Call (.Name x p) (e :: es) [] pos) (tCallL i f sp dvs E t) := by
  refine ⟨fun pins s σ H Q I h => ?_⟩
  obtain ⟨hs, ht⟩ := h
  refine wpAny_Call_Name_kw (thn ((pe_var (pos := p) hN hv hdb hcd).run pins s σ H (fun v H1 => v = .ref f ∧ H1 = H) I ⟨.ref f, hs, rfl, rfl⟩) fun u s1 ⟨v, H1, I1, r1, q1⟩ => ?_)
  obtain ⟨rfl, rfl⟩ := q1
  cases r1
  refine PySem.W.callWith_K (h₀ := X.base) I.ok.mod.kin hk (thn (ha.run pos pins s1 σ _ _ I1 ht) fun us s2 ⟨vs, H2, I2, r, q⟩ => ⟨I2.kIn, ?_⟩) he hpl
  exact goes F gu hr (fun l => hb s2 us I2.kIn l) hx I2 (r.append hd) q
theorem je_callV {tbl : Str → Option MF} (gu : X.A.guards = some []) (hr : Room k X.A) (hN : X.N[i]? = some y) (T : ∀ x m, tbl x = some m → ∃ st ps, Cal X.prog X.w X.K X.mg X.base k x st ps m) (ha : JA X E0 (e :: es) ma)
    (hv : Vis X.env.scope y := by first | exact Or.inl rfl | exact Or.inr (Or.inl rfl) | exact Or.inr (Or.inr rfl))
    (hdb : (y == ("__debug__" : Str)) = false := by decide) (hcd : (y == ("__classdict__" : Str)) = false := by decide)
    (he : starEach (e :: es) X.env = (false, eval e X.env) :: starEach es X.env := by rfl) (hpl : (backTo pos (starEach es X.env)).any (·.1) = false := by rfl) :
    JE X E0 (.Call (.Name y p) (e :: es) [] pos) (mCallV i tbl ma) := by
  refine ⟨fun pins s σ H Q I h => ?_⟩
  obtain ⟨F, B, ι, ρ, κ, st, h⟩ := h
  unfold mCallV at h
  split at h
  · rename_i x e0
    split at h
    · rename_i m em
      obtain ⟨v, hs, w⟩ := st.loc i _ e0
      obtain ⟨sto, psx, C⟩ := T x m em
      obtain ⟨f', fd', Fu, hb, Fo, hm⟩ := C.ex
      have w : Rp X.K B v (fnD x) := w
      cases w with
      | fnc hn hk =>
        have e2 := PySem.W.mg_of I.ok.mod.kin I.ok.mod.glob hn
        rw [hm] at e2
        cases e2
        exact (pe_callLG (i := i) (dvs := []) (ds := []) (E := E0) Fo gu hr hN hv hk hb .nil pass0 ha hdb hcd he hpl).run pins s σ H Q I ⟨hs, call_imp (E := E0) C.na ⟨F, B, ι, ρ, κ, st, h⟩⟩
      | dic h1 h2 => cases h2
    · exact h.elim
  · exact h.elim
/-- a def's name, as a value -/
theorem je_fn (hg : Gl X x) (hm : X.mg x = some (.ref f)) (hn : PySem.W.nsIn X.K mainGlobals x = some (some (.ref f))) (hk : PySem.W.keepIn X.K (.ref f) = true) (hd : (x == ("__debug__" : Str)) = false := by decide) : JE X E (.Name x pos) (mC (fnD x)) :=
  je_gl (v := .ref f) hg hm rfl (fun _ => .fnc hn hk) hd
end
end DL

namespace DL
open L2 PyProof.Rows PySem PySem.Spec
/-! ### dicts that are read -/
def keyD : D → D → Bool
  | .int a, .int b => a == b
  | .str a, .str b => a == b
  | _, _ => false
def dgetD : List (D × D) → D → Option D
  | [], _ => none
  | (k, v) :: r, y => if keyD k y = true then some v else dgetD r y
def keyOf : D → Option Key
  | .int i => some (.inl i)
  | .str x => some (.inr x)
  | _ => none
def mDget (mo mi : ME) : ME := fun ρ κ => (mo ρ κ).bind fun x κ1 => (mi ρ κ1).bind fun y κ2 => match x, y with
  | .d (.dict kvs), .d k => match dgetD kvs k with
    | some v => .ok (.d v) κ2
    | none => .bad
  | _, _ => .bad
theorem dget_ok {K : PySem.W.Frag} {H : Hp} : ∀ {kvs : List (Key × V)} {ds : List (D × D)} {y : D} {k : Key}, RpKV K H kvs ds → keyOf y = some k → (∀ d, dgetD ds y = some d → ∃ v, valV kvs k = some v ∧ Rp K H v d) ∧ (dgetD ds y = none → valV kvs k = none)
  | _, _, _, _, .nil, _ => ⟨fun _ e => (nomatch e), fun _ => rfl⟩
  | _, _, y, k, .consI (i := i) (v := v) (kvs := kvs) (d := d0) h r, e => by
    obtain ⟨h1, h2⟩ := dget_ok r e
    cases y with
    | int j =>
      cases e
      by_cases q : i = j
      · subst q
        refine ⟨fun d e => ?_, fun e => ?_⟩
        · simp [dgetD, keyD] at e
          subst e
          exact ⟨v, by simp [valV], h⟩
        · simp [dgetD, keyD] at e
      · refine ⟨fun d e => ?_, fun e => ?_⟩
        · simp [dgetD, keyD, q] at e
          obtain ⟨u, e1, e2⟩ := h1 d e
          exact ⟨u, by simp [valV, q] at e1 ⊢; exact e1, e2⟩
        · simp [dgetD, keyD, q] at e
          have := h2 e
          simp [valV, q] at this ⊢; exact this
    | str x =>
      cases e
      refine ⟨fun d e => ?_, fun e => ?_⟩
      · simp [dgetD, keyD] at e
        obtain ⟨u, e1, e2⟩ := h1 d e
        exact ⟨u, by simp [valV] at e1 ⊢; exact e1, e2⟩
      · simp [dgetD, keyD] at e
        have := h2 e
        simp [valV] at this ⊢; exact this
    | _ => cases e
  | _, _, y, k, .consS (x := x) (v := v) (kvs := kvs) (d := d0) h r, e => by
    obtain ⟨h1, h2⟩ := dget_ok r e
    cases y with
    | str j =>
      cases e
      by_cases q : x = j
      · subst q
        refine ⟨fun d e => ?_, fun e => ?_⟩
        · simp [dgetD, keyD] at e
          subst e
          exact ⟨v, by simp [valV], h⟩
        · simp [dgetD, keyD] at e
      · refine ⟨fun d e => ?_, fun e => ?_⟩
        · simp [dgetD, keyD, q] at e
          obtain ⟨u, e1, e2⟩ := h1 d e
          exact ⟨u, by simp [valV, q] at e1 ⊢; exact e1, e2⟩
        · simp [dgetD, keyD, q] at e
          have := h2 e
          simp [valV, q] at this ⊢; exact this
    | int j =>
      cases e
      refine ⟨fun d e => ?_, fun e => ?_⟩
      · simp [dgetD, keyD] at e
        obtain ⟨u, e1, e2⟩ := h1 d e
        exact ⟨u, by simp [valV] at e1 ⊢; exact e1, e2⟩
      · simp [dgetD, keyD] at e
        have := h2 e
        simp [valV] at this ⊢; exact this
    | _ => cases e
def bool2 (b : Bool) (x : Bool) : D := .bool (if b = true then x else !x)
def mDin (pos : Bool) (mi mo : ME) : ME := fun ρ κ => (mi ρ κ).bind fun y κ1 => (mo ρ κ1).bind fun x κ2 => match y, x with
  | .d k, .d (.dict kvs) => match keyOf k, kvs with
    | some _, [(.none, _)] => .bad
    | some _, [(.bool _, _)] => .bad
    | some _, kvs => .ok (.d (bool2 pos (dgetD kvs k).isSome)) κ2
    | none, _ => .bad
  | _, _ => .bad
theorem key_v {K : PySem.W.Frag} {H : Hp} {v : V} {d : D} {k : Key} (e : keyOf d = some k) (r : Rp K H v d) : v = kV k := by
  cases r <;> first | (cases e; rfl) | cases e
theorem key_some {ds : List (D × D)} {y d : D} (e : dgetD ds y = some d) : ∃ k, keyOf y = some k := by
  induction ds with
  | nil => cases e
  | cons p r ih =>
    obtain ⟨a, b⟩ := p
    rw [dgetD] at e
    split at e
    · rename_i h
      cases a <;> cases y <;> first | exact ⟨_, rfl⟩ | (simp [keyD] at h)
    · exact ih e
section
variable {X : Cx} {E : XK} {o i : Expr} {mo mi : ME} {pos : Pos}
theorem je_dget (hu : X.A.units + 64 < cLine) (ho : JE X E o mo) (hi : JE X E i mi) (hs : NoSl i) : JE X E (.Subscript o i pos) (mDget mo mi) :=
  pe_imp (pe_dget (by omega) ho hi hs) fun σ H Q ⟨F, B, ι, ρ, κ, s, h⟩ => by
    unfold mDget at h
    refine evE s (fun x κ1 e1 v B1 ι1 H1 g1 s1 w1 => ?_) (fun n fs κ1 e1 => by rw [e1] at h; exact h) (fun e => by rw [e] at h; exact h)
    rw [e1] at h
    have h : PostE X.K X.mg E F B ι H Q (Out.bind (mi ρ κ1) _) := h
    cases x with
    | n xs =>
      cases q : mi ρ κ1 with
      | ok y κ2 => rw [q] at h; exact h.elim
      | ex n fs κ2 =>
        refine evE (s.step g1 s1) (fun y κ2 e2 => by rw [q] at e2; cases e2) (fun n' fs' κ2 e2 => by rw [e2] at h; exact XW.grow h g1 fun _ m => m) (fun e => by rw [e] at q; cases q)
      | bad => rw [q] at h; exact h.elim
    | c j =>
      cases q : mi ρ κ1 with
      | ok y κ2 => rw [q] at h; exact h.elim
      | ex n fs κ2 =>
        refine evE (s.step g1 s1) (fun y κ2 e2 => by rw [q] at e2; cases e2) (fun n' fs' κ2 e2 => by rw [e2] at h; exact XW.grow h g1 fun _ m => m) (fun e => by rw [e] at q; cases q)
      | bad => rw [q] at h; exact h.elim
    | d xd =>
      refine evE (s.step g1 s1) (fun y κ2 e2 u B2 ι2 H2 g2 s2 w2 => ?_) (fun n fs κ2 e2 => by rw [e2] at h; exact XW.grow h g1 fun _ m => m) (fun e => by rw [e] at h; exact h)
      rw [e2] at h
      dsimp only [Out.bind] at h
      cases xd with
      | dict kvs =>
        cases y with
        | d k =>
          dsimp only at h
          split at h
          · rename_i d ed
            obtain ⟨ky, ek⟩ := key_some ed
            have wx : Rp X.K B1 v (.dict kvs) := w1
            have wy : Rp X.K B2 u k := w2
            cases wx with
            | scr _ => cases k <;> simp [dgetD, keyD] at ed
            | fnc _ _ => cases k <;> simp [dgetD, keyD] at ed
            | clo _ _ => cases k <;> simp [dgetD, keyD] at ed
            | dic hd rk =>
              have rk2 : RpKV X.K B2 _ kvs := RpKV.mono g2.b rk
              obtain ⟨z, e3, r3⟩ := (dget_ok rk2 ek).1 d ed
              exact ⟨_, z, rfl, .inl ⟨_, ky, .inl (s2.ex _ _ (g2.b _ _ hd)), key_v ek wy, e3.symm⟩, h z B2 ι2 H2 (g1.trans g2) s2 r3⟩
          · exact h.elim
        | _ => exact h.elim
      | _ => cases y <;> exact h.elim
theorem din_imp {σ : L2.St} {H : Hp} {Q : VK} (h : tM X.K X.mg E (mDin true mi mo) σ H Q) : tDIn (tM X.K X.mg E mi) (tM X.K X.mg E mo) σ H Q := by
    obtain ⟨F, B, ι, ρ, κ, s, h⟩ := h
    unfold mDin at h
    refine evE s (fun y κ1 e1 u B1 ι1 H1 g1 s1 w1 => ?_) (fun n fs κ1 e1 => by rw [e1] at h; exact h) (fun e => by rw [e] at h; exact h)
    rw [e1] at h
    have h : PostE X.K X.mg E F B ι H Q (Out.bind (mo ρ κ1) _) := h
    refine evE (s.step g1 (s1.less fun _ m => m)) (fun x κ2 e2 v B2 ι2 H2 g2 s2 w2 => ?_) (fun n fs κ2 e2 => by rw [e2] at h; exact XW.grow h g1 fun _ m => m) (fun e => by rw [e] at h; exact h)
    rw [e2] at h
    dsimp only [Out.bind] at h
    cases y with
    | d k =>
      cases x with
      | d xd =>
        cases xd with
        | dict kvs =>
          dsimp only at h
          split at h
          · exact h.elim
          · exact h.elim
          · rename_i ky ek hn1 hn2
            have wy : Rp X.K B1 u k := w1
            have wx : Rp X.K B2 v (.dict _) := w2
            cases wx with
            | scr _ => exact absurd rfl (hn1 _)
            | fnc _ _ => exact absurd rfl (hn2 _ _)
            | clo _ _ => exact absurd rfl (hn2 _ _)
            | dic hd rk =>
              obtain ⟨q1, q2⟩ := dget_ok rk ek
              refine ⟨_, _, rfl, .inl ⟨_, ky, .inl (s2.ex _ _ hd), key_v ek wy, rfl⟩, h _ B2 ι2 H2 (g1.trans g2) s2 ?_⟩
              cases ed : dgetD _ k with
              | none => rw [q2 ed]; exact .bl _
              | some d =>
                obtain ⟨z, e3, _⟩ := q1 d ed
                rw [e3]; exact .bl _
          · exact h.elim
        | _ => exact h.elim
      | _ => exact h.elim
    | _ => cases x <;> exact h.elim
theorem je_din (hu : X.A.units + 64 < cLine) (hi : JE X E i mi) (ho : JE X E o mo) (hm : behindInMarks .In o = false := by with_unfolding_all rfl) : JE X E (.Compare i [.In] [o] pos) (mDin true mi mo) :=
  pe_imp (pe_cmp (pc_din (by omega) hi ho) hm) fun σ H Q h => din_imp h
theorem jt_din (hu : X.A.units + 64 < cLine) (hi : JE X E i mi) (ho : JE X E o mo) (hm : behindInMarks .In o = false := by with_unfolding_all rfl) : JT X E (.Compare i [.In] [o] pos) (mTb (mDin true mi mo)) :=
  pt_imp (pt_cmp (pc_din (by omega) hi ho) hm) fun σ H Q h => din_imp (tb_imp h)
theorem dnin_imp {σ : L2.St} {H : Hp} {Q : VK} (h : tM X.K X.mg E (mDin false mi mo) σ H Q) : tDNotIn (tM X.K X.mg E mi) (tM X.K X.mg E mo) σ H Q := by
    obtain ⟨F, B, ι, ρ, κ, s, h⟩ := h
    unfold mDin at h
    refine evE s (fun y κ1 e1 u B1 ι1 H1 g1 s1 w1 => ?_) (fun n fs κ1 e1 => by rw [e1] at h; exact h) (fun e => by rw [e] at h; exact h)
    rw [e1] at h
    have h : PostE X.K X.mg E F B ι H Q (Out.bind (mo ρ κ1) _) := h
    refine evE (s.step g1 (s1.less fun _ m => m)) (fun x κ2 e2 v B2 ι2 H2 g2 s2 w2 => ?_) (fun n fs κ2 e2 => by rw [e2] at h; exact XW.grow h g1 fun _ m => m) (fun e => by rw [e] at h; exact h)
    rw [e2] at h
    dsimp only [Out.bind] at h
    cases y with
    | d k =>
      cases x with
      | d xd =>
        cases xd with
        | dict kvs =>
          dsimp only at h
          split at h
          · exact h.elim
          · exact h.elim
          · rename_i ky ek hn1 hn2
            have wy : Rp X.K B1 u k := w1
            have wx : Rp X.K B2 v (.dict _) := w2
            cases wx with
            | scr _ => exact absurd rfl (hn1 _)
            | fnc _ _ => exact absurd rfl (hn2 _ _)
            | clo _ _ => exact absurd rfl (hn2 _ _)
            | dic hd rk =>
              obtain ⟨q1, q2⟩ := dget_ok rk ek
              refine ⟨_, _, rfl, .inl ⟨_, ky, .inl (s2.ex _ _ hd), key_v ek wy, rfl⟩, h _ B2 ι2 H2 (g1.trans g2) s2 ?_⟩
              cases ed : dgetD _ k with
              | none => rw [q2 ed]; exact .bl _
              | some d =>
                obtain ⟨z, e3, _⟩ := q1 d ed
                rw [e3]; exact .bl _
          · exact h.elim
        | _ => exact h.elim
      | _ => exact h.elim
    | _ => cases x <;> exact h.elim
theorem je_dnin (hu : X.A.units + 64 < cLine) (hi : JE X E i mi) (ho : JE X E o mo) (hm : behindInMarks .NotIn o = false := by with_unfolding_all rfl) : JE X E (.Compare i [.NotIn] [o] pos) (mDin false mi mo) :=
  pe_imp (pe_cmp (pc_dnotin (by omega) hi ho) hm) fun σ H Q h => dnin_imp h
theorem jt_dnin (hu : X.A.units + 64 < cLine) (hi : JE X E i mi) (ho : JE X E o mo) (hm : behindInMarks .NotIn o = false := by with_unfolding_all rfl) : JT X E (.Compare i [.NotIn] [o] pos) (mTb (mDin false mi mo)) :=
  pt_imp (pt_cmp (pc_dnotin (by omega) hi ho) hm) fun σ H Q h => dnin_imp (tb_imp h)
end
/-! ### a copy -/
def plainK : List (D × D) → Bool
  | [(.none, _)] => false
  | [(.bool _, _)] => false
  | _ => true
def dictD (_ : Kap) (xs : List DV) : Option DV := match xs with
  | [.d (.dict kvs)] => if plainK kvs = true then some (.d (.dict kvs)) else none
  | _ => none
theorem dictI {K : PySem.W.Frag} : CalI K (fun xs H Q => ∃ (a : Addr) (kvs : List (Key × V)), xs = [.ref a] ∧ Rd H a (.dK kvs) ∧ ∀ p, H p = none → Q (.ref p) (upd H p (.dK kvs))) dictD := fun F B ι H κ vs xs z s w e Q q => by
  unfold dictD at e
  split at e
  · split at e
    · rename_i kvs h
      cases e
      cases w with
      | cons w1 w2 =>
        cases w2
        have w1 : Rp K B _ (.dict kvs) := w1
        cases w1 with
        | scr _ => cases h
        | fnc _ _ => cases h
        | clo _ _ => cases h
        | dic hd rk =>
          refine ⟨_, _, rfl, .inl (s.ex _ _ hd), fun p hp => ?_⟩
          obtain ⟨s2, g2⟩ := s.new (o := .dK _) hp
          exact q _ _ _ _ g2 s2 (.dic upd_same (RpKV.mono g2.b rk))
    · cases e
  · cases e
end DL

namespace DL
open L2 PyProof.Rows PySem PySem.Spec
/-! ### a dict with written keys -/
abbrev MP := Rho → Kap → Out (List (Key × DV))
def mPNil : MP := fun _ κ => .ok [] κ
def mPCons (k : Key) (a : ME) (r : MP) : MP := fun ρ κ => (a ρ κ).bind fun x κ1 => (r ρ κ1).bind fun xs κ2 => .ok ((k, fz x) :: xs) κ2
def tPs (K : PySem.W.Frag) (mg : Str → Option Value) (E : XK) (m : MP) : L2.St → Hp → (List (V × V) → Hp → Prop) → Prop := fun σ H Q => ∃ F B ι ρ κ, SOk K F B ι σ H ρ κ ∧ match m ρ κ with
  | .ok xs κ' => ∀ vs B' ι' H', Grow F B ι H B' ι' H' → HSt K F B' ι' H' κ' → Paired (fun (p : V × V) (q : Key × DV) => p.1 = kV q.1 ∧ WOk K B' ι' p.2 q.2) vs xs → Q vs H'
  | .ex n fs κ' => XW K mg E F B ι H n fs κ'
  | .bad => False
structure JPs (X : Cx) (E : XK) (pos : Pos) (ks : List (Option Expr)) (vs : List Expr) (m : MP) : Prop where
  ex : ∃ trs, PPs X pos ks vs trs ∧ ∀ σ H Q, tPs X.K X.mg E m σ H Q → tPairs trs σ H Q
section
variable {X : Cx} {E : XK} {pos : Pos} {k : Key} {ke v : Expr} {ks : List (Option Expr)} {vs : List Expr} {a : ME} {m : MP}
theorem jp_nil : JPs X E pos [] [] mPNil := ⟨[], pps_nil, fun σ H Q ⟨F, B, ι, ρ, κ, s, h⟩ => h [] B ι H Grow.refl s.hs .nil⟩
theorem jp_cons (hk : PE X ke (tC (kV k))) (hv : JE X E v a) (hr : JPs X E pos ks vs m) : JPs X E pos (some ke :: ks) (v :: vs) (mPCons k a m) := by
  obtain ⟨trs, hp, hi⟩ := hr.ex
  refine ⟨_, pps_cons hk hv hp, fun σ H Q ⟨F, B, ι, ρ, κ, s, h⟩ => ?_⟩
  unfold mPCons at h
  show tM X.K X.mg E a σ H _
  refine evE s (fun x κ1 e1 v B1 ι1 H1 g1 s1 w1 => ?_) (fun n fs κ1 e1 => by rw [e1] at h; exact h) (fun e => by rw [e] at h; exact h)
  rw [e1] at h
  obtain ⟨B1', s1', g1', w1'⟩ := s1.fz w1
  refine hi _ _ _ ⟨F, B1', ι1, ρ, κ1, s.step (g1.trans g1') s1', ?_⟩
  dsimp only [Out.bind] at h
  cases q : m ρ κ1 with
  | bad => rw [q] at h; exact h.elim
  | ex n fs κ2 => rw [q] at h; exact XW.grow h (g1.trans g1') fun _ m => m
  | ok xs κ2 =>
    rw [q] at h
    intro us B2 ι2 H2 g2 s2 w2
    exact h ((kV k, v) :: us) B2 ι2 H2 ((g1.trans g1').trans g2) s2 (.cons ⟨rfl, w1'.grow g2⟩ w2)
end
def keyDt : Key → D
  | .inl i => .int i
  | .inr x => .str x
def allKD : List (Key × DV) → Option (List (D × D))
  | [] => some []
  | (k, .d x) :: r => (allKD r).map ((keyDt k, x) :: ·)
  | _ => none
def mDisp (m : MP) : ME := fun ρ κ => (m ρ κ).bind fun xs κ1 => match allKD xs with
  | some ds => if (xs.map (·.1)).Nodup ∧ xs.length ≤ 15 then .ok (.d (.dict ds)) κ1 else .bad
  | none => .bad
theorem merge_new : ∀ (more acc : List (Key × V)), ((acc ++ more).map (·.1)).Nodup → mergeK acc more = acc ++ more
  | [], acc, _ => by rw [List.append_nil]; rfl
  | (k, v) :: r, acc, h => by
    have hk : ∀ x ∈ acc, x.1 ≠ k := fun x m e => by
      rw [List.map_append, List.nodup_append] at h
      exact h.2.2 x.1 (List.mem_map_of_mem m) k (by simp) e
    have e : putK acc k v = acc ++ [(k, v)] := by
      unfold putK
      rw [if_neg]
      intro z
      obtain ⟨x, m, hx⟩ := List.any_eq_true.mp z
      exact hk x m (of_decide_eq_true hx)
    show mergeK (putK acc k v) r = _
    rw [e, merge_new r (acc ++ [(k, v)]) (by rw [List.append_assoc]; exact h), List.append_assoc]; rfl
theorem kvs_of {K : PySem.W.Frag} {B : Hp} {ι : List Addr} : ∀ {vs : List (V × V)} {xs : List (Key × DV)} {ds : List (D × D)}, Paired (fun (p : V × V) (q : Key × DV) => p.1 = kV q.1 ∧ WOk K B ι p.2 q.2) vs xs → allKD xs = some ds →
    ∃ kvs : List (Key × V), vs = kvs.map (fun kv => (kV kv.1, kv.2)) ∧ RpKV K B kvs ds ∧ kvs.map (·.1) = xs.map (·.1)
  | _, _, _, .nil, e => by cases e; exact ⟨[], rfl, .nil, rfl⟩
  | _, _, _, .cons (a := p) (b := q) h r, e => by
    obtain ⟨k, x⟩ := q
    obtain ⟨u, v⟩ := p
    cases x with
    | d y =>
      rw [allKD] at e
      cases q2 : allKD _ with
      | none => rw [q2] at e; cases e
      | some ds' =>
        rw [q2] at e
        cases e
        obtain ⟨kvs, e1, e2, e3⟩ := kvs_of r q2
        have h1 : u = kV k := h.1
        have h2 : Rp K B v y := h.2
        refine ⟨(k, v) :: kvs, by rw [e1, h1]; rfl, ?_, by rw [List.map_cons, List.map_cons, e3]⟩
        cases k with
        | inl i => exact .consI h2 e2
        | inr z => exact .consS h2 e2
    | _ => simp [allKD] at e
section
variable {X : Cx} {E : XK} {pos : Pos} {ks : List (Option Expr)} {vs : List Expr} {m : MP}
theorem je_disp (hj : JPs X E pos ks vs m) (hall : ks.all (·.isSome) = true := by rfl) (hl : ks.length = vs.length := by rfl) (h0 : ks ≠ [] := by simp) (h15 : ks.length ≤ 15 := by decide) : JE X E (.Dict ks vs pos) (mDisp m) := by
  obtain ⟨trs, hp, hi⟩ := hj.ex
  refine pe_imp (pe_disp hp hall hl h0 h15) fun σ H Q ⟨F, B, ι, ρ, κ, s, h⟩ => ?_
  intro p hnp
  obtain ⟨s1, g1, hpF⟩ := s.hs.tmp (o := .dK []) hnp
  refine hi _ _ _ ⟨p :: F, B, ι, ρ, κ, s.step g1 s1, ?_⟩
  unfold mDisp at h
  cases q : m ρ κ with
  | bad => rw [q] at h; exact h.elim
  | ex n fs κ2 => rw [q] at h; exact XW.grow h g1 fun _ m => List.mem_cons_of_mem _ m
  | ok xs κ2 =>
    rw [q] at h
    intro us B2 ι2 H2 g2 s2 w2
    dsimp only [Out.bind] at h
    split at h
    · rename_i ds e
      split at h
      · rename_i hn
        obtain ⟨kvs, e1, rk, e3⟩ := kvs_of w2 e
        have hl2 : kvs.length = xs.length := by have := congrArg List.length e3; simpa using this
        refine ⟨(g2.fr p (List.mem_cons_self ..)).trans upd_same, kvs, e1, by rw [hl2]; exact hn.2, ?_⟩
        rw [merge_new kvs [] (by rw [List.nil_append, e3]; exact hn.1), List.nil_append]
        obtain ⟨s3, g3⟩ := s2.setP (o := .dK kvs) hpF
        obtain ⟨_, b1, b2⟩ := s3.pro p (List.mem_cons_self ..)
        have sub : ∀ a ∈ F, a ∈ p :: F := fun _ m => List.mem_cons_of_mem _ m
        obtain ⟨s4, g4⟩ := (s3.less sub).frz upd_same b1 b2 hpF
        exact h (.ref p) _ ι2 _ (((g1.trans (g2.less sub)).trans g3).trans g4) s4 (.dic upd_same (RpKV.mono g4.b rk))
      · exact h.elim
    · exact h.elim
end
end DL

namespace DL
open L2 PyProof.Rows PySem PySem.Spec
/-! ### tables of defs that a local may hold -/
def tblOf : List (Str × MF) → Str → Option MF
  | [], _ => none
  | (y, m) :: r, x => if y == x then some m else tblOf r x
section
variable {P : Program} {w : World} {K : PySem.W.Frag} {mg : Str → Option Value} {base : Heap} {k : Nat}
theorem tb_nil : ∀ x m, tblOf [] x = some m → ∃ st ps, Cal P w K mg base k x st ps m := fun _ _ e => nomatch e
theorem tb_cons {y : Str} {m0 : MF} {st : Stmt} {ps : List Str} {l : List (Str × MF)} (C : Cal P w K mg base k y st ps m0) (h : ∀ x m, tblOf l x = some m → ∃ st ps, Cal P w K mg base k x st ps m) :
    ∀ x m, tblOf ((y, m0) :: l) x = some m → ∃ st ps, Cal P w K mg base k x st ps m := fun x m e => by
  rw [tblOf] at e
  split at e
  · rename_i q
    cases e
    rw [← eq_of_beq q]
    exact ⟨st, ps, C⟩
  · exact h x m e
end
end DL

namespace DL
open L2 PyProof.Rows PySem PySem.Spec
/-! ### dict(X) of a module's own dict with text keys -/
def Ents : List DictEntry → List (Str × V) → Prop
  | [], [] => True
  | e :: r, q :: s => ((∃ t, e.key = .str q.1 t) ∧ RelV q.2 e.val) ∧ Ents r s
  | _, _ => False
def tk (kus : List (Str × V)) : List (Key × V) := kus.map fun q => (Sum.inr q.1, q.2)
theorem ents_len : ∀ {l : List DictEntry} {kus : List (Str × V)}, Ents l kus → l.length = kus.length
  | [], [], _ => rfl
  | _ :: _, _ :: _, h => by rw [List.length_cons, List.length_cons, ents_len h.2]
theorem ents_pairs {P : Program} {w : World} : ∀ {l : List DictEntry} {kus : List (Str × V)}, Ents l kus → PySem.Pairs (mixKind P w) l (List.zipWith (fun q e => (Sum.inr q.1, e.val)) kus l) ∧ KV (tk kus) (List.zipWith (fun (q : Str × V) (e : DictEntry) => ((Sum.inr q.1 : Key), e.val)) kus l)
  | [], [], _ => ⟨.nil, .nil⟩
  | e :: r, q :: s, h => by
    obtain ⟨⟨⟨t, e1⟩, e2⟩, h2⟩ := h
    obtain ⟨i1, i2⟩ := ents_pairs (P := P) (w := w) h2
    refine ⟨.cons ?_ rfl i1, .cons ⟨rfl, e2⟩ i2⟩
    show (mixKind P w).is (Sum.inr q.1) e.key = true
    rw [e1]; exact mixKind_str P w q.1 t
theorem zip_keys : ∀ {l : List DictEntry} {kus : List (Str × V)}, Ents l kus → (List.zipWith (fun (q : Str × V) (e : DictEntry) => ((Sum.inr q.1 : Key), e.val)) kus l).map (·.1) = kus.map fun q => (Sum.inr q.1 : Key)
  | [], [], _ => rfl
  | e :: r, q :: s, h => by rw [List.zipWith_cons_cons, List.map_cons, List.map_cons, zip_keys h.2]
section
variable {X : Cx} {d : Addr} {es : Array DictEntry} {n : Nat} {kus : List (Str × V)} {x : Str} {ds : List (D × D)} {p1 p2 pos : Pos} {E : XK}
theorem call_dictKD (hl : X.K.lookup d = some ⟨.type "dict", none, .dict es n, #[]⟩) (hk : PySem.W.KeysLit X.w.params es.toList) (lo : (d == sysModules) = false) (he : Ents es.toList kus) (hn : (kus.map (·.1)).Nodup) (hz : kus.length ≤ 1000) :
    CallR X (.type "dict") (fun xs H Q => xs = [.ref d] ∧ ∀ p, H p = none → Q (.ref p) (upd H p (.dK (tk kus)))) := by
  intro pins s σ H xs us Q I r q
  obtain ⟨ex, q⟩ := q
  subst ex
  obtain ⟨u, eu, rx⟩ := vals1 r
  subst eu
  cases rx
  obtain ⟨pr, rel⟩ := ents_pairs (P := X.prog) (w := X.w) he
  have dd : s.heap.DictOf (mixKind X.prog X.w) d (List.zipWith (fun (q : Str × V) (e : DictEntry) => ((Sum.inr q.1 : Key), e.val)) kus es.toList) := by
    refine ⟨_, es, n, I.kIn _ _ hl, ⟨rfl, rfl, rfl⟩, rfl, fun e m => ?_, pr, ?_⟩
    · obtain ⟨x, t, e1, e2⟩ := hk.all e (Array.mem_toList_iff.mpr m)
      exact ⟨Sum.inr x, by rw [e1]; exact mixKind_str X.prog X.w x t, e2⟩
    · rw [zip_keys he]
      rw [show (kus.map fun q => (Sum.inr q.1 : Key)) = (kus.map (·.1)).map Sum.inr from (List.map_map ..).symm]
      exact (List.pairwise_map.mpr (hn.imp fun h e => h (Sum.inr.inj e)))
  have z : (tk kus).length ≤ sizeLine := by rw [tk, List.length_map]; exact Nat.le_trans hz (by decide)
  refine kt_call_dict lo dd (by rw [← rel.length]; exact z) fun h' d' hs => ?_
  have hm : (s.heap.objs.size == sysModules) = false := beq_eq_false_iff_ne.mpr (Nat.ne_of_gt I.big)
  exact ⟨.ref s.heap.objs.size, upd H s.heap.objs.size (.dK (tk kus)), I.laid (t' := s.toks) (fun b u e => (hs.2 b (Nat.ne_of_lt (Heap.lt_size e))).trans (Heap.get?_push_of_some _ e)) (Nat.le_refl _)
    (show ObjOk X.prog X.w _ _ _ (.dK (tk kus)) from ⟨z, hm, _, rel, d'⟩), rfl, q _ (I.hok.fresh (Nat.le_refl _))⟩
theorem je_dictG (hl : X.K.lookup d = some ⟨.type "dict", none, .dict es n, #[]⟩) (hk : PySem.W.KeysLit X.w.params es.toList) (lo : (d == sysModules) = false) (he : Ents es.toList kus) (hr : ∀ B : Hp, RpKV X.K B (tk kus) ds) (hgx : Gl X x) (hmx : X.mg x = some (.ref d)) (hgd : Gl X "dict") (hmd : X.mg "dict" = none)
    (hn : (kus.map (·.1)).Nodup := by decide) (hz : kus.length ≤ 1000 := by decide) (hdx : (x == ("__debug__" : Str)) = false := by decide) :
    JE X E (.Call (.Name "dict" p1) [.Name x p2] [] pos) (mC (.dict ds)) := by
  refine pe_imp (pe_callTy (call_dictKD hl hk lo he hn hz) hgd hmd (by decide +kernel) (pa_cons (pe_glob hgx hmx (show RelV (.ref d) (.ref d) from rfl) hdx) pa_nil)) fun σ H Q ⟨F, B, ι, ρ, κ, s, h⟩ => ?_
  refine ⟨rfl, fun p hp => ?_⟩
  obtain ⟨s2, g2⟩ := s.hs.new (o := .dK (tk kus)) hp
  exact h _ _ _ _ g2 s2 (.dic upd_same (hr _))
end
end DL
namespace DL
open L2 PyProof.Rows PySem PySem.Spec
structure MDict (K : PySem.W.Frag) (w : World) (mg : Str → Option Value) (x : Str) (ds : List (D × D)) : Prop where
  ex : ∃ (d : Addr) (es : Array DictEntry) (n : Nat) (kus : List (Str × V)), mg x = some (.ref d) ∧ K.lookup d = some ⟨.type "dict", none, .dict es n, #[]⟩ ∧ PySem.W.KeysLit w.params es.toList ∧ (d == sysModules) = false ∧ Ents es.toList kus ∧ (∀ B : Hp, RpKV K B (tk kus) ds) ∧ (kus.map (·.1)).Nodup ∧ kus.length ≤ 1000
theorem je_mdict {X : Cx} {x : Str} {ds : List (D × D)} {p1 p2 pos : Pos} {E : XK} (M : MDict X.K X.w X.mg x ds) (hgx : Gl X x) (hgd : Gl X "dict") (hmd : X.mg "dict" = none) (hdx : (x == ("__debug__" : Str)) = false := by decide) :
    JE X E (.Call (.Name "dict" p1) [.Name x p2] [] pos) (mC (.dict ds)) := by
  obtain ⟨d, es, n, kus, h1, h2, h3, h4, h5, h6, h7, h8⟩ := M.ex
  exact je_dictG h2 h3 h4 h5 h6 hgx h1 hgd hmd h7 h8 hdx
end DL

namespace DL
open L2 PyProof.Rows PySem PySem.Spec
/-! ### arguments that become cells -/
def mConsC (a : ME) (r : MA) : MA := fun ρ κ => (a ρ κ).bind fun x κ1 => match x with
  | .n xs => (r ρ (κ1 ++ [.lst (xs.map .d)])).bind fun ys κ2 => .ok (.c κ1.length :: ys) κ2
  | x => (r ρ κ1).bind fun ys κ2 => .ok (fz x :: ys) κ2
section
variable {X : Cx} {E : XK} {a : Expr} {es : List Expr} {ma : ME} {mr : MA} {pos : Pos}
theorem ja_consC (ha : JE X E a ma) (hr : JA X E es mr) (hs : starEach (a :: es) X.env = (false, eval a X.env) :: starEach es X.env := by rfl) : JA X E (a :: es) (mConsC ma mr) :=
  pa_imp (pa_cons ha hr hs) fun σ H Q ⟨F, B, ι, ρ, κ, s, h⟩ => by
    unfold mConsC at h
    refine evE s (fun x κ1 e1 v B1 ι1 H1 g1 s1 w1 => ?_) (fun n fs κ1 e1 => by rw [e1] at h; exact h) (fun e => by rw [e] at h; exact h)
    rw [e1] at h
    have key : ∀ {x' : DV} {κ' : Kap} {fl : Bool}, put fl x κ1 = some (x', κ') → PostA X.K X.mg E F B ι H Q (Out.bind (mr ρ κ') fun xs κ2 => .ok (x' :: xs) κ2) → tA X.K X.mg E mr σ H1 (fun vs H2 => Q (v :: vs) H2) := fun {x' κ' fl} ep h => by
      obtain ⟨B1', ι1', s1', g1', w1', _⟩ := s1.put w1 ep
      refine evA (s.step (g1.trans g1') s1') (fun xs κ2 e2 vs B2 ι2 H2 g2 s2 w2 => ?_) (fun n fs κ2 e2 => by rw [e2] at h; exact XW.grow h (g1.trans g1') fun _ m => m) (fun e => by rw [e] at h; exact h)
      rw [e2] at h
      exact h (v :: vs) B2 ι2 H2 ((g1.trans g1').trans g2) s2 (.cons (w1'.grow g2) w2)
    cases x with
    | n xs => exact key (fl := true) rfl h
    | d y => exact key (fl := false) rfl h
    | c j => exact key (fl := false) rfl h
end
/-! ### a, b, c = x, y, z -/
def mPar3 (i j l : Nat) (m : MA) : MS := fun ρ κ => (m ρ κ).bindS fun xs κ1 => match xs with
  | [x, y, z] => .nx (((ρ.set i (some x)).set j (some y)).set l (some z)) κ1
  | _ => .bad
theorem par3_imp {K : PySem.W.Frag} {mg : Str → Option Value} {E : XK} {i j l : Nat} {m : MA} {De : Ends} {σ : L2.St} {H : Hp} (h : tS K mg E (mPar3 i j l m) De σ H) : tPar3 i j l (tA K mg E m) De σ H := by
  obtain ⟨F, B, ι, ρ, κ, s, h⟩ := h
  unfold mPar3 at h
  refine evA s (fun xs κ2 e2 vs B2 ι2 H2 g2 s2 w2 => ?_) (fun n fs κ2 e2 => by rw [e2] at h; exact h) (fun e => by rw [e] at h; exact h)
  rw [e2] at h
  dsimp only [Out.bindS] at h
  split at h
  · cases w2 with
    | cons p q =>
      cases q with
      | cons p' q' =>
        cases q' with
        | cons p'' q'' =>
          cases q''
          exact ⟨_, _, _, rfl, h _ B2 ι2 H2 g2 ((((s.step g2 s2).set i p).set j p').set l p'')⟩
  · exact h.elim
section
variable {X : Cx} {E : XK} {i j l : Nat} {x y z : Str} {a b c : Expr} {m : MA} {px py pz pt pos : Pos} {kt k2 : Nat} {pt2 : Pos}
theorem js_par3 (hc : X.calm = true) (hN : X.N.Nodup) (hi : X.N[i]? = some x) (hj : X.N[j]? = some y) (hl : X.N[l]? = some z) (hij : i ≠ j) (hil : i ≠ l) (hjl : j ≠ l)
    (hx : X.env.scope.names.lookup x = some .local) (hy : X.env.scope.names.lookup y = some .local) (hz : X.env.scope.names.lookup z = some .local) (ha : JA X E [a, b, c] m)
    (hw : swappedStores [.Tuple [.Name x px, .Name y py, .Name z pz] kt pt] (.Tuple [a, b, c] k2 pt2) X.env = pure (some [x, y, z]))
    (hs : swapsWithSole [.Tuple [.Name x px, .Name y py, .Name z pz] kt pt] (.Tuple [a, b, c] k2 pt2) pos.line X.env = pure false := by rfl) :
    JS X E (.Assign [.Tuple [.Name x px, .Name y py, .Name z pz] kt pt] (.Tuple [a, b, c] k2 pt2) pos) (mPar3 i j l m) :=
  ps_imp (ps_par3 hc hN hi hj hl hij hil hjl hx hy hz ha hw hs) fun _ _ _ h => par3_imp h
end
/-! ### a cell that is written no more becomes a datum -/
def mStl (i : Nat) (m : MS) : MS := fun ρ κ => match ρ[i]? with
  | some (some (.c j)) => match κ[j]? with
    | some (.lst ys) => match allD ys with
      | some xs => m (ρ.set i (some (.d (.list xs)))) (κ.set j .dead)
      | none => .bad
    | _ => .bad
  | some (some (.d _)) => m ρ κ
  | _ => .bad
theorem HSt.settle {K : PySem.W.Frag} {F : List Addr} {B : Hp} {ι : List Addr} {H : Hp} {κ : Kap} (s : HSt K F B ι H κ) {j : Nat} {a : Addr} {ys : List DV} {xs : List D} (h1 : ι[j]? = some a) (h2 : κ[j]? = some (.lst ys)) (e : allD ys = some xs) :
    ∃ B', HSt K F B' ι H (κ.set j .dead) ∧ Grow F B ι H B' ι H ∧ Rp K B' (.ref a) (.list xs) := by
  obtain ⟨vs, h3, h4⟩ := s.cel j a _ h1 h2
  have hb := s.out j a h1 (by rw [h2]; simp)
  have b : Same B (upd B a (.lst vs)) := Same.updNew hb
  refine ⟨upd B a (.lst vs), ⟨Same.updL s.ex h3, by rw [List.length_set]; exact s.len, s.nd, fun i c e1 l => ?_, fun c m => ?_, fun i c cl e1 e2 => ?_, s.tr, fun q m => let t := s.tb q m; t.to b rfl (by rw [upd_ne fun z => t.2.2.1 (by rw [z]; exact List.mem_of_getElem? h1)]; exact t.2.1) t.2.2.1 t.2.2.2⟩, ⟨b, fun _ _ h => h, fun _ _ => rfl⟩, .lst upd_same ((allD_ok h4 e).mono b)⟩
  · by_cases q : j = i
    · subst q
      rw [List.getElem?_set_self (List.getElem?_eq_some_iff.mp h2).1] at l
      exact absurd rfl l
    · rw [List.getElem?_set_ne q] at l
      rw [upd_ne (fun (e : c = a) => q (nd_ix s.nd h1 (e ▸ e1)))]
      exact s.out i c e1 l
  · obtain ⟨p1, p2, p3⟩ := s.pro c m
    refine ⟨p1, ?_, p3⟩
    rw [upd_ne (fun (e : c = a) => p3 (e ▸ List.mem_of_getElem? h1))]; exact p2
  · by_cases q : j = i
    · subst q
      rw [List.getElem?_set_self (List.getElem?_eq_some_iff.mp h2).1] at e2
      cases e2; exact True.intro
    · rw [List.getElem?_set_ne q] at e2
      exact (s.cel i c cl e1 e2).mono b (fun _ _ h => h) rfl
section
variable {X : Cx} {E : XK} {st : Stmt} {sts : List Stmt} {m : MS} {i : Nat}
theorem stl_imp {K : PySem.W.Frag} {mg : Str → Option Value} {De : Ends} {σ : L2.St} {H : Hp} (h : tS K mg E (mStl i m) De σ H) : tS K mg E m De σ H := by
  obtain ⟨F, B, ι, ρ, κ, s, h⟩ := h
  unfold mStl at h
  split at h
  · rename_i j e0
    split at h
    · rename_i ys e1
      split at h
      · rename_i xs e2
        obtain ⟨v, hv, a, h1, rfl⟩ := s.loc i _ e0
        obtain ⟨B', s1, g1, r⟩ := s.hs.settle h1 e1 e2
        refine ⟨F, B', ι, _, _, ⟨s1, by rw [List.length_set]; exact s.sl, fun k x ek => ?_⟩, PostS.grow h g1⟩
        by_cases q : i = k
        · subst q
          rw [List.getElem?_set_self (List.getElem?_eq_some_iff.mp e0).1] at ek
          cases ek
          exact ⟨_, hv, r⟩
        · rw [List.getElem?_set_ne q] at ek
          obtain ⟨u, hu, w⟩ := s.loc k x ek
          exact ⟨u, hu, w.grow g1⟩
      · exact h.elim
    · exact h.elim
  · exact ⟨F, B, ι, ρ, κ, s, h⟩
  · exact h.elim
theorem js_stl (h : JS X E st m) : JS X E st (mStl i m) := ps_imp h fun _ _ _ h => stl_imp h
theorem jss_stl (h : JSs X E sts m) : JSs X E sts (mStl i m) := pss_imp h fun _ _ _ h => stl_imp h
end
/-! ### the law's assembly -/
theorem Cal.bad {P : Program} {w : World} {K : PySem.W.Frag} {mg : Str → Option Value} {base : Heap} {k : Nat} {x : Str} {st : Stmt} {ps : List Str} {f : Addr} {fd : FuncData} (Fu : Fun K x x st f fd) (b : Binds K fd ps []) (hm : mg x = some (.ref f)) : Cal P w K mg base k x st ps (fun _ _ => .bad) :=
  ⟨⟨f, fd, Fu, b, ⟨fun _ _ _ _ h => by obtain ⟨_, _, _, _, _, _, _, _, h⟩ := h; exact h.elim, fun _ _ _ _ _ _ _ _ _ _ _ _ _ _ h => by obtain ⟨_, _, _, _, _, _, _, _, h⟩ := h; exact h.elim⟩, hm⟩, fun _ _ _ => rfl⟩
theorem Fun.inj {K : PySem.W.Frag} {x q : Str} {st : Stmt} {f : Addr} {fd fd' : FuncData} (a : Fun K x q st f fd) (b : Fun K x q st f fd') : fd = fd' := by
  obtain ⟨oc, od, kV, doc, pm, an, cdv, ct, osl, e, l, _⟩ := a.ex
  obtain ⟨oc', od', kV', doc', pm', an', cdv', ct', osl', e', l', _⟩ := b.ex
  rw [l] at l'
  cases l'
  rfl
theorem Cal.fn {P : Program} {w : World} {K : PySem.W.Frag} {mg : Str → Option Value} {base : Heap} {k : Nat} {x : Str} {st : Stmt} {ps : List Str} {m : MF} {f : Addr} {fd : FuncData} (C : Cal P w K mg base k x st ps m) (Fu : Fun K x x st f fd) (hm : mg x = some (.ref f)) : FnG P w K mg base CX0 k f fd ps (spM K mg ps.length m) := by
  obtain ⟨f', fd', Fu', _, G, hm'⟩ := C.ex
  rw [hm] at hm'
  cases hm'
  rw [Fun.inj Fu Fu']
  exact G
/-- the heap without the tables -/
def noTab (H : Hp) : Hp := fun a => match H a with
  | some (.tbl _) => none
  | o => o
theorem noTab_some {H : Hp} {a : Addr} {o : HO} (h : H a = some o) (n : ∀ ps, o ≠ .tbl ps) : noTab H a = some o := by
  unfold noTab
  rw [h]
  cases o with
  | tbl ps => exact absurd rfl (n ps)
  | _ => rfl
theorem noTab_of {H : Hp} {a : Addr} {o : HO} (h : noTab H a = some o) : H a = some o := by
  unfold noTab at h
  cases q : H a with
  | none => rw [q] at h; cases h
  | some u =>
    rw [q] at h
    cases u with
    | tbl ps => cases h
    | _ => exact h
theorem law_prom {K : PySem.W.Frag} {mg : Str → Option Value} {H : Hp} {a : Addr} {ns : List Int} {m : MF} (hT : ∀ p ∈ tabsOf K, H p.1 = some (.tbl #[])) (hS : SqL K H a (ns.map V.int)) (h : ∃ κ, m [.d (scr (ns.map .int))] [] = .ok (.d (.bool true)) κ) : spM K mg 1 m [.ref a] H (fun v _ => v = .bl true) fun _ _ _ => False := by
  obtain ⟨κ, e⟩ := h
  have hS2 : SqL K (noTab H) a (ns.map V.int) := by
    rcases hS with (h | ⟨o, h⟩) | h
    · exact .inl (.inl (noTab_some h (by intro _ z; cases z)))
    · exact .inl (.inr ⟨o, noTab_some h (by intro _ z; cases z)⟩)
    · exact .inr h
  refine ⟨rfl, [], noTab H, [], [.d (scr (ns.map .int))], [], ⟨fun _ _ => noTab_of, rfl, List.nodup_nil, fun _ _ e => by simp at e, fun _ m => by simp at m, fun _ _ _ e => by simp at e, fun _ m => by simp at m, fun p m => ⟨⟨#[], hT p m, True.intro, fun pos cv z => ?_⟩, ?_, List.not_mem_nil, List.not_mem_nil⟩⟩, .cons (.scr hS2) .nil, ?_⟩
  · have z : codeAmong pos [] = some cv := z
    simp [codeAmong] at z
  · unfold noTab; rw [hT p m]
  rw [e]
  intro v B' ι' H' _ _ w
  cases w
  rfl
end DL

namespace DL
open L2 PyProof.Rows PySem PySem.Spec PySem.Froz

/-- at a: a set of the texts l, which can be walked -/
def TSet (P : Program) (w : World) (h : Heap) (a : Addr) (l : List Str) : Prop :=
  ∃ D : SD, h.get? a = some (sObj "set" D) ∧ TxOk P w D l ∧ l.Nodup ∧ Ris D.2.2.place.toList ∧ (w.params.followText "set-order" = true ∨ D.2.2.led = true)

section
variable {P : Program} {w : World} {A : Around} {E : Value → Shared → Prop} {s : Shared} {a : Addr} {l : List Str}
theorem TSet.keep {h h' : Heap} (t : TSet P w h a l) (k : ∀ o, h.get? a = some o → h'.get? a = some o) : TSet P w h' a l :=
  let ⟨D, e, r⟩ := t
  ⟨D, k _ e, r⟩
theorem addTx_walk (D : SD) (hv : Int) (v : Value) (q : Ris D.2.2.place.toList) : Ris (addTx hv v D).2.2.place.toList ∧ (addTx hv v D).2.2.led = D.2.2.led := by
  obtain ⟨es, ep, t⟩ := D
  have g1 := layNew_ris t es hv v q
  have g2 := layNew_led t es hv v
  show Ris (tailTx ep _ _ _).2.2.place.toList ∧ (tailTx ep _ _ _).2.2.led = t.led
  dsimp only
  generalize layNew t es hv v = Z at g1 g2 ⊢
  have z : ∀ u : SetTable, Ris u.place.toList → u.led = t.led → Ris (tailTx ep Z.1 u Z.2.2.1).2.2.place.toList ∧ (tailTx ep Z.1 u Z.2.2.1).2.2.led = t.led := fun u y1 y2 => by
    unfold tailTx
    split
    · exact ⟨relayAll_ris u Z.1 _, (relayAll_led u Z.1 _).trans y2⟩
    · exact ⟨y1, y2⟩
  refine z _ ?_ ?_
  · split <;> exact g1
  · split <;> exact g2
/-- one text more -/
def addL (l : List Str) (k : Str) : List Str := if k ∈ l then l else k :: l
theorem TSet.add {k : Str} {u : Tok} {Q : Bool → Shared → Prop} (t : TSet P w s.heap a l) (room : l.length + 1 < scanBound)
    (c : ∀ (b : Bool) (h' : Heap), (∀ x, x ≠ a → h'.get? x = s.heap.get? x) → TSet P w h' a (addL l k) → Q b { s with heap := h' }) : wpAny (model P w) A (setAddHashed a (.str k u) (hashStr w k)) Q E s := by
  obtain ⟨D, e, F, nd, r, hl⟩ := t
  by_cases m : k ∈ l
  · have c0 := c false s.heap (fun _ _ => rfl) (by rw [addL, if_pos m]; exact ⟨D, e, F, nd, r, hl⟩)
    obtain ⟨es, ep, tb⟩ := D
    obtain ⟨f1, f2, f3, f4⟩ := F
    have f5 : es.size < scanBound := by rw [show es.size = l.length from f3]; omega
    unfold setAddHashed setAddHashedIn
    refine wpAny_holding <| wpAny_bind <| wpAny_setState_of e rfl f4 ?_
    dsimp only
    rw [byScan_of rfl f5 f1, if_pos rfl]
    unfold setAddByScan
    refine wpAny_bind <| wpAny_bind <| wpAny_rule <| wpAny_bind <| wpAny_setScan_of (is_str (P := P) k u) e rfl f4 f1 ?_
    cases q : List.findIdx? (fun z => (strKind P w).is k z.2) es.toList with
    | none =>
      obtain ⟨z, hz, y⟩ := (f2 k).mp m
      have y2 := List.findIdx?_eq_none_iff.mp q z hz
      rw [y] at y2
      cases y2
    | some j =>
      dsimp only
      exact wpAny_pure (wpAny_pure c0)
  · refine add_x (l := l) e F m room (c true _ (fun x hx => Heap.get?_update_ne _ _ _ _ hx) ?_)
    obtain ⟨w1, w2⟩ := addTx_walk D (hashStr w k) (.str k u) r
    rw [addL, if_neg m]
    exact ⟨_, get_upd _ e rfl, add_ok u F, List.nodup_cons.mpr ⟨m, nd⟩, w1, hl.imp id fun z => w2.trans z⟩
theorem TSet.new {h : Heap} (e : h.get? a = some { cls := .type "set", dict := none, data := .set #[] 0 (.fresh 0 0 (!w.params.followText "set-order")) }) : TSet P w h a [] := by
  refine ⟨(#[], 0, .fresh 0 0 (!w.params.followText "set-order")), e, .nil rfl, List.nodup_nil, List.Pairwise.nil, ?_⟩
  cases q : w.params.followText "set-order"
  · exact .inr rfl
  · exact .inl rfl
end
end DL

namespace DL
open L2 PyProof.Rows PySem PySem.Spec PySem.Froz

/-- the texts of a list, each once -/
def onceL (l : List Str) (xs : List Str) : List Str := xs.foldl addL l
theorem onceL_len : ∀ (xs l : List Str), (onceL l xs).length ≤ l.length + xs.length
  | [], _ => Nat.le_refl _
  | x :: xs, l => by
    have h := onceL_len xs (addL l x)
    have g : (addL l x).length ≤ l.length + 1 := by unfold addL; split <;> simp
    show (onceL (addL l x) xs).length ≤ l.length + (xs.length + 1)
    omega
theorem onceL_mem : ∀ (xs l : List Str) (k : Str), k ∈ onceL l xs ↔ k ∈ l ∨ k ∈ xs
  | [], l, k => by simp [onceL]
  | x :: xs, l, k => by
    have h := onceL_mem xs (addL l x) k
    have g : k ∈ addL l x ↔ k ∈ l ∨ k = x := by
      unfold addL
      split
      · exact ⟨.inl, fun o => o.elim id fun e => by rw [e]; assumption⟩
      · rw [List.mem_cons]; exact Or.comm
    show k ∈ onceL (addL l x) xs ↔ _
    rw [h, g, List.mem_cons, or_assoc]
theorem onceL_nodup : ∀ (xs l : List Str), l.Nodup → (onceL l xs).Nodup
  | [], _, h => h
  | x :: xs, l, h => onceL_nodup xs (addL l x) (by
    unfold addL
    split
    · exact h
    · rename_i m; exact List.nodup_cons.mpr ⟨m, h⟩)

section
variable {P : Program} {w : World} {A : Around} {E : Value → Shared → Prop} {s : Shared} {R : Result → Shared → Prop}
theorem upd_loop {it S : Addr} {fp wr : List Addr} {G : Array GenState → Array GenState → Prop} {n : Nat} {Pv : Nat → Value → Prop} {St : Nat → Shared → Prop} (W : WalksS P w A.in1 it fp wr G n Pv St) (hS : S ∉ fp) (xs : List Str) (hn : n = xs.length)
    (hv : ∀ i v, Pv i v → ∃ k t, xs[i]? = some k ∧ v = .str k t) : ∀ (m i : Nat) (l : List Str) (s : Shared), i + m = n → St i s → TSet P w s.heap S l → l.length + m + 1 < scanBound →
      (∀ s', Moved (S :: wr) G s s' → TSet P w s'.heap S (onceL l (xs.drop i)) → R (.ok (.ret .none)) s') →
      codeAny (model P w) A (.builtin "set.update.loop" ⟨[.ref S, .ref it], []⟩) R s := by
  have nw : S ∉ wr := fun m => hS (W.sub _ m)
  have more : ∀ z ∈ wr, z ∈ S :: wr := fun z m => List.mem_cons_of_mem _ m
  intro m
  induction m with
  | zero =>
    intro i l s e st t b c
    obtain rfl : i = n := e
    refine codeAny_builtin PyProof.Rows.F.entry_set_update_loop ?_
    rw [Around.under_plainId PyProof.Rows.F.plain_set_update_loop]
    refine wpAny_bind (m := pyNext (.ref it)) <| W.done s _ _ st fun s' v => ?_
    have d : xs.drop i = [] := List.drop_of_length_le (Nat.le_of_eq hn.symm)
    have c1 := c s' (v.mono more)
    rw [d] at c1
    exact wpAny_pure (c1 (t.keep fun o q => v.heap S o nw q))
  | succ m ih =>
    intro i l s e st t b c
    have lt : i < n := by omega
    refine codeAny_builtin PyProof.Rows.F.entry_set_update_loop ?_
    rw [Around.under_plainId PyProof.Rows.F.plain_set_update_loop]
    refine wpAny_bind (m := pyNext (.ref it)) <| W.item i s _ _ lt st fun v s1 hp st1 mv => ?_
    obtain ⟨k, u, hk, rfl⟩ := hv i v hp
    have dd : xs.drop i = k :: xs.drop (i + 1) := by
      obtain ⟨h1, h2⟩ := List.getElem?_eq_some_iff.mp hk
      rw [← h2, List.drop_eq_getElem_cons h1]
    have t1 : TSet P w s1.heap S l := t.keep fun o q => mv.heap S o nw q
    refine wpAny_bind (m := holding _ (setAdd S (.str k u))) <| wpAny_holding ?_
    unfold setAdd
    refine wpAny_holding <| wpAny_bind <| (strKind P w).pyHash (is_str (P := P) (w := w) k u) ?_
    refine TSet.add (s := { s1 with toks := s1.toks + 1 }) t1 (by omega) fun bb h' same t2 => ?_
    refine wpAny_pure ⟨plainId_quiet PyProof.Rows.F.plain_set_update_loop _, ih (i + 1) (addL l k) _ (by omega) (W.frame _ s1 _ _ st1 (Nat.le_succ _) fun z hz o q => ?_) t2 (by have := onceL_len [k] l; simp [onceL] at this; omega) fun s2 mv2 t3 => ?_⟩
    · exact (same z fun (y : z = S) => hS (y ▸ hz)).trans q
    · refine c s2 (Moved.trans W.gtrans ((mv.mono more).then_heap (Nat.le_succ _) fun z o hz q => ?_) mv2) ?_
      · exact (same z fun (y : z = S) => hz (by rw [y]; exact List.mem_cons_self)).trans q
      · rw [dd]; exact t3
end
end DL

namespace DL
open L2 PyProof.Rows PySem PySem.Spec PySem.Froz

/-- a new set -/
abbrev nS (w : World) : Obj := { cls := .type "set", dict := none, data := .set #[] 0 (.fresh 0 0 (!w.params.followText "set-order")) }
section
variable {P : Program} {w : World} {A : Around} {E : Value → Shared → Prop} {s : Shared}
set_option maxHeartbeats 3200000 in
theorem set_list {p : Addr} {its : Array Value} {xs : List Str} {Q : Value → Shared → Prop} (no : A.handled = none) (isl : s.heap.IsList p its) (val : StrsAre its.toList xs) (few : xs.length + 1 < scanBound)
    (c : ∀ (h' : Heap) (k : Nat), TSet P w h' s.heap.objs.size (onceL [] xs) → (∀ b o, s.heap.get? b = some o → h'.get? b = some o) → Q (.ref s.heap.objs.size) { s with heap := h', toks := k }) :
    wpAny (model P w) A (call (.type "set") [.ref p]) Q E s := by
  have x1 := PySem.F.called_set.notType
  have x2 := PySem.F.called_set.canCreate
  have x3 := PySem.F.typeCall_set_1 (.ref p)
  have x4 := PySem.F.called_set.made
  have x5 := PySem.F.called_set.sub
  obtain ⟨c0, tl, x6⟩ := PySem.F.called_set.mro
  refine wpAny_call <| codeAny_of_tree ?_
  show wpAny (model P w) _ (callAny (.type "set") ⟨[.ref p], []⟩) _ _ s
  refine wpAny_pure ⟨Code.quiet_builtin _ (by decide +kernel), ?_⟩
  refine codeAny_builtin PySem.F.entry_type_call ?_
  rw [Around.under_plain (weight_type_call_type "set" [.ref p] []) (by rfl)]
  repeat (any_goals (first | assumption | wp_step))
  refine codeAny_mono (code_set_led1 (P := P) (w := w) (.ref p) (E := E) (Q₁ := fun v t => v = .ref s.heap.objs.size ∧ t = { s with heap := s.heap.push (nS w) }) ⟨rfl, rfl⟩) fun r t y => ?_
  cases r with
  | error e => exact y
  | ok fl =>
    cases fl with
    | ret v =>
      obtain ⟨rfl, rfl⟩ := y
      have g0 : (s.heap.push (nS w)).get? s.heap.objs.size = some (nS w) := Heap.get?_push_size _ rfl
      have ty : Shared.TypeIs { s with heap := s.heap.push (nS w) } (.ref s.heap.objs.size) "set" := ⟨_, g0, rfl⟩
      have x7 := PySem.F.called_set.init.lookup
      have x8 := PySem.F.called_set.init.bind (.ref s.heap.objs.size)
      repeat (any_goals (first | assumption | wp_step))
      let Rr : Value → Shared → Prop := fun r t => r = .none ∧ ∃ h' k, t = { s with heap := h', toks := k } ∧ TSet P w h' s.heap.objs.size (onceL [] xs) ∧ ∀ b o, s.heap.get? b = some o → h'.get? b = some o
      refine codeAny_mono (codeAny_call_builtin (R := wants Rr E) PySem.F.called_set.init.plain PySem.F.entry_set_init (check_set_init_1 ty ?_)) fun r2 t2 y2 => ?_
      · obtain ⟨⟨oc, od, oa, os⟩, ge, rfl, nl, rfl⟩ := isl
        have ge2 : (s.heap.push (nS w)).get? p = some ⟨.type "list", od, .seq its nl, os⟩ := Heap.get?_push_of_some _ ge
        have lst : (s.heap.push (nS w)).IsList p its := ⟨_, ge2, rfl, nl, rfl⟩
        have y1 := PySem.F.sub_list_set
        have y2 := PySem.F.sub_list_frozenset
        have y3 : (Value.type "list" == Value.type "dict") = false := by decide
        unfold Builtin.«set.__init__» noKeywords Builtin.Frozenset.updateFrom
        generalize ei : pyIter = pI
        wp_walk
        subst ei
        refine wpAny_pyIter_list lst <| wpAny_bind <| wpAny_runValue ?_
        have lt : p < s.heap.objs.size := Heap.lt_size ge
        have z1 : (s.heap.push (nS w)).objs.size = s.heap.objs.size + 1 := Heap.size_push ..
        have n1 : p ≠ (s.heap.push (nS w)).objs.size := z1 ▸ Nat.ne_of_lt (Nat.lt_succ_of_lt lt)
        have n2 : s.heap.objs.size ∉ [(s.heap.push (nS w)).objs.size, p] := by
          rw [z1]
          intro m
          rcases List.mem_cons.mp m with m | m
          · exact Nat.ne_of_lt (Nat.lt_succ_self _) m
          · exact Nat.ne_of_gt lt (List.mem_singleton.mp m)
        have len : its.size = xs.length := by rw [← StrsAre.len_eq val, Array.length_toList]
        have no3 : A.in1.in1.in1.handled = none := no
        have vv : ∀ (i : Nat) (v : Value), its[i]? = some v → ∃ k t, xs[i]? = some k ∧ v = .str k t := fun i v hv => by
          obtain ⟨t, e⟩ := SS.strs_at val i v ((Array.getElem?_toList ..).trans hv)
          have il : i < xs.length := by rw [← len]; exact (Array.getElem?_eq_some_iff.mp hv).1
          refine ⟨xs[i], t, List.getElem?_eq_getElem il, ?_⟩
          rw [e, List.getD_eq_getElem?_getD, List.getElem?_eq_getElem il]
          rfl
        have g1 : ∀ o, ((s.heap.push (nS w)).push o).get? s.heap.objs.size = some (nS w) := fun o => Heap.get?_push_of_some _ g0
        refine upd_loop (S := s.heap.objs.size) ((Walks.list no3 _ p n1 its).toS) n2 xs len vv its.size 0 [] _ (by omega) ⟨⟨_, Heap.get?_push_size _ rfl, rfl, rfl⟩, lst.push _⟩ (TSet.new (g1 _)) (by rw [len]; simpa using few) fun s1 mv ts => ?_
        obtain ⟨h1, g1, d1, k1, o1⟩ := s1
        obtain rfl : g1 = s.gens := mv.gens
        obtain rfl : d1 = s.drawn := mv.drawn
        obtain rfl : o1 = s.os := mv.os
        refine wpAny_pure (wpAny_pure ⟨rfl, h1, k1, rfl, ts, fun b o q => ?_⟩)
        have lb : b < s.heap.objs.size := Heap.lt_size q
        refine mv.heap b o (fun m => ?_) (Heap.get?_push_of_some _ (Heap.get?_push_of_some _ q))
        rcases List.mem_cons.mp m with m | m
        · exact Nat.ne_of_lt lb m
        · exact Nat.ne_of_lt (Nat.lt_succ_of_lt lb) ((List.mem_singleton.mp m).trans z1)
      · cases r2 with
        | error e => exact y2
        | ok fl2 =>
          cases fl2 with
          | ret r =>
            obtain ⟨rfl, h', k, rfl, ts, kp⟩ := y2
            repeat (any_goals (first | assumption | wp_step))
            exact c _ _ ts kp
          | _ => exact y2.elim
    | _ => exact y.elim
end
end DL

namespace DL
open L2 PyProof.Rows PySem PySem.Spec PySem.Froz

/-! ### rising -/
def txtLe (a b : Str) : Bool := decide (a.cps.toList ≤ b.cps.toList)
def sortS (xs : List Str) : List Str := xs.mergeSort txtLe
theorem txtLe_trans (a b c : Str) (h : txtLe a b = true) (g : txtLe b c = true) : txtLe a c = true := decide_eq_true (List.le_trans (of_decide_eq_true h) (of_decide_eq_true g))
theorem txtLe_total (a b : Str) : (txtLe a b || txtLe b a) = true := by
  rw [Bool.or_eq_true]
  exact (List.le_total a.cps.toList b.cps.toList).imp decide_eq_true decide_eq_true
theorem txtLe_anti (a b : Str) (h : txtLe a b = true) (g : txtLe b a = true) : a = b := by
  have e := List.le_antisymm (of_decide_eq_true h) (of_decide_eq_true g)
  cases a; cases b
  exact congrArg Str.mk (Array.toList_inj.mp e)
theorem sortS_perm {xs ys : List Str} (p : xs.Perm ys) : sortS xs = sortS ys :=
  List.Perm.eq_of_pairwise (le := fun a b => txtLe a b = true) (fun a b _ _ h g => txtLe_anti a b h g) (List.pairwise_mergeSort txtLe_trans txtLe_total xs) (List.pairwise_mergeSort txtLe_trans txtLe_total ys)
    ((List.mergeSort_perm xs txtLe).trans (p.trans (List.mergeSort_perm ys txtLe).symm))
/-- sorted(set(xs)) -/
def sortedL (xs : List Str) : List Str := sortS (onceL [] xs)

theorem perm_sub : ∀ (l m : List Str), l.Nodup → (∀ k ∈ l, k ∈ m) → m.length ≤ l.length → l.Perm m
  | [], m, _, _, h => by rw [List.eq_nil_of_length_eq_zero (Nat.le_zero.mp h)]
  | x :: l, m, nd, sub, h => by
    obtain ⟨n1, n2⟩ := List.nodup_cons.mp nd
    have p := List.perm_cons_erase (sub x List.mem_cons_self)
    have e := p.length_eq
    rw [List.length_cons] at e h
    refine ((perm_sub l (m.erase x) n2 (fun k hk => ?_) (by omega)).cons x).trans p.symm
    exact (List.mem_erase_of_ne (fun (z : k = x) => n1 (z ▸ hk))).mpr (sub k (List.mem_cons_of_mem _ hk))
def txtOf : Value → Str
  | .str k _ => k
  | _ => default
section
variable {P : Program} {w : World} {A : Around} {E : Value → Shared → Prop} {s : Shared} {a : Addr} {l : List Str}
theorem is_txt {k : Str} {v : Value} (h : (strKind P w).is k v = true) : ∃ t, v = .str k t := by
  have h : Value.isStrOf k v = true := h
  cases v <;> simp [Value.isStrOf] at h
  subst h
  exact ⟨_, rfl⟩
theorem txts_of {es : List (Int × Value)} (el : ElemsOf (strKind P w) es) : ∀ v ∈ es.map (·.2), v = .str (txtOf v) (match v with | .str _ t => t | _ => 0) := fun v hv => by
  obtain ⟨e, he, rfl⟩ := List.mem_map.mp hv
  obtain ⟨k, hk, _⟩ := (el e he).1
  obtain ⟨t, e1⟩ := is_txt hk
  rw [e1]
  rfl
theorem perm_txts {D : SD} (F : TxOk P w D l) (nd : l.Nodup) : ((D.1.toList.map (·.2)).map txtOf).Perm l := by
  have sub : ∀ k ∈ l, k ∈ (D.1.toList.map (·.2)).map txtOf := fun k hk => by
    obtain ⟨e, he, q⟩ := (F.mem k).mp hk
    obtain ⟨t, e1⟩ := is_txt q
    exact List.mem_map.mpr ⟨e.2, List.mem_map.mpr ⟨e, he, rfl⟩, by rw [e1]; rfl⟩
  have len : ((D.1.toList.map (·.2)).map txtOf).length = l.length := by
    rw [List.length_map, List.length_map, Array.length_toList]; exact F.sz
  exact (perm_sub _ _ nd sub (Nat.le_of_eq len)).symm
end
end DL

namespace DL
open L2 PyProof.Rows PySem PySem.Spec PySem.Froz PySem.W

section
variable {P : Program} {w : World} {A : Around} {E : Value → Shared → Prop} {s : Shared} {a : Addr} {l : List Str}
abbrev IsTxt (v : Value) (k : Str) : Prop := ∃ t, v = .str k t
theorem each_txt : ∀ vs : List Value, (∀ v ∈ vs, v = .str (txtOf v) (match v with | .str _ t => t | _ => 0)) → EachIs IsTxt vs (vs.map txtOf)
  | [], _ => .nil
  | v :: vs, h => .cons ⟨_, h v List.mem_cons_self⟩ (each_txt vs fun u m => h u (List.mem_cons_of_mem _ m))
theorem each_imp {R S : Value → Str → Prop} (f : ∀ v k, R v k → S v k) : ∀ {vs : List Value} {ks : List Str}, EachIs R vs ks → EachIs S vs ks
  | _, _, .nil => .nil
  | _, _, .cons h t => .cons (f _ _ h) (each_imp f t)
theorem sorted_tset {Q : Value → Shared → Prop} (T : TSet P w s.heap a l) (no : A.handled = none) (few : l.length < scanBound) (room : A.units + 64 < cLine)
    (c : ∀ (t : Shared) (p : Addr) (out : List Value) (n : Nat), (∀ b o, s.heap.get? b = some o → t.heap.get? b = some o) → t.gens = s.gens → t.os = s.os → s.heap.objs.size ≤ p → t.heap.get? p = some (seqObj "list" out.toArray n) → EachIs IsTxt out (sortS l) → Q (.ref p) t) :
    wpAny (model P w) A (call (.builtin "sorted") [.ref a]) Q E s := by
  obtain ⟨D, ge, F, nd, ris, led⟩ := T
  have sz : D.1.size < scanBound := by rw [F.sz]; exact few
  refine Calls.call_function_entry kind_sorted plain_sorted entry_sorted (args_sorted1 _) ?_
  unfold Builtin.«sorted»
  refine wpAny_bind (m := checkCount "sorted" 1 1 _) <| wpAny_pure ?_
  refine wpAny_bind <| collect_set (A := A.in1) no ⟨_, ge, rfl, rfl⟩ F.fit sz ris led fun t vs kp grow gg oo pm => ?_
  have bs : (vs.map txtOf).Perm l := (pm.map txtOf).trans (perm_txts F nd)
  have ev : EachIs IsTxt vs (vs.map txtOf) := each_txt vs fun v m => txts_of F.el v (pm.mem_iff.mp m)
  have lv : vs.length = l.length := by rw [← bs.length_eq, List.length_map]
  have ll : vs.length ≤ sizeLine := by rw [lv]; exact fits_of_scanBound few
  refine wpAny_bind <| wpAny_newList ?_ ll
  have nl : (t.heap.push (seqObj "list" vs.toArray 0)).get? t.heap.objs.size = some (seqObj "list" vs.toArray 0) := Heap.get?_push_size _ rfl
  refine wpAny_bind <| wpAny_holding <| list_sort_data (enc := PyData.str) (R := IsTxt) nl ev (each_imp (fun v k ⟨u, e⟩ => ⟨[], by rw [e]; exact ⟨.str k u, List.not_mem_nil⟩⟩) ev) (.of fun _ _ => by simp [alike]) (.others fun _ => ⟨by simp, by simp⟩) (by rw [List.length_map]; exact ll) (fun b _ => ?_) fun out lo eo => ?_
  · have h1 : (A.in1).units ≤ A.units + 1 := by simp [Around.units, Around.in1]
    have h2 : (PyData.str b).depth = 0 := by simp [PyData.depth]
    rw [h2]; omega
  · obtain ⟨n, gn⟩ := sortedHeap_at (vs := vs) (out := out.toArray) nl
    rw [dataLe_str fun x => x] at eo
    have eo : EachIs IsTxt out (sortS (vs.map txtOf)) := eo
    rw [sortS_perm bs] at eo
    refine wpAny_pure ⟨_, rfl, c _ t.heap.objs.size out n (fun b o q => ?_) gg oo grow gn eo⟩
    have q2 := kp b o q
    have lt := Heap.lt_size q2
    have le : b < (t.heap.push (seqObj "list" vs.toArray 0)).objs.size := by rw [size_push']; exact Nat.lt_succ_of_lt lt
    have e1 := sortedHeap_old (vs := vs) (out := out.toArray) (Nat.ne_of_lt lt) le
    exact e1.trans (Heap.get?_push_of_some _ q2)
end
end DL

namespace DL
open L2 PyProof.Rows PySem PySem.Spec PySem.Froz PySem.W

/-- the set of texts at p -/
def hoSet (P : Program) (w : World) (p : Addr) (l : List Str) : HO := .ext fun h => TSet P w h p l
theorem each_vals : ∀ {vs : List Value} {ks : List Str}, EachIs IsTxt vs ks → Vals (ks.map V.str) vs
  | _, _, .nil => .nil
  | _, _, .cons ⟨t, e⟩ r => .cons ⟨t, e⟩ (each_vals r)
section
variable {X : Cx}
def rSetOf (P : Program) (w : World) : List V → Hp → VK → Prop := fun vs H Q => ∃ (a : Addr) (xs : List Str), vs = [.ref a] ∧ H a = some (.lst (xs.map V.str)) ∧ xs.length + 1 < scanBound ∧ ∀ p, H p = none → Q (.ref p) (upd H p (hoSet P w p (onceL [] xs)))
theorem cr_setOf (hc : X.calm = true) : CallR X (.type "set") (rSetOf X.prog X.w) := by
  intro pins s σ H vs us Q I r h
  obtain ⟨a, xs, rfl, ha, few, q⟩ := h
  rw [Vals.ref1 r]
  obtain ⟨its, rv, pl, _⟩ := I.list (.inl (.inl ha))
  have sv : StrsAre its.toArray.toList xs := by simpa using strsAre_of rv
  refine set_list (I.ok.hd hc) pl.isList sv few fun h' k ts kp => ?_
  have new : ObjOk X.prog X.w (upd H s.heap.objs.size (hoSet X.prog X.w s.heap.objs.size (onceL [] xs))) h' s.heap.objs.size (hoSet X.prog X.w s.heap.objs.size (onceL [] xs)) :=
    ⟨ts, let ⟨_, e, _⟩ := ts; ⟨_, e⟩, fun _ _ t k => TSet.keep t k⟩
  exact ⟨.ref _, _, I.laid (t' := k) kp (Nat.le_refl _) new, rfl, q _ (I.hok.fresh (Nat.le_refl _))⟩
def rSortOf (P : Program) (w : World) : List V → Hp → VK → Prop := fun vs H Q => ∃ (a : Addr) (l : List Str), vs = [.ref a] ∧ H a = some (hoSet P w a l) ∧ l.length < scanBound ∧ ∀ p, H p = none → Q (.ref p) (upd H p (.lst ((sortS l).map V.str)))
theorem cr_sortOf (hc : X.calm = true) (hu : X.A.units + 64 < cLine) : CallR X (.builtin "sorted") (rSortOf X.prog X.w) := by
  intro pins s σ H vs us Q I r h
  obtain ⟨a, l, rfl, ha, few, q⟩ := h
  have T : TSet X.prog X.w s.heap a l := (I.hok a _ ha).1
  rw [Vals.ref1 r]
  refine sorted_tset T (I.ok.hd hc) few hu fun t p out n kp gg oo lp gp eo => ?_
  have lo : ((sortS l).map V.str).length ≤ sizeLine := by
    rw [List.length_map, sortS, List.length_mergeSort]; exact fits_of_scanBound few
  have fresh : H p = none := I.hok.fresh lp
  have J : Inv X pins σ (upd H p (.lst ((sortS l).map V.str))) t := I.call' (ch := []) oo (Un.laid kp lp fresh) (I.hok.laid kp lp ⟨lo, out, n, each_vals eo, gp⟩) (by rw [gg]; exact I.bare) fun _ z => nomatch z
  exact ⟨.ref p, _, J, rfl, q p fresh⟩
end
/-- sorted(set(..)) in one -/
def rSortSet (P : Program) (w : World) : List V → Hp → VK → Prop := fun vs H Q => rSetOf P w vs H fun v H1 => rSortOf P w [v] H1 Q
def sortSetD (κ : Kap) (xs : List DV) : Option DV := match xs with
  | [x] => (lv κ x).bind fun ys => (strsD ys).bind fun ks => if ks.length < 4000 then some (.n ((sortedL ks).map .str)) else none
  | _ => none
theorem strs_all {B : Hp} {K : PySem.W.Frag} : ∀ ks : List Str, RpAll K B (ks.map V.str) (ks.map PyData.str)
  | [] => .nil
  | k :: ks => .cons (.str k) (strs_all ks)
theorem sortSetI {K : PySem.W.Frag} {P : Program} {w : World} : CalI K (rSortSet P w) sortSetD := fun F B ι H κ vs xs z s w e Q q => by
  unfold sortSetD at e
  split at e
  · rename_i x
    cases e1 : lv κ x with
    | none => rw [e1] at e; cases e
    | some ys =>
      rw [e1] at e
      simp only [Option.bind_some] at e
      cases e2 : strsD ys with
      | none => rw [e2] at e; cases e
      | some ks =>
        rw [e2] at e
        simp only [Option.bind_some] at e
        split at e
        · rename_i few
          cases e
          cases w with
          | cons w1 w2 =>
            cases w2
            obtain ⟨a, us, rfl, h1, r⟩ := lv_ok (F := F) s w1.toV e1
            rw [strs_ok r e2] at h1
            refine ⟨a, ks, rfl, h1, by unfold scanBound; omega, fun p hp => ⟨p, onceL [] ks, rfl, upd_same, ?_, fun t ht => ?_⟩⟩
            · have := onceL_len ks []
              simp only [List.length_nil, Nat.zero_add] at this
              unfold scanBound; omega
            · obtain ⟨s1, g1, _⟩ := s.loose (o := hoSet P _ p (onceL [] ks)) hp
              exact newQ s1 (strs_all _) (fun v' B' ι' H' g s' w' => q v' B' ι' H' (g1.trans g) s' w') t ht
        · cases e
  · cases e
section
variable {X : Cx} {E : XK} {e : Expr} {ma : MA} {p1 p2 pos1 pos2 : Pos}
theorem je_sortset (hc : X.calm = true) (hu : X.A.units + 64 < cLine) (g1 : Gl X "sorted") (m1 : X.mg "sorted" = none) (g2 : Gl X "set") (m2 : X.mg "set" = none) (ha : JA X E [e] ma)
    (he : starEach [e] X.env = (false, eval e X.env) :: starEach [] X.env := by rfl) : JE X E (.Call (.Name "sorted" p1) [.Call (.Name "set" p2) [e] [] pos2] [] pos1) (mCal sortSetD ma) := by
  have h1 : PE X (.Call (.Name "set" p2) [e] [] pos2) (tCB (rSetOf X.prog X.w) (tA X.K X.mg E ma)) := pe_callTy (cr_setOf hc) g2 m2 (by decide +kernel) ha (by decide) (by decide) he rfl
  have h2 := pe_callB (pos := pos1) (p := p1) (cr_sortOf hc hu) g1 m1 (by decide +kernel) (pa_cons h1 pa_nil) (by decide) (by decide) (by rfl) (by rfl)
  exact pe_imp h2 fun σ H Q h => cal_imp (sortSetI (P := X.prog) (w := X.w)) h
end
end DL

namespace DL
open L2 PyProof.Rows PySem PySem.Spec

/-! ### comprehensions of two clauses -/
def lcGo2 (g : MG) (t : MT) (src1 : MI) (vs1 : List Nat) (g1 : MG) (t1 : MT) (el : ME) (ρw : Rho) : List D → List D → Kap → Out DV
  | [], acc, κ => .ok (.n acc) κ
  | d :: r, acc, κ => match g (.d d) ρw κ with
    | none => .bad
    | some (ρ1, κ1) => (noex (t ρ1 κ1)).bind fun b κ2 => if b = true then (noex (src1 ρ1 κ2)).bind fun ds1 κ3 => (lcGo g1 t1 el (wipeR ρ1 vs1) ds1 acc κ3).bind fun v κ4 => match v with
          | .n acc2 => lcGo2 g t src1 vs1 g1 t1 el ρw r acc2 κ4
          | _ => .bad
      else lcGo2 g t src1 vs1 g1 t1 el ρw r acc κ2
def mLc2 (src : MI) (g : MG) (t : MT) (src1 : MI) (vs1 : List Nat) (g1 : MG) (t1 : MT) (el : ME) (vs : List Nat) : ME := fun ρ κ => (src ρ κ).bind fun ds κ1 => lcGo2 g t src1 vs1 g1 t1 el (wipeR ρ vs) ds [] κ1
section
variable {X : Cx} {E : XK}
theorem lc2_imp {K : PySem.W.Frag} {mg : Str → Option Value} {E : XK} {src src1 : MI} {g g1 : MG} {t t1 : MT} {el : ME} {ts ts1 vs vs1 : List Nat} (ht : ∀ i ∈ ts, i ∈ vs) (ht1 : ∀ i ∈ ts1, i ∈ vs1) {σ : L2.St} {H : Hp} {Q : VK}
    (h : tM K mg E (mLc2 src g t src1 vs1 g1 t1 el vs) σ H Q) :
    tLc2 (tI K mg E src) (tG K g ts) (tT K mg E0 t) (tI K mg E0 src1) (tG K g1 ts1) (tT K mg E0 t1) (tM K mg E0 el) vs vs1 σ H Q := by
  obtain ⟨F, B, ι, ρ, κ, s, h⟩ := h
  unfold mLc2 at h
  refine ⟨F, B, ι, ρ, κ, s, ?_⟩
  cases q : src ρ κ with
  | bad => rw [q] at h; exact h
  | ex n fs κ' => rw [q] at h; exact h
  | ok ds κ1 =>
    rw [q] at h
    have h : PostE K mg E F B ι H Q (lcGo2 g t src1 vs1 g1 t1 el (wipeR ρ vs) ds [] κ1) := h
    intro J B1 ι1 H1 gr1 s1 y Dl hD
    obtain ⟨sD, gD, hDF⟩ := s1.tmp (o := .lst []) hD
    let Inv2 : Nat → Nat → Hp → Prop := fun i m H' => ∃ B' ι' κ' acc vacc, Grow F B1 ι1 H1 B' ι' H' ∧ HSt K (Dl :: F) B' ι' H' κ' ∧ H' Dl = some (.lst vacc) ∧ RpAll K B' vacc acc ∧ m + i = ds.length ∧
      PostE K mg E F B' ι' H' Q (lcGo2 g t src1 vs1 g1 t1 el (wipeR ρ vs) (ds.drop i) acc κ')
    refine ⟨Inv2, ⟨ds.length, B1, ι1, κ1, [], [], gD, sD, upd_same, .nil, rfl, PostE.grow h (gr1.trans gD)⟩, ?_⟩
    rintro i m H' ⟨B', ι', κ', acc, vacc, g2, s2, hL, ra, em, h2⟩
    obtain ⟨y1, y2⟩ := y (Dl :: F) i B' ι' H' κ' (fun _ m => List.mem_cons_of_mem _ m) (g2.less fun _ m => nomatch m) s2
    obtain ⟨p1, p2, p3⟩ := s2.pro Dl (List.mem_cons_self ..)
    cases e : ds[i]? with
    | none =>
      have hl : ds.length ≤ i := List.getElem?_eq_none_iff.mp e
      refine .inl ⟨y2 hl, ?_⟩
      rw [List.drop_eq_nil_of_le hl] at h2
      exact h2 (.ref Dl) B' ι' H' Grow.refl (s2.less fun _ m => List.mem_cons_of_mem _ m) ⟨Dl, vacc, rfl, hL, p2, p3, hDF, ra⟩
    | some d =>
      have hl : i < ds.length := (List.getElem?_eq_some_iff.mp e).1
      obtain ⟨y3, y4⟩ := y1 d e
      have ed : ds.drop i = d :: ds.drop (i + 1) := by
        rw [List.drop_eq_getElem_cons hl]
        rw [List.getElem?_eq_getElem hl] at e
        cases e; rfl
      rw [ed] at h2
      simp only [lcGo2] at h2
      refine .inr ⟨y3, Inv2 (i + 1) (m - 1), fun H' hN => ⟨m - 1, by omega, hN⟩, fun x H'' hy => ?_⟩
      obtain ⟨B2, g3, s3, r⟩ := y4 x H'' hy
      have g3' : Grow F B' ι' H' B2 ι' H'' := g3.less fun _ m => List.mem_cons_of_mem _ m
      have sw : SOk K (Dl :: F) B2 ι' (wipe σ vs) H'' (wipeR ρ vs) κ' := (s.step (gr1.trans (g2.trans g3')) s3).wipe vs
      refine ⟨Dl :: F, B2, ι', wipeR ρ vs, κ', .d d, sw, r, ?_⟩
      cases q2 : g (.d d) (wipeR ρ vs) κ' with
      | none => rw [q2] at h2; exact h2
      | some p =>
        obtain ⟨ρ2, κ2⟩ := p
        rw [q2] at h2
        intro σ2 B4 ι4 H2 ew g4 s4
        have g4' : Grow F B2 ι' H'' B4 ι4 H2 := g4.less fun _ m => List.mem_cons_of_mem _ m
        have hlen : σ2.length = σ.length := by rw [ew.1, wipe_length]
        refine ⟨wipe_eq hlen ew.2 ht, ?_⟩
        dsimp only at h2
        refine evT s4 (fun b κ3 e3 B5 ι5 H5 g5 s5 => ?_) (fun n fs κ3 e3 => by rw [e3] at h2; exact h2.elim) (fun e3 => by rw [e3] at h2; exact h2)
        rw [e3] at h2
        have g5' : Grow F B4 ι4 H2 B5 ι5 H5 := g5.less fun _ m => List.mem_cons_of_mem _ m
        have hL5 : H5 Dl = some (.lst vacc) := (g5.fr Dl (List.mem_cons_self ..)).trans ((g4.fr Dl (List.mem_cons_self ..)).trans ((g3.fr Dl (List.mem_cons_self ..)).trans hL))
        have gb := g3'.trans (g4'.trans g5')
        cases b with
        | false =>
          rw [if_neg Bool.false_ne_true]
          exact ⟨B5, ι5, κ3, acc, vacc, g2.trans gb, s5, hL5, ra.mono gb.b, by omega, PostE.grow h2 gb⟩
        | true =>
          rw [if_pos rfl]
          have h2 : PostE K mg E F B' ι' H' Q ((noex (src1 ρ2 κ3)).bind fun ds1 κ3 => (lcGo g1 t1 el (wipeR ρ2 vs1) ds1 acc κ3).bind fun v κ4 => match v with
            | .n acc2 => lcGo2 g t src1 vs1 g1 t1 el (wipeR ρ vs) (ds.drop (i + 1)) acc2 κ4
            | _ => .bad) := h2
          have so5 := s4.step g5 s5
          refine ⟨Dl :: F, B5, ι5, ρ2, κ3, so5, ?_⟩
          cases q5 : src1 ρ2 κ3 with
          | bad => rw [q5] at h2; exact h2
          | ex n fs κ' => rw [q5] at h2; exact h2.elim
          | ok ds1 κ4 =>
            rw [q5] at h2
            dsimp only [noex, Out.bind] at h2
            intro J1 B6 ι6 H6 g6 s6 yy
            have g6' : Grow F B5 ι5 H5 B6 ι6 H6 := g6.less fun _ m => List.mem_cons_of_mem _ m
            let Co : DV → Kap → Out DV := fun v κ4 => match v with
              | .n acc2 => lcGo2 g t src1 vs1 g1 t1 el (wipeR ρ vs) (ds.drop (i + 1)) acc2 κ4
              | _ => .bad
            let Inv1 : Nat → Nat → Hp → Prop := fun j k H' => ∃ Bb ιb κb acc vacc, Grow (Dl :: F) B5 ι5 H5 B6 ι6 H6 ∧ Grow F B6 ι6 H6 Bb ιb H' ∧ HSt K (Dl :: F) Bb ιb H' κb ∧ H' Dl = some (.lst vacc) ∧ RpAll K Bb vacc acc ∧ k + j = ds1.length ∧
              PostE K mg E F Bb ιb H' Q ((lcGo g1 t1 el (wipeR ρ2 vs1) (ds1.drop j) acc κb).bind Co)
            refine ⟨Inv1, ⟨ds1.length, B6, ι6, κ4, acc, vacc, g6, Grow.refl, s6, (g6.fr Dl (List.mem_cons_self ..)).trans hL5, ra.mono (gb.trans g6').b, rfl, PostE.grow h2 (gb.trans g6')⟩, ?_⟩
            rintro j k H7 ⟨B7, ι7, κ7, acc7, vacc7, _, g7, s7, hL7, ra7, em7, h7⟩
            obtain ⟨z1, z2⟩ := yy (Dl :: F) j B7 ι7 H7 κ7 (fun _ m => m) (g7.less fun _ m => nomatch m) s7
            cases e7 : ds1[j]? with
            | none =>
              have hl7 : ds1.length ≤ j := List.getElem?_eq_none_iff.mp e7
              refine .inl ⟨z2 hl7, ?_⟩
              rw [List.drop_eq_nil_of_le hl7] at h7
              exact ⟨B7, ι7, κ7, acc7, vacc7, g2.trans (gb.trans (g6'.trans g7)), s7, hL7, ra7, by omega, h7⟩
            | some d1 =>
              have hl7 : j < ds1.length := (List.getElem?_eq_some_iff.mp e7).1
              obtain ⟨z3, z4⟩ := z1 d1 e7
              have ed1 : ds1.drop j = d1 :: ds1.drop (j + 1) := by
                rw [List.drop_eq_getElem_cons hl7]
                rw [List.getElem?_eq_getElem hl7] at e7
                cases e7; rfl
              rw [ed1] at h7
              simp only [lcGo] at h7
              refine .inr ⟨z3, Inv1 (j + 1) (k - 1), fun H' hN => ⟨k - 1, by omega, hN⟩, fun x1 H8 hy1 => ?_⟩
              obtain ⟨B8, g8, s8, r8⟩ := z4 x1 H8 hy1
              have g8' : Grow F B7 ι7 H7 B8 ι7 H8 := g8.less fun _ m => List.mem_cons_of_mem _ m
              have sw1 : SOk K (Dl :: F) B8 ι7 (wipe σ2 vs1) H8 (wipeR ρ2 vs1) κ7 := (SOk.step (F := F) ⟨so5.hs.less fun _ m => List.mem_cons_of_mem _ m, so5.sl, so5.loc⟩ (g6'.trans (g7.trans g8')) s8).wipe vs1
              refine ⟨Dl :: F, B8, ι7, wipeR ρ2 vs1, κ7, .d d1, sw1, r8, ?_⟩
              cases q8 : g1 (.d d1) (wipeR ρ2 vs1) κ7 with
              | none => rw [q8] at h7; exact h7
              | some p =>
                obtain ⟨ρ9, κ9⟩ := p
                rw [q8] at h7
                intro σ9 B9 ι9 H9 ew9 g9 s9
                have g9' : Grow F B8 ι7 H8 B9 ι9 H9 := g9.less fun _ m => List.mem_cons_of_mem _ m
                have hlen9 : σ9.length = σ2.length := by rw [ew9.1, wipe_length]
                refine ⟨wipe_eq hlen9 ew9.2 ht1, ?_⟩
                dsimp only at h7
                refine evT s9 (fun b κa ea Ba ιa Ha ga sa => ?_) (fun n fs κa ea => by rw [ea] at h7; exact h7.elim) (fun ea => by rw [ea] at h7; exact h7)
                rw [ea] at h7
                have ga' : Grow F B9 ι9 H9 Ba ιa Ha := ga.less fun _ m => List.mem_cons_of_mem _ m
                have hLa : Ha Dl = some (.lst vacc7) := (ga.fr Dl (List.mem_cons_self ..)).trans ((g9.fr Dl (List.mem_cons_self ..)).trans ((g8.fr Dl (List.mem_cons_self ..)).trans hL7))
                have gc := g8'.trans (g9'.trans ga')
                cases b with
                | false =>
                  rw [if_neg Bool.false_ne_true]
                  exact ⟨Ba, ιa, κa, acc7, vacc7, g6, g7.trans gc, sa, hLa, ra7.mono gc.b, by omega, PostE.grow h7 gc⟩
                | true =>
                  rw [if_pos rfl]
                  have h7 : PostE K mg E F B7 ι7 H7 Q (((noex (el ρ9 κa)).bind fun y κ3 => match fz y with
                    | .d e => if acc7.length < 1000000 then lcGo g1 t1 el (wipeR ρ2 vs1) (ds1.drop (j + 1)) (acc7 ++ [e]) κ3 else .bad
                    | _ => .bad).bind Co) := h7
                  refine evE (s9.step ga sa) (fun y κb eb v Bb ιb Hb gb' sb wb => ?_) (fun n fs κb eb => by rw [eb] at h7; exact h7.elim) (fun eb => by rw [eb] at h7; exact h7)
                  rw [eb] at h7
                  obtain ⟨Bc, sc, gc', wc⟩ := sb.fz wb
                  have gd := gb'.trans gc'
                  have gd' : Grow F Ba ιa Ha Bc ιb Hb := gd.less fun _ m => List.mem_cons_of_mem _ m
                  have h7 : PostE K mg E F B7 ι7 H7 Q ((match fz y with
                    | .d e => if acc7.length < 1000000 then lcGo g1 t1 el (wipeR ρ2 vs1) (ds1.drop (j + 1)) (acc7 ++ [e]) κb else .bad
                    | _ => .bad).bind Co) := h7
                  cases qf : fz y with
                  | c a => rw [qf] at h7; exact h7.elim
                  | n a => rw [qf] at h7; exact h7.elim
                  | d e5 =>
                    rw [qf] at h7 wc
                    by_cases hacc : acc7.length < 1000000
                    · dsimp only at h7
                      rw [if_pos hacc] at h7
                      obtain ⟨sd, gdd⟩ := sc.setP (o := .lst (vacc7 ++ [v])) hDF
                      exact ⟨vacc7, (gb'.fr Dl (List.mem_cons_self ..)).trans hLa, by rw [ra7.len]; exact Nat.lt_of_lt_of_le hacc (by decide), Bc, ιb, κb, acc7 ++ [e5], vacc7 ++ [v], g6, (g7.trans gc).trans (gd'.trans gdd), sd, upd_same, (ra7.mono (gc.trans gd').b).append (.cons wc .nil), by omega, PostE.grow h7 (gc.trans (gd'.trans gdd))⟩
                    · dsimp only at h7
                      rw [if_neg hacc] at h7; exact h7.elim
theorem je_lc2 {elt tg iter tg1 iter1 : Expr} {ifs ifs1 : List Expr} {scope : Scope} {own : List (Str × Nat)} {vs1 : List Nat} {pos : Pos} {src src1 : MI} {g g1 : MG} {t t1 : MT} {el : ME} {ts ts1 : List Nat} (hc : X.calm = true) (hN : X.N.Nodup) (hi : JI X E tg iter src) (ok : BlkOk X.N X.env.scope scope own)
    (hg : ∀ (s : Shared) (H : Hp) (C : Addr) (cl : List (Str × Addr)) (fp : List Addr), JG (X.blk s H scope (compEnvC scope cl C X.env) fp) tg g ts) (ht : ∀ (s : Shared) (H : Hp) (C : Addr) (cl : List (Str × Addr)) (fp : List Addr), JTs (X.blk s H scope (compEnvC scope cl C X.env) fp) E0 ifs t)
    (hi1 : ∀ (s : Shared) (H : Hp) (C : Addr) (cl : List (Str × Addr)) (fp : List Addr), JI (X.blk s H scope (compEnvC scope cl C X.env) fp) E0 tg1 iter1 src1)
    (hg1 : ∀ (s : Shared) (H : Hp) (C : Addr) (cl : List (Str × Addr)) (fp : List Addr), JG (X.blk s H scope (compEnvC scope cl C X.env) fp) tg1 g1 ts1) (ht1 : ∀ (s : Shared) (H : Hp) (C : Addr) (cl : List (Str × Addr)) (fp : List Addr), JTs (X.blk s H scope (compEnvC scope cl C X.env) fp) E0 ifs1 t1)
    (he : ∀ (s : Shared) (H : Hp) (C : Addr) (cl : List (Str × Addr)) (fp : List Addr), JE (X.blk s H scope (compEnvC scope cl C X.env) fp) E0 elt el) (hts : ∀ i ∈ ts, i ∈ own.map (·.2) := by decide) (hts1 : ∀ i ∈ ts1, i ∈ vs1 := by decide) (hv : ∀ i ∈ vs1, i ∈ own.map (·.2) := by decide)
    (hs : ∀ x, foldedSetIterable iter X.env x = pure x := by intro _; rfl) (hs1 : ∀ env x, foldedSetIterable iter1 env x = pure x := by intro _ _; rfl) :
    JE X E (.ListComp elt [⟨tg, iter, ifs, 0⟩, ⟨tg1, iter1, ifs1, 0⟩] scope pos) (mLc2 src g t src1 vs1 g1 t1 el (own.map (·.2))) :=
  pe_imp (pe_lc2 hc hN hi ok hv hg ht hi1 hg1 ht1 he hs hs1) fun _ _ _ h => lc2_imp hts hts1 h
end
end DL

namespace DL
open L2 PyProof.Rows PySem PySem.Spec

/-! ### x += e, of a number or a text -/
def augF : D → D → Option D
  | .int a, .int b => some (.int (a + b))
  | .str a, .str b => if a.length + b.length ≤ 16000000 then some (.str (a ++ b)) else none
  | _, _ => none
def mAug (i : Nat) (m : ME) : MS := fun ρ κ => match ρ[i]? with
  | some (some (.d x)) => (m ρ κ).bindS fun y κ1 => match y with
    | .d y => match augF x y with
      | some z => .nx (ρ.set i (some (.d z))) κ1
      | none => .bad
    | _ => .bad
  | _ => .bad
def rAug : TIp := fun x y H Q => (∃ a b, x = .int a ∧ y = .int b ∧ Q (.int (a + b)) H) ∨ ∃ a b : Str, x = .str a ∧ y = .str b ∧ a.length + b.length ≤ sizeLine ∧ Q (.str (a ++ b)) H
section
variable {X : Cx} {E : XK}
theorem ip_aug : PIp X .Add rAug := by
  intro pins s σ H x y v u Q I r1 r2 h
  rcases h with ⟨a, b, rfl, rfl, q⟩ | ⟨a, b, rfl, rfl, z, q⟩
  · exact ip_add pins s σ H _ _ v u Q I r1 r2 ⟨a, b, rfl, rfl, q⟩
  · obtain ⟨t, rfl⟩ := r1
    obtain ⟨t', rfl⟩ := r2
    exact PyProof.Rows.iadd_str (fun t2 k => ⟨.str _, H, I.tok _, ⟨_, rfl⟩, q⟩) z
theorem aug_imp {K : PySem.W.Frag} {mg : Str → Option Value} {i : Nat} {m : ME} {De : Ends} {σ : L2.St} {H : Hp} (h : tS K mg E (mAug i m) De σ H) : tAug i (tM K mg E m) rAug De σ H := by
  obtain ⟨F, B, ι, ρ, κ, s, h⟩ := h
  unfold mAug at h
  split at h
  · rename_i x e
    obtain ⟨v, ev, wv⟩ := s.loc i _ e
    refine ⟨v, ev, ?_⟩
    refine evE s (fun y κ1 e1 u B1 ι1 H1 g1 s1 w1 => ?_) (fun n fs κ1 e1 => by rw [e1] at h; exact h) (fun e => by rw [e] at h; exact h)
    rw [e1] at h
    dsimp only [Out.bindS] at h
    split at h
    · rename_i y
      split at h
      · rename_i z ez
        have fin : ∀ w, WOk K B1 ι1 w (.d z) → De.nx (σ.set i (some w)) H1 := fun w ww => h _ B1 ι1 H1 g1 ((s.step g1 s1).set i ww)
        unfold augF at ez
        split at ez
        · cases ez; cases wv; cases w1
          exact .inl ⟨_, _, rfl, rfl, fin _ (.int _)⟩
        · split at ez
          · rename_i hl
            cases ez; cases wv; cases w1
            exact .inr ⟨_, _, rfl, rfl, Nat.le_trans hl (by decide), fin _ (.str _)⟩
          · cases ez
        · cases ez
      · exact h.elim
    · exact h.elim
  · exact h.elim
theorem js_aug {i : Nat} {x : Str} {e : Expr} {m : ME} {pos pos' : Pos} (hN : X.N.Nodup) (hi : X.N[i]? = some x) (hx : Loc X.env.scope x) (he : JE X E e m) (hf : X.fn x = true ∨ X.env.scope.names.lookup x = some .local := by first | exact .inl rfl | exact .inr rfl | assumption) :
    JS X E (.AugAssign (.Name x pos') .Add e pos) (mAug i m) := ps_imp (ps_aug hN hi hx he ip_aug hf) fun _ _ _ h => aug_imp h
end
/-! ### found.extend(..), text.index(..) -/
def extF (ys xs : List DV) : Option (DV × List DV) := match xs with
  | [.d (.list zs)] => if ys.length + zs.length ≤ 1000000 then some (.d .none, ys ++ zs.map .d) else none
  | _ => none
theorem pr_d {K : PySem.W.Frag} {B : Hp} {ι : List Addr} : ∀ {vs : List V} {zs : List D}, RpAll K B vs zs → Paired (WOk K B ι) vs (zs.map .d)
  | _, _, .nil => .nil
  | _, _, .cons h r => .cons h (pr_d r)
section
def CelJ (r : V → List V → Hp → VK → Prop) (f : List DV → List DV → Option (DV × List DV)) : Prop :=
  ∀ (K : PySem.W.Frag) (B : Hp) (ι : List Addr) (H : Hp) (a : Addr) (us ws : List V) (ys xs : List DV) (z : DV) (ys' : List DV), Same B H → H a = some (.lst us) → Paired (WOk K B ι) us ys → Paired (WOk K B ι) ws xs → f ys xs = some (z, ys') →
    ∀ Q : VK, (∀ v us', WOk K B ι v z → Paired (WOk K B ι) us' ys' → Q v (upd H a (.lst us'))) → r (.ref a) ws H Q
variable {K : PySem.W.Frag} {mg : Str → Option Value} {E : XK}
theorem cmj_imp {r : V → List V → Hp → VK → Prop} {f : List DV → List DV → Option (DV × List DV)} {mo : ME} {ma : MA} (hi : CelJ r f) {σ : L2.St} {H : Hp} {Q : VK} (h : tM K mg E (mCm f mo ma) σ H Q) : tBM K "list" r (tM K mg E mo) (tA K mg E ma) σ H Q := by
  obtain ⟨F, B, ι, ρ, κ, s, h⟩ := h
  unfold mCm at h
  refine evE s (fun x κ1 e1 v B1 ι1 H1 g1 s1 w1 => ?_) (fun n fs κ1 e1 => by rw [e1] at h; exact h) (fun e => by rw [e] at h; exact h)
  rw [e1] at h
  dsimp only [Out.bind] at h
  split at h
  · rename_i i
    split at h
    · rename_i ys0 e0
      obtain ⟨a, h1, rfl⟩ := w1
      obtain ⟨us0, h0, _⟩ := s1.cel i a _ h1 e0
      refine ⟨.inl ⟨rfl, us0, lst1 h0⟩, ?_⟩
      replace h : PostE K mg E F B ι H Q ((ma ρ κ1).bind fun xs κ2 => match κ2[i]? with
        | some (.lst ys) => match f ys xs with
          | some (z, ys') => .ok z (κ2.set i (.lst ys'))
          | none => .bad
        | _ => .bad) := h
      refine evA (s.step g1 s1) (fun xs κ2 e2 ws B2 ι2 H2 g2 s2 w2 => ?_) (fun n fs κ2 e2 => by rw [e2] at h; exact XW.grow h g1 fun _ m => m) (fun e => by rw [e] at h; exact h)
      rw [e2] at h
      dsimp only [Out.bind] at h
      split at h
      · rename_i ys e3
        split at h
        · rename_i z ys' e4
          have h2 := g2.i i a h1
          obtain ⟨us, h3, p3⟩ := s2.cel i a _ h2 e3
          refine hi K B2 ι2 H2 a us ws ys xs z ys' s2.ex h3 p3 w2 e4 Q fun v us' wv p' => ?_
          obtain ⟨s3, g3⟩ := s2.setCell h2 (by rw [e3]; simp) (o := .lst us') (cl := .lst ys') fun H' e => ⟨us', e, p'⟩
          exact h v B2 ι2 _ ((g1.trans g2).trans g3) s3 wv.toV
        · exact h.elim
      · exact h.elim
    · exact h.elim
  · exact h.elim
end
section
variable {X : Cx} {E : XK} {o e : Expr} {es : List Expr} {name : Str} {apos cpos : Pos} {id : String} {r : V → List V → Hp → VK → Prop} {f : List DV → List DV → Option (DV × List DV)} {mo : ME} {ma : MA}
theorem je_cmj (slot : Slot "list" name id) (hty : typeOf (.builtin id) = pure (.type "method_descriptor")) (hm : MtR X id r) (hi : CelJ r f) (ho : JE X E o mo) (ha : JA X E (e :: es) ma)
    (hbase : attributeBase o name X.env (eval o X.env) = eval o X.env := by rfl)
    (hfew : ((backTo cpos (starEach (e :: es) X.env)).all (fun x => !x.1) && (backToKw cpos (keywordEach [] X.env)).all (fun x => x.1.isSome)
      && decide ((e :: es).length + ([] : List Keyword).length + (if ([] : List Keyword).isEmpty then 0 else 1) < 30)) = true := by rfl)
    (hline : (apos.endLine == cpos.line) = true := by rfl) (hs : starEach (e :: es) X.env = (false, eval e X.env) :: starEach es X.env := by rfl) (hplain : (backTo cpos (starEach es X.env)).any (·.1) = false := by rfl) :
    JE X E (.Call (.Attribute o name apos) (e :: es) [] cpos) (mCm f mo ma) :=
  pe_imp (pe_bm PySem.F.plainAttrs_list slot hty hm ho ha hbase hfew hline hs hplain) fun _ _ _ h => cmj_imp hi h
end
theorem extI : CelJ rExtend extF := fun K B ι H a us ws ys xs z ys' sm h p w e Q q => by
  unfold extF at e
  split at e
  · rename_i zs
    split at e
    · rename_i hl
      cases e
      cases w with
      | cons w1 w2 =>
        cases w2
        have w1 : Rp K B _ (.list zs) := w1
        cases w1 with
        | lst hb r =>
          exact ⟨a, _, us, _, rfl, rfl, h, sm _ _ hb, by rw [p.length, r.len]; exact Nat.le_trans hl (by decide), q .non _ .non (pr_app p (pr_d r))⟩
    · cases e
  · cases e
def sindexF (κ : Kap) (a : Str) (xs : List DV) : Option DV := match xs with
  | [.d (.str b)] => match Builtin.Str.occurrences a b 0 a.length 1 with
    | i :: _ => some (.d (.int (i : Nat)))
    | [] => none
  | _ => none
theorem sindexI {K : PySem.W.Frag} : MsI K (fun x xs H Q => ∃ a b i rest, x = .str a ∧ xs = [.str b] ∧ Builtin.Str.occurrences a b 0 a.length 1 = i :: rest ∧ Q (.int (i : Nat)) H) sindexF := fun F B ι H κ a ws xs z s w e Q q => by
  unfold sindexF at e
  split at e
  · split at e
    · rename_i i r ho
      cases e
      cases w with
      | cons w1 w2 => cases w2; cases w1; exact ⟨a, _, i, r, rfl, rfl, ho, keepQ s (.int _) q⟩
    · cases e
  · cases e
end DL

namespace DL
open L2 PyProof.Rows PySem PySem.Spec

/-! ### a call that only reads: live cells are lent to it, it tells a plain value -/
def brw (κ : Kap) : DV → Option D
  | .d x => some x
  | .c i => match κ[i]? with
    | some (.lst xs) => (allD xs).map .list
    | _ => none
  | .n _ => none
def brwA (κ : Kap) : List DV → Option (List D)
  | [] => some []
  | x :: r => (brw κ x).bind fun d => (brwA κ r).map (d :: ·)
def plainD : D → Bool
  | .none => true
  | .bool _ => true
  | .int _ => true
  | .str _ => true
  | _ => false
def lentO (κ1 : Kap) : Out DV → Out DV
  | .ok (.d x) _ => if plainD x = true then .ok (.d x) κ1 else .bad
  | _ => .bad
def mCallZ (m : MF) (a : MA) : ME := fun ρ κ => (a ρ κ).bind fun xs κ1 => match brwA κ1 xs with
  | some ds => lentO κ1 (m (ds.map .d) [])
  | none => .bad
section
variable {K : PySem.W.Frag} {mg : Str → Option Value} {E : XK} {F : List Addr} {B : Hp} {ι : List Addr} {H : Hp} {κ : Kap}
/-- the frozen heap with all live lists of data in it -/
noncomputable def lend (ι : List Addr) (κ : Kap) (B H : Hp) : Hp := fun a => open Classical in if (∃ (i : Nat) (xs : List DV) (ds : List D), ι[i]? = some a ∧ κ[i]? = some (Cell.lst xs) ∧ allD xs = some ds) then H a else B a
theorem lend_live {a : Addr} {i : Nat} {xs : List DV} {ds : List D} (h1 : ι[i]? = some a) (h2 : κ[i]? = some (.lst xs)) (h3 : allD xs = some ds) : lend ι κ B H a = H a := by
  unfold lend; rw [if_pos ⟨i, xs, ds, h1, h2, h3⟩]
theorem lend_same (s : HSt K F B ι H κ) : Same B (lend ι κ B H) := fun a u e => by
  unfold lend
  split
  · exact s.ex a u e
  · exact e
theorem lend_sub (s : HSt K F B ι H κ) : Same (lend ι κ B H) H := fun a u e => by
  unfold lend at e
  split at e
  · exact e
  · exact s.ex a u e
theorem lend_out (s : HSt K F B ι H κ) {a : Addr} (m : a ∉ ι) : lend ι κ B H a = B a := by
  unfold lend
  rw [if_neg]
  rintro ⟨i, _, _, h, _⟩
  exact m (List.mem_of_getElem? h)
theorem brw_ok (s : HSt K F B ι H κ) {v : V} {x : DV} {d : D} (w : WOk K B ι v x) (e : brw κ x = some d) : WOk K (lend ι κ B H) [] v (.d d) := by
  cases x with
  | d y => cases e; exact Rp.mono (lend_same s) w
  | n ys => cases e
  | c i =>
    obtain ⟨a, h1, rfl⟩ := w
    unfold brw at e
    dsimp only at e
    split at e
    · rename_i xs h2
      cases h3 : allD xs with
      | none => rw [h3] at e; cases e
      | some ds =>
        rw [h3] at e; cases e
        obtain ⟨vs, h4, p⟩ := s.cel i a _ h1 h2
        have r := allD_ok p h3
        exact .lst ((lend_live h1 h2 h3).trans h4) (RpAll.mono (lend_same s) r)
    · cases e
theorem brwA_ok (s : HSt K F B ι H κ) : ∀ {vs : List V} {xs : List DV} {ds : List D}, Paired (WOk K B ι) vs xs → brwA κ xs = some ds → Paired (WOk K (lend ι κ B H) []) vs (ds.map .d)
  | _, _, _, .nil, e => by cases e; exact .nil
  | _, _, _, .cons (b := x) (l₂ := xs) w r, e => by
    unfold brwA at e
    cases e1 : brw κ x with
    | none => rw [e1] at e; cases e
    | some d =>
      rw [e1] at e
      simp only [Option.bind_some] at e
      cases e2 : brwA κ xs with
      | none => rw [e2] at e; cases e
      | some ds' => rw [e2] at e; cases e; exact .cons (brw_ok s w e1) (brwA_ok s r e2)
theorem plain_rp {B B' : Hp} {v : V} {x : D} (h : plainD x = true) (r : Rp K B v x) : Rp K B' v x := by
  cases r with
  | non => exact .non
  | bl b => exact .bl b
  | int i => exact .int i
  | str x => exact .str x
  | _ => cases h
/-- what is known of code objects behind a call is kept -/
def extB (B1 B2 : Hp) : Hp := fun a => match B1 a with
  | some o => some o
  | none => (match B2 a with
    | some (.ext φ) => some (.ext φ)
    | _ => none)
theorem extB_some {B1 B2 : Hp} {a : Addr} {o : HO} (e : extB B1 B2 a = some o) : B1 a = some o ∨ ((∃ φ, o = .ext φ) ∧ B2 a = some o) := by
  unfold extB at e
  cases q : B1 a with
  | some u => rw [q] at e; exact .inl e
  | none =>
    rw [q] at e
    cases q2 : B2 a with
    | none => rw [q2] at e; cases e
    | some u =>
      rw [q2] at e
      cases u with
      | ext φ => cases e; exact .inr ⟨⟨φ, rfl⟩, rfl⟩
      | _ => cases e
theorem extB_none {B1 B2 : Hp} {a : Addr} (h : B1 a = none) (n : ∀ φ, B2 a ≠ some (.ext φ)) : extB B1 B2 a = none := by
  unfold extB
  rw [h]
  cases q : B2 a with
  | none => rfl
  | some u =>
    cases u with
    | ext φ => exact absurd q (n φ)
    | _ => rfl
theorem callZ_imp {m : MF} {np : Nat} (hn : NArgs m np) {ma : MA} {σ : L2.St} {H : Hp} {Q : VK} (h : tM K mg E0 (mCallZ m ma) σ H Q) : tCall (spM K mg np m) [] E (tA K mg E0 ma) σ H Q := by
  obtain ⟨F, B, ι, ρ, κ, s, h⟩ := h
  unfold mCallZ at h
  refine evA s (fun x κ1 e1 v B1 ι1 H1 g1 s1 w1 => ?_) (fun n fs κ1 e1 => by rw [e1] at h; exact h) (fun e => by rw [e] at h; exact h)
  rw [e1] at h
  dsimp only [Out.bind] at h
  split at h
  · rename_i ds eb
    have wp := brwA_ok s1 w1 eb
    have hl : (ds.map DV.d).length = np := Decidable.byContradiction fun q => by rw [hn _ [] q] at h; exact h
    rw [List.append_nil]
    let L := lend ι1 κ1 B1 H1
    have lived : ∀ a ∈ ι1, ∃ o, H1 a = some o := s1.tr
    classical
    let F' := F ++ ι1.filter (fun a => decide (L a = none))
    have st : HSt K F' L [] H1 [] := by
      refine ⟨lend_sub s1, rfl, List.nodup_nil, fun i a e => by simp at e, fun a m => ?_, fun i a cl e => by simp at e, (fun a m => nomatch m), fun q m => let t := s1.tb q m; t.to (lend_same s1) rfl ((lend_out s1 t.2.2.1).trans t.2.1) (fun m => nomatch m) (fun z => (List.mem_append.mp z).elim t.2.2.2 fun z => t.2.2.1 (List.mem_filter.mp z).1)⟩
      rcases List.mem_append.mp m with m | m
      · obtain ⟨h1, h2, h3⟩ := s1.pro a m
        exact ⟨h1, (lend_out s1 h3).trans h2, fun m => nomatch m⟩
      · obtain ⟨m1, m2⟩ := List.mem_filter.mp m
        exact ⟨lived a m1, of_decide_eq_true m2, fun m => nomatch m⟩
    refine ⟨by rw [wp.length]; exact hl, F', L, [], _, [], st, wp, ?_⟩
    cases er : m (ds.map .d) [] with
    | bad => rw [er] at h; exact h
    | ex n fs κ2 => rw [er] at h; exact h.elim
    | ok z κ2 =>
      rw [er] at h
      cases z with
      | c i => exact h.elim
      | n ys => exact h.elim
      | d z =>
        unfold lentO at h
        dsimp only at h
        split at h
        · rename_i pz
          intro u B2 ι2 H2 g2 s2 w2
          have keep : ∀ a ∈ ι1, (∃ o, H2 a = some o) ∧ (L a = none → H2 a = H1 a) ∧ (L a ≠ none → H2 a = L a) := fun a m => by
            by_cases q : L a = none
            · have e := g2.fr a (List.mem_append_right _ (List.mem_filter.mpr ⟨m, decide_eq_true q⟩))
              obtain ⟨o, eo⟩ := lived a m
              exact ⟨⟨o, e.trans eo⟩, fun _ => e, fun z => absurd q z⟩
            · obtain ⟨o, eo⟩ : ∃ o, L a = some o := by
                cases q2 : L a with
                | none => exact absurd q2 q
                | some o => exact ⟨o, rfl⟩
              have e2 := s2.ex a o (g2.b a o eo)
              exact ⟨⟨o, e2⟩, fun z => absurd z q, fun _ => e2.trans eo.symm⟩
          have bx : Same B1 (extB B1 B2) := fun a o e => by rw [extB, e]
          have back : HSt K F (extB B1 B2) ι1 H2 κ1 := by
            refine ⟨fun a o e => ?_, s1.len, s1.nd, fun i a m l => ?_, fun a m => ?_, fun i a cl e1 e2 => ?_, fun a m => (keep a m).1, fun q m => ?_⟩
            · rcases extB_some e with e | ⟨_, e⟩
              · exact s2.ex a o (g2.b a o (lend_same s1 a o e))
              · exact s2.ex a o e
            · refine extB_none (s1.out i a m l) fun φ e => ?_
              have ma := List.mem_of_getElem? m
              by_cases q : L a = none
              · have z := (s2.pro a (List.mem_append_right _ (List.mem_filter.mpr ⟨ma, decide_eq_true q⟩))).2.1
                rw [e] at z; cases z
              · obtain ⟨o, eo⟩ : ∃ o, L a = some o := by
                  cases q2 : L a with
                  | none => exact absurd q2 q
                  | some o => exact ⟨o, rfl⟩
                have e2 := g2.b a o eo
                rw [e] at e2
                cases e2
                have e3 := lend_sub s1 a _ eo
                have c := s1.cel i a _ m (List.getElem?_eq_getElem (by rw [← s1.len]; exact (List.getElem?_eq_some_iff.mp m).1))
                cases q3 : κ1[i]'(by rw [← s1.len]; exact (List.getElem?_eq_some_iff.mp m).1) with
                | dead => exact l (by rw [List.getElem?_eq_getElem (by rw [← s1.len]; exact (List.getElem?_eq_some_iff.mp m).1), q3])
                | lst xs => rw [q3] at c; obtain ⟨vs, c1, _⟩ := c; rw [e3] at c1; cases c1
                | dic xs => rw [q3] at c; obtain ⟨vs, c1, _⟩ := c; rw [e3] at c1; cases c1
            · obtain ⟨h1, h2, h3⟩ := s1.pro a m
              exact ⟨by rw [g2.fr a (List.mem_append_left _ m)]; exact h1, extB_none h2 (fun φ e => by rw [(s2.pro a (List.mem_append_left _ m)).2.1] at e; cases e), h3⟩
            · have c := s1.cel i a cl e1 e2
              obtain ⟨k1, k2, k3⟩ := keep a (List.mem_of_getElem? e1)
              have same : H2 a = H1 a := by
                by_cases q : L a = none
                · exact k2 q
                · refine (k3 q).trans ?_
                  obtain ⟨o, eo⟩ : ∃ o, L a = some o := by
                    cases q2 : L a with
                    | none => exact absurd q2 q
                    | some o => exact ⟨o, rfl⟩
                  exact eo.trans (lend_sub s1 a o eo).symm
              exact c.mono bx (fun _ _ h => h) same
            · obtain ⟨⟨ps, t1, t2, t3⟩, t4⟩ := s2.tb q m
              refine ⟨⟨ps, t1, t2, fun pos cv e => ?_⟩, extB_none (s1.tb q m).2.1 (fun φ e => by rw [t4.1] at e; cases e), (s1.tb q m).2.2.1, (s1.tb q m).2.2.2⟩
              obtain ⟨c, e1, e2⟩ := t3 pos cv e
              refine ⟨c, e1, ?_⟩
              cases q1 : B1 c with
              | none => unfold extB; rw [q1, e2]; rfl
              | some o =>
                have e3 := g2.b c o (lend_same s1 c o q1)
                rw [e2] at e3
                cases e3
                exact bx c _ q1
          refine h u (extB B1 B2) ι1 H2 (g1.trans ⟨bx, fun _ _ h => h, fun a m => g2.fr a (List.mem_append_left _ m)⟩) back ?_
          exact plain_rp pz w2
        · exact h.elim
  · exact h.elim
end
section
variable {X : Cx} {k : Nat} {st : Stmt} {ps : List Str} {m : MF} {x : Str} {p pos : Pos} {e : Expr} {es : List Expr} {ma : MA}
theorem je_callZ (gu : X.A.guards = some []) (hr : Room k X.A) (C : Cal X.prog X.w X.K X.mg X.base k x st ps m) (ha : JA X E0 (e :: es) ma) (hg : Gl X x := by rfl) (hdb : (x == ("__debug__" : Str)) = false := by decide) (he : starEach (e :: es) X.env = (false, eval e X.env) :: starEach es X.env := by rfl) (hpl : (backTo pos (starEach es X.env)).any (·.1) = false := by rfl) :
    JE X E0 (.Call (.Name x p) (e :: es) [] pos) (mCallZ m ma) := by
  obtain ⟨f, fd, Fu, hb, Fo, hm⟩ := C.ex
  exact pe_imp (pe_callG Fo gu hr hg hm Fu.kp hb .nil pass0 ha hdb he hpl) fun _ _ _ h => callZ_imp (E := E0) C.na h
end
end DL

namespace DL
open L2 PyProof.Rows PySem PySem.Spec

/-! ### a, b = e, f through a tuple: new lists become cells where the elements are so taken -/
def mAsgT (n : Nat) (r : List DV → Rho → Kap → Option (Rho × Kap)) (ma : MA) : MS := fun ρ κ => (ma ρ κ).bindS fun xs κ1 => if xs.length = n ∧ n ≤ 1000 then match r xs ρ κ1 with
    | some (ρ', κ') => .nx ρ' κ'
    | none => .bad
  else .bad
section
variable {X : Cx} {E : XK}
theorem asgT_imp {K : PySem.W.Frag} {mg : Str → Option Value} {n : Nat} {r : List DV → Rho → Kap → Option (Rho × Kap)} {ts : List Nat} {ma : MA} {De : Ends} {σ : L2.St} {H : Hp} (h : tS K mg E (mAsgT n r ma) De σ H) : tAsg (tTup (tA K mg E ma)) (gTup K n (tGs K r ts)) De σ H := by
  obtain ⟨F, B, ι, ρ, κ, s, h⟩ := h
  unfold mAsgT at h
  refine evA s (fun xs κ1 e1 vs B1 ι1 H1 g1 s1 w1 => ?_) (fun n fs κ1 e1 => by rw [e1] at h; exact h) (fun e => by rw [e] at h; exact h)
  rw [e1] at h
  dsimp only [Out.bindS] at h
  by_cases c : xs.length = n ∧ n ≤ 1000
  · rw [if_pos c] at h
    have hl : vs.length = n := by rw [w1.length]; exact c.1
    refine ⟨line1000 (by rw [hl]; exact c.2), fun p hp => ?_⟩
    obtain ⟨s2, g2⟩ := s1.new (o := .tup vs) hp
    refine ⟨p, vs, rfl, .inl (.inl upd_same), hl, F, _, ι1, ρ, κ1, xs, s.step (g1.trans g2) s2, pmap w1 fun _ _ z => z.grow g2, ?_⟩
    cases q : r xs ρ κ1 with
    | none => rw [q] at h; exact h
    | some pq =>
      rw [q] at h
      exact fun σ' B' ι' H' _ g3 s3 => h σ' B' ι' H' ((g1.trans g2).trans g3) s3
  · rw [if_neg c] at h
    exact h.elim
theorem js_asgT {es ts : List Expr} {k k2 n : Nat} {p1 p2 pos : Pos} {r : List DV → Rho → Kap → Option (Rho × Kap)} {us : List Nat} {ma : MA} (hc : X.calm = true) (ha : JA X E es ma) (hg : JGs X ts r us) (hn : (assignEach ts X.env).length = n := by rfl) (hst : (assignEach ts X.env).findIdx? (·.1) = none := by rfl)
    (hs : swapsWithSole [.Tuple ts k p1] (.Tuple es k2 p2) pos.line X.env = pure false := by rfl) (hw : swappedStores [.Tuple ts k p1] (.Tuple es k2 p2) X.env = pure none := by rfl)
    (h1 : (assignEach [.Tuple ts k p1] X.env).map (·.2) = [assign (.Tuple ts k p1) X.env] := by rfl) : JS X E (.Assign [.Tuple ts k p1] (.Tuple es k2 p2) pos) (mAsgT n r ma) :=
  ps_imp (ps_asg (pe_tup ha) (pg_tup hc hg hn hst) hs hw h1) fun _ _ _ h => asgT_imp h
end
end DL

namespace DL
open L2 PyProof.Rows PySem PySem.Spec

/-! ### (a, .., *r) = a tuple or a list -/
def gStar (K : PySem.W.Frag) (i : Nat) (t : TGs) : TG := fun v σ H Q => ∃ a xs, v = .ref a ∧ (SqT K H a xs ∨ SqL K H a xs) ∧ i ≤ xs.length ∧ xs.length ≤ 16000 ∧ ∀ p, H p = none → t (xs.take i ++ [.ref p]) σ (upd H p (.lst (xs.drop i))) Q
theorem pgs_star {X : Cx} {e : Expr} {es : List Expr} {p : Pos} {t : TG} {u : TGs} (h1 : PG X e t) (h2 : PGs X es u)
    (hs : (assignEach (.Starred e p :: es) X.env).map (·.2) = assign e X.env :: (assignEach es X.env).map (·.2) := by rfl) : PGs X (.Starred e p :: es) (gCons t u) :=
  ⟨fun pins s σ H vs us Q I r ⟨v, vr, e1, h⟩ => by
    subst e1
    rw [hs]
    match us, r with
    | _, .cons r rr => exact assignInOrder_cons (thn (h1.run pins s σ H _ _ _ I r h) fun _ s1 ⟨σ1, H1, I1, q1⟩ => h2.run pins s1 σ1 H1 _ _ Q I1 rr q1)⟩
section
variable {X : Cx} {pos : Pos}
theorem star_new {pins : List (Addr × Obj)} {σ : L2.St} {H : Hp} {s : Shared} {xs : List V} {its : List Value} {i : Nat} {es : List Expr} {t : TGs} {Q : L2.St → Hp → Prop} (I : Inv X pins σ H s) (r : Vals xs its) (hz : xs.length ≤ 16000) (h : PGs X es t)
    (hw : ∀ p, H p = none → t (xs.take i ++ [.ref p]) σ (upd H p (.lst (xs.drop i))) Q) :
    wpAny (model X.prog X.w) X.A (newList ((its.drop i).take ((its.drop i).length - 0)) >>= fun d => pure (its.take i ++ [d] ++ (its.drop i).drop ((its.drop i).length - 0)))
      (fun vs s' => wpAny (model X.prog X.w) X.A (assignInOrder ((assignEach es X.env).map (·.2)) vs) (fun _ s' => ∃ σ' H', Inv X pins σ' H' s' ∧ Q σ' H') X.xe s') X.xe s := by
  rw [Nat.sub_zero, List.take_length, List.drop_length]
  have ll := r.length
  refine wpAny_bind (wpAny_newList (wpAny_pure ?_) (by rw [List.length_drop, sizeLine_eq]; omega))
  have I1 : Inv X pins σ (upd H s.heap.objs.size (.lst (xs.drop i))) { s with heap := s.heap.push { cls := .type "list", data := .seq (its.drop i).toArray } } :=
    I.laid (t' := s.toks) (fun b u e => Heap.get?_push_of_some _ e) (Nat.le_refl _) ⟨by rw [List.length_drop, sizeLine_eq]; omega, its.drop i, 0, Vals.drop i r, Heap.get?_push_size _ rfl⟩
  rw [List.append_nil]
  exact h.run pins _ σ _ _ _ Q I1 (Vals.append (Vals.take i r) (Paired.cons (show RelV (.ref s.heap.objs.size) (.ref s.heap.objs.size) from rfl) Paired.nil)) (hw _ (I.hok.fresh (Nat.le_refl _)))
theorem pg_star {es : List Expr} {k n i : Nat} {t : TGs} (hc : X.calm = true) (h : PGs X es t) (hn : (assignEach es X.env).length = n := by rfl) (hst : (assignEach es X.env).findIdx? (·.1) = some i := by rfl) (hi : n = i + 1 := by rfl) : PG X (.Tuple es k pos) (gStar X.K i t) := by
  constructor
  rintro pins s σ H v u Q I r ⟨a, xs, rfl, hq, hl, hz, hw⟩
  cases r
  subst hi
  have hd := I.ok.hd hc
  rw [PyProof.Rows.assign_Tuple]
  unfold unpack
  rw [hn, hst]
  refine wpAny_bind (wpAny_standAt (wpAny_bind (wpAny_holding ?_)))
  unfold unpackItems notIterableAtAll
  have fin : ∀ {its : List Value} (h' : Heap) (tk : Nat), Vals xs its → (∀ b o, b ≠ s.heap.objs.size → s.heap.get? b = some o → h'.get? b = some o) → (its.toArray.toList.take i).length = i ∧
      wpAny (model X.prog X.w) X.A (newList ((its.toArray.toList.drop i).take ((its.toArray.toList.drop i).length - (i + 1 - 1 - i))) >>= fun d => pure (its.toArray.toList.take i ++ [d] ++ (its.toArray.toList.drop i).drop ((its.toArray.toList.drop i).length - (i + 1 - 1 - i))))
        (fun vs s' => wpAny (model X.prog X.w) X.A (assignInOrder ((assignEach es X.env).map (·.2)) vs) (fun _ s' => ∃ σ' H', Inv X pins σ' H' s' ∧ Q σ' H') X.xe s') X.xe { s with heap := h', toks := tk } := fun {its} h' tk rv hk => by
    have ll := rv.length
    rw [show i + 1 - 1 - i = 0 by omega, List.toList_toArray]
    refine ⟨by rw [List.length_take]; omega, star_new (I.kept (t' := tk) fun b o e => hk b o (Nat.ne_of_lt (Heap.lt_size e)) e) rv hz h hw⟩
  rcases hq with hq | hq
  · obtain ⟨its, rv, hl0, _⟩ := I.tuple hq
    have ll := rv.length
    have ne : a ≠ s.heap.objs.size := by obtain ⟨o, ho, _⟩ := hl0; exact Nat.ne_of_lt (Heap.lt_size ho)
    refine wpAny_bind (wpAny_bind (wpAny_specialOf hl0.typeIs slot_tuple_iter.lookup (wpAny_pure ?_)))
    simp only [Bool.false_eq_true, if_false]
    refine wpAny_bind (wpAny_holding (iter_tuple hl0 (wpAny_bind (wpAny_holding (draw_tuple ne i 0 _ _ ⟨_, Heap.get?_push_size _ rfl, rfl, rfl⟩ (hl0.push _) (by rw [List.size_toArray]; omega) fun h1 it1 sb => ?_)))))
    have l1 : IsTup h1 a its.toArray := (hl0.push _).extBut sb.extBut ne
    rw [Nat.zero_add] at it1
    rw [List.drop_zero, if_neg (show ¬ ((its.toArray.toList.take i).length < i) by rw [(fin s.heap 0 rv fun b o _ e => e).1]; omega)]
    obtain ⟨oi, hoi, _⟩ := id it1
    obtain ⟨ol, hol, _⟩ := id l1
    refine wpAny_bind (wpAny_holding (PySem.W.kun_collect (s := { s with heap := h1 }) (T := "tuple_iterator") (.inr (.inr (.inr rfl))) (Walks.tuple (A := X.A.in1) hd s.heap.objs.size a ne its.toArray)
      (fun j u st => st.1.typeIs) (k := i) (by rw [List.size_toArray]; omega) ⟨it1, l1⟩ (Heap.lt_size hoi) (Heap.lt_size hol) (fun h2 tk hk => ?_) (by rw [List.size_toArray, sizeLine_eq]; omega)))
    show wpAny _ _ (if (its.toArray.toList.drop i).length < i + 1 - 1 - i then _ else _) _ _ _
    rw [if_neg (by omega)]
    exact (fin h2 tk rv fun b o hb e => hk b o hb (sb.extBut b o hb (Heap.get?_push_of_some _ e))).2
  · obtain ⟨its, rv, pl, _⟩ := I.list hq
    have ll := rv.length
    have hl0 := pl.isList
    have ne : a ≠ s.heap.objs.size := by obtain ⟨o, ho, _⟩ := hl0; exact Nat.ne_of_lt (Heap.lt_size ho)
    refine wpAny_bind (wpAny_bind (wpAny_specialOf hl0.typeIs slot_list_iter.lookup (wpAny_pure ?_)))
    simp only [Bool.false_eq_true, if_false]
    refine wpAny_bind (wpAny_holding (wpAny_pyIter_list hl0 (wpAny_bind (wpAny_holding (PySem.W.kun_draw ne i 0 _ _ ⟨_, Heap.get?_push_size _ rfl, rfl, rfl⟩ (hl0.push _) (by rw [List.size_toArray]; omega) fun h1 it1 sb => ?_)))))
    have l1 : h1.IsList a its.toArray := (hl0.push _).extBut sb.extBut ne
    rw [Nat.zero_add] at it1
    rw [List.drop_zero, if_neg (show ¬ ((its.toArray.toList.take i).length < i) by rw [(fin s.heap 0 rv fun b o _ e => e).1]; omega)]
    obtain ⟨oi, hoi, _⟩ := id it1
    obtain ⟨ol, hol, _⟩ := id l1
    refine wpAny_bind (wpAny_holding (PySem.W.kun_collect (s := { s with heap := h1 }) (T := "list_iterator") (.inr (.inr (.inl rfl))) (Walks.list (A := X.A.in1) hd s.heap.objs.size a ne its.toArray)
      (fun j u st => st.1.typeIs) (k := i) (by rw [List.size_toArray]; omega) ⟨it1, l1⟩ (Heap.lt_size hoi) (Heap.lt_size hol) (fun h2 tk hk => ?_) (by rw [List.size_toArray, sizeLine_eq]; omega)))
    show wpAny _ _ (if (its.toArray.toList.drop i).length < i + 1 - 1 - i then _ else _) _ _ _
    rw [if_neg (by omega)]
    exact (fin h2 tk rv fun b o hb e => hk b o hb (sb.extBut b o hb (Heap.get?_push_of_some _ e))).2
end
theorem pair_app {α β : Type} {R : α → β → Prop} : ∀ {a c : List α} {b d : List β}, Paired R a b → Paired R c d → Paired R (a ++ c) (b ++ d)
  | _, _, _, _, .nil, t => t
  | _, _, _, _, .cons h r, t => .cons h (pair_app r t)
/-! ### the mirror -/
def bStar (i : Nat) (r : List DV → Rho → Kap → Option (Rho × Kap)) : MG := fun x ρ κ => match x with
  | .d (.tuple ds) => if i ≤ ds.length ∧ ds.length ≤ 16000 then r ((ds.take i).map .d ++ [.d (.list (ds.drop i))]) ρ κ else none
  | .d (.list ds) => if i ≤ ds.length ∧ ds.length ≤ 16000 then r ((ds.take i).map .d ++ [.d (.list (ds.drop i))]) ρ κ else none
  | _ => none
section
variable {X : Cx} {pos : Pos}
theorem jgs_star {e : Expr} {es : List Expr} {p : Pos} {g : MG} {r : List DV → Rho → Kap → Option (Rho × Kap)} {ts us : List Nat} (h1 : JG X e g ts) (h2 : JGs X es r us)
    (hs : (assignEach (.Starred e p :: es) X.env).map (·.2) = assign e X.env :: (assignEach es X.env).map (·.2) := by rfl) : JGs X (.Starred e p :: es) (bCons g r) (ts ++ us) :=
  pgs_imp (pgs_star h1 h2 hs) fun v σ H Q ⟨F, B, ι, ρ, κ, xs, s, w, h⟩ => by
    cases w with
    | nil => exact h.elim
    | @cons v x vs ys w1 w2 =>
      refine ⟨v, vs, rfl, F, B, ι, ρ, κ, x, s, w1, ?_⟩
      simp only [bCons] at h
      cases q : g x ρ κ with
      | none => rw [q] at h; exact h
      | some p =>
        rw [q] at h
        intro σ1 B1 ι1 H1 e1 g1 s1
        refine ⟨F, B1, ι1, p.1, p.2, ys, s1, pmap w2 fun _ _ z => z.grow g1, ?_⟩
        replace h : (match r ys p.1 p.2 with
          | some (ρ', κ') => ∀ σ' B' ι' H', (σ'.length = σ.length ∧ ∀ i, i ∉ ts ++ us → σ'[i]? = σ[i]?) → Grow F B ι H B' ι' H' → SOk X.K F B' ι' σ' H' ρ' κ' → Q σ' H'
          | none => False) := h
        cases q2 : r ys p.1 p.2 with
        | none => rw [q2] at h; exact h
        | some p2 =>
          rw [q2] at h
          intro σ2 B2 ι2 H2 e2 g2 s2
          exact h σ2 B2 ι2 H2 ⟨e2.1.trans e1.1, fun i hi => (e2.2 i (fun z => hi (List.mem_append_right _ z))).trans (e1.2 i (fun z => hi (List.mem_append_left _ z)))⟩ (g1.trans g2) s2
theorem jg_star {es : List Expr} {k n i : Nat} {r : List DV → Rho → Kap → Option (Rho × Kap)} {ts : List Nat} (hc : X.calm = true) (h : JGs X es r ts)
    (hn : (assignEach es X.env).length = n := by rfl) (hst : (assignEach es X.env).findIdx? (·.1) = some i := by rfl) (hi : n = i + 1 := by rfl) : JG X (.Tuple es k pos) (bStar i r) ts :=
  pg_imp (pg_star hc h hn hst hi) fun v σ H Q ⟨F, B, ι, ρ, κ, x, s, w, h⟩ => by
    have go : ∀ {a : Addr} {vs : List V} {ds : List D}, v = .ref a → (SqT X.K H a vs ∨ SqL X.K H a vs) → RpAll X.K B vs ds → (match (if i ≤ ds.length ∧ ds.length ≤ 16000 then r ((ds.take i).map .d ++ [.d (.list (ds.drop i))]) ρ κ else none) with
        | some (ρ', κ') => ∀ σ' B' ι' H', (σ'.length = σ.length ∧ ∀ i, i ∉ ts → σ'[i]? = σ[i]?) → Grow F B ι H B' ι' H' → SOk X.K F B' ι' σ' H' ρ' κ' → Q σ' H'
        | none => False) → gStar X.K i (tGs X.K r ts) v σ H Q := fun {a vs ds} ev hq ra h => by
      by_cases c : i ≤ ds.length ∧ ds.length ≤ 16000
      · rw [if_pos c] at h
        refine ⟨a, vs, ev, hq, by rw [ra.len]; exact c.1, by rw [ra.len]; exact c.2, fun p hp => ?_⟩
        obtain ⟨s1, g1⟩ := s.hs.new (o := .lst (vs.drop i)) hp
        have r1 := ra.mono g1.b
        refine ⟨F, _, ι, ρ, κ, _, s.step g1 s1, pair_app (cells_of (r1.take i)) (.cons (b := DV.d (.list (ds.drop i))) (Rp.lst upd_same (r1.drop i)) .nil), ?_⟩
        cases q : r ((ds.take i).map .d ++ [.d (.list (ds.drop i))]) ρ κ with
        | none => rw [q] at h; exact h
        | some p => rw [q] at h; exact fun σ' B' ι' H' e g s' => h σ' B' ι' H' e (g1.trans g) s'
      · rw [if_neg c] at h
        exact h.elim
    unfold bStar at h
    match x, w, h with
    | .d (.tuple ds), w, h =>
      obtain ⟨a, vs, ev, h1, r1⟩ := tup_ok s.hs w
      exact go ev (.inl h1) r1 h
    | .d (.list ds), w, h =>
      obtain ⟨a, vs, ev, h1, r1⟩ := lv_ok s.hs (x := .d (.list ds)) w rfl
      exact go ev (.inr (lst1 h1)) r1 h
end
end DL

namespace DL
open L2 PyProof.Rows PySem PySem.Spec

/-! ### the law's own call, where defs may make lambdas -/
abbrev tab0 : Obj := { cls := .none, data := .fields #[] }
/-- the script and the tables are known -/
def hScT (K : PySem.W.Frag) (Ts : List Addr) (a : Addr) (ob : Obj) (vs : List V) : Hp := fun b => if b ∈ Ts then some (.tbl #[]) else hScr K a ob vs b
theorem hScT_some {K : PySem.W.Frag} {Ts : List Addr} {a b : Addr} {ob : Obj} {vs : List V} {o : HO} (e : hScT K Ts a ob vs b = some o) : (b ∈ Ts ∧ o = .tbl #[]) ∨ (b ∉ Ts ∧ b = a ∧ K.lookup a = none ∧ o = .frz ob (.lst vs)) := by
  unfold hScT at e
  split at e
  · rename_i h; cases e; exact .inl ⟨h, rfl⟩
  · rename_i h; exact .inr ⟨h, hScr_some e⟩
theorem lawGT {P : Program} {w : World} {K : PySem.W.Frag} {mg mb : Str → Option Value} {k : Nat} {fa a : Addr} {fd : FuncData} {x : Str} {sp : Sp} {s₁ : Shared} {its : List Value} {ns : List Int} {CX : CXT} {cs : List (Addr × Addr)}
    (kin : K.In s₁.heap) (hns : s₁.heap.Ns mainGlobals mg) (hmb : s₁.heap.Ns builtinsNs mb) (hbo : ∀ x : Str, x ≠ "__name__" → mb x = bootBuiltins x) (hlim : s₁.heap.NoLimit) (hge : s₁.gens = #[])
    (hT : ∀ p ∈ cs, s₁.heap.get? p.2 = some tab0) (nT : ∀ p ∈ cs, K.lookup p.2 = none) (hC : ∀ p ∈ cs, PySem.W.codeHdIn K p.1 p.2 = true)
    (hbm : ∃ (bm : Addr) (ob : Obj), mg "__builtins__" = some (.ref bm) ∧ bm ≠ builtinsNs ∧ s₁.heap.get? bm = some ob ∧ ob.cls = .type "module" ∧ ob.dict = some builtinsNs ∧ ob.data = .plain)
    (hat : s₁.heap.get? a = some { cls := .type "list", data := .seq its.toArray }) (hin : IntsAre its ns) (hle : ns.length ≤ sizeLine) (room : Room k callerA)
    (F : ∀ base : Heap, K.In base → base.Ns mainGlobals mg → (∀ p ∈ cs, LamX.TabB base mg p.1 p.2) → FnG P w K mg base CX k fa fd [x] sp) (hbi : ∀ (s : Shared) (u : Value), BindsTo s fd ⟨[u], []⟩ [(x, u)])
    (prom : ∀ H : Hp, (∀ p ∈ cs, H p.2 = some (.tbl #[])) → SqL K H a (ns.map V.int) → sp [.ref a] H (fun v _ => v = .bl true) fun _ _ _ => False) (hCX : ∀ H e s', CX [] H s₁ (fun _ _ _ => False) e s' → False) :
    codeAny (model P w) callerA (.call (.ref fa) ⟨[.ref a], []⟩) (fun r s' => r = .ok (.ret (.bool true)) ∧ OldK s₁.heap s'.heap ∧ s'.os = s₁.os ∧ AllBare s'.gens) s₁ := by
  have rel := vals_of_ints hin
  have same : ns.length = its.length := hin.length.symm
  let Ts := cs.map (·.2)
  have tabAt : ∀ b ∈ Ts, s₁.heap.get? b = some tab0 := fun b m => by
    obtain ⟨p, hp, rfl⟩ := List.mem_map.mp m
    exact hT p hp
  have mT : ∀ p ∈ cs, p.2 ∈ Ts := fun p hp => List.mem_map.mpr ⟨p, hp, rfl⟩
  have aT : a ∉ Ts := fun m => by
    have e := tabAt a m
    rw [hat] at e
    exact nomatch congrArg Obj.data (Option.some.inj e)
  let H : Hp := hScT K Ts a { cls := .type "list", data := .seq its.toArray } (ns.map V.int)
  have seen : SqL K H a (ns.map V.int) := by
    cases hk : K.lookup a with
    | none => exact .inl (.inr ⟨_, (if_neg aT).trans (if_pos ⟨rfl, hk⟩)⟩)
    | some o =>
      have e := kin a o hk
      rw [hat] at e
      cases e
      exact .inr ⟨_, its.toArray, _, hk, rfl, rfl, rfl, by rw [List.size_toArray, ← same]; exact hle, by rw [List.toList_toArray]; exact rel⟩
  have hok : HOk P w H s₁.heap := fun b o e => by
    rcases hScT_some e with ⟨m, rfl⟩ | ⟨_, rfl, _, rfl⟩
    · exact tabAt b m
    · exact ⟨hat, by rw [List.length_map]; exact hle, its, _, rel, hat⟩
  have hid : ∀ {b : Addr} {o : Obj}, s₁.heap.get? b = some o → (b = a → K.lookup a ≠ none) → b ∉ Ts → (hidT s₁.heap H).get? b = some o := fun {b o} e n nt => hidT_get e (by
    cases q : H b with
    | none => rfl
    | some u => rcases hScT_some q with ⟨m, _⟩ | ⟨_, h1, h2, _⟩; exact absurd m nt; exact absurd h2 (n h1))
  have nT2 : ∀ {b : Addr} {o : Obj}, s₁.heap.get? b = some o → o.data ≠ .fields #[] → b ∉ Ts := fun {b o} e n m => by
    rw [tabAt b m] at e
    cases e
    exact n rfl
  have nsH : ∀ {b : Addr} {m : Str → Option Value}, s₁.heap.Ns b m → (hidT s₁.heap H).Ns b m := by
    rintro b m ⟨o, es, ep, e, d, r⟩
    refine ⟨o, es, ep, hid e (fun z => ?_) (nT2 e (by rw [d]; exact fun z => nomatch z)), d, r⟩
    subst z
    rw [hat] at e
    cases e
    exact nomatch d
  have kinH : K.In (hidT s₁.heap H) := fun b o e => hid (kin b o e) (fun z n => by rw [z, n] at e; cases e) fun m => by
    obtain ⟨p, hp, rfl⟩ := List.mem_map.mp m
    rw [nT p hp] at e
    cases e
  have mod : Mod K mg (hidT s₁.heap H) := ⟨kinH, nsH hns, ⟨mb, nsH hmb, hbo⟩, let ⟨mc, h1, h2⟩ := hlim; ⟨mc, nsH h1, h2⟩⟩
  have gT : mainGlobals ∉ Ts := fun m => by
    obtain ⟨o, es, ep, e, d, _⟩ := hns
    rw [tabAt _ m] at e
    cases e
    cases d
  have TB : ∀ p ∈ cs, LamX.TabB (hidT s₁.heap H) mg p.1 p.2 := fun p hp => by
    obtain ⟨bm, ob, b1, b2, b3, b4, b5, b6⟩ := hbm
    have nG : bm ≠ mainGlobals := fun q => by
      obtain ⟨o, es, ep, e, d, _⟩ := hns
      rw [← q, b3] at e
      cases e
      rw [b6] at d
      cases d
    have nt : bm ∉ Ts := nT2 b3 (by rw [b6]; exact fun z => nomatch z)
    refine ⟨PySem.W.codeHd_of_K kinH (hC p hp), ⟨bm, ob, b1, b2, nG, fun q => nt (q ▸ mT p hp), hid b3 (fun z => ?_) nt, b4, b5, b6⟩, fun q => gT (q ▸ mT p hp)⟩
    subst z
    rw [hat] at b3
    cases b3
    exact nomatch b6
  have env : Env0 P w K mg (hidT s₁.heap H) callerA [] s₁ H := ⟨rfl, mod, fun b o e => of_hidT e, Nat.le_of_eq (hidT_size _ _), trivial, (fun b hb => absurd hb (by simp [frs])), hok, .of_eq hge⟩
  refine codeAny_mono ((F _ kinH (nsH hns) TB).go callerA [] s₁ H ⟨[.ref a], []⟩ [.ref a] [.ref a] _ _ rfl room env (hbi s₁ (.ref a)) (.cons rfl .nil) (prom H (fun p hp => if_pos (mT p hp)) seen)) ?_
  rintro (er | fl) s' h
  · exact (hCX H er s' h).elim
  · match fl, h with
    | .next, h => exact False.elim h
    | .brk, h => exact False.elim h
    | .cont, h => exact False.elim h
    | .ret u, ⟨v, H', os, bare, un, hok', r', q⟩ =>
      have q' : v = .bl true := q
      subst q'
      obtain rfl : u = Value.bool true := r'
      have key : ∀ b o, b ∉ Ts → s₁.heap.get? b = some o → s'.heap.get? b = some o := fun b o nt e => by
        cases q : H b with
        | none => exact un.keep b o e q (by simp [frs]) (by simp)
        | some u =>
          rcases hScT_some q with ⟨m, _⟩ | ⟨_, _, _, rfl⟩
          · exact absurd m nt
          · have e2 := (hok' b _ (un.frzs b _ _ q)).1
            have e1 := (hok b _ q).1
            rw [e] at e1
            cases e1
            exact e2
      have grown : ∀ p ∈ cs, ∃ more : Array Value, s'.heap.get? p.2 = some { cls := .none, data := .fields more } := fun p hp => by
        obtain ⟨more, z⟩ := un.tbls p.2 #[] (if_pos (mT p hp))
        exact ⟨_, hok' p.2 _ z⟩
      refine ⟨rfl, ⟨fun b o e => ?_, fun b o e => ?_⟩, os, bare⟩
      · by_cases m : b ∈ Ts
        · obtain ⟨p, hp, rfl⟩ := List.mem_map.mp m
          obtain ⟨more, z⟩ := grown p hp
          rw [hT p hp] at e
          cases e
          exact .inr (.inl ⟨((PySem.W.codeHd_of_K kin (hC p hp)).tab (hT p hp)).isCodeTable, rfl, #[], more, rfl, by rw [Array.empty_append]; exact z⟩)
        · exact .inl (key b o m e)
      · by_cases m : b ∈ Ts
        · obtain ⟨p, hp, rfl⟩ := List.mem_map.mp m
          obtain ⟨more, z⟩ := grown p hp
          exact ⟨_, z⟩
        · exact ⟨o, key b o m e⟩
theorem walkGT {l : PySem.W.OpenLaw} {n k : Nat} {q : Program} {loose : List Str} {XP : (Str → Option Value) → Heap → Prop} {YP : World → Heap → Prop} {d : DefRec} {K : Params → PySem.W.Frag} {CX : World → CXT} {sp : World → (Str → Option Value) → Sp} {x : Str} (cs : List (Addr × Addr))
    (hn : l.most = some n) (hn2 : n ≤ sizeLine) (hdf : d.params.defaults = []) (room : Room k callerA) (hY : ∀ (w : World) (h : Heap), YP w h → (K w.params).In h ∧ ∀ p ∈ cs, h.get? p.2 = some tab0) (nT : ∀ (w : World), ∀ p ∈ cs, (K w.params).lookup p.2 = none) (hC : ∀ (w : World), ∀ p ∈ cs, PySem.W.codeHdIn (K w.params) p.1 p.2 = true)
    (F : ∀ (w : World) (mg : Str → Option Value) (fa : Addr) (h : Heap), (K w.params).In h → h.Ns mainGlobals mg → mg d.name = some (.ref fa) → ∃ fd : FuncData, (∀ (s : Shared) (u : Value), BindsTo s fd ⟨[u], []⟩ [(x, u)]) ∧
        ∀ base : Heap, (K w.params).In base → base.Ns mainGlobals mg → (∀ p ∈ cs, LamX.TabB base mg p.1 p.2) → FnG l.prog w (K w.params) mg base (CX w) k fa fd [x] (sp w mg))
    (prom : ∀ (w : World) (mg : Str → Option Value) (H : Hp) (a : Addr) (ns : List Int), ns.length ≤ n → (∀ p ∈ cs, H p.2 = some (.tbl #[])) → SqL (K w.params) H a (ns.map V.int) → sp w mg [.ref a] H (fun v _ => v = .bl true) fun _ _ _ => False)
    (hCX : ∀ (w : World) (H : Hp) (s : Shared) (e : Value) (s' : Shared), CX w [] H s (fun _ _ _ => False) e s' → False) :
    PySem.W.WalkO q loose XP YP l.row.toRowW d [] (fun f vs => PySem.call f vs) := by
  refine Att.attach_call hn hdf fun w s₀ s₁ mg mb fa o pm cd doc a its ns G Y ho hd hcd hmg hobj hi hlen hge => ?_
  obtain ⟨fd, hb, hF⟩ := F w mg fa _ (hY w _ Y).1 G.T.g hmg
  exact lawGT (hY w _ Y).1 G.T.g G.T.b G.T.builtins G.T.nolimit hge (hY w _ Y).2 (nT w) (hC w) G.T.bmain hobj hi (Nat.le_trans hlen hn2) room hF hb (fun H hT h => prom w mg H a ns hlen hT h) fun H e s' => hCX w H s₁ e s'
end DL

namespace DL
open L2 PyProof.Rows PySem PySem.Spec

/-! ### a lambda of one parameter that captures one name, handed to a def -/
abbrev cloD (f c a : Addr) (q : Str) (d : D) : D := .dict [(.bool false, .tuple [.int f, .int c, .int a, .str q, d])]
abbrev lamF (q : Str) (params : Arguments) (scope : Scope) (cl : List (Str × Addr)) (c : Addr) : NdefX.NF := ⟨"<lambda>", q, params, [], scope, cl, c⟩
/-- the lambda at f stands in the base, its captured name holds the object at a -/
def LamB (base : Heap) (f c a : Addr) (q : Str) (params : Arguments) (body : Expr) (scope : Scope) (y : Str) : Prop :=
  ∃ (cl : List (Str × Addr)) (pm ctv : Value), base.get? f = some (PySem.W.kla_obj "<lambda>" q params body scope cl pm c ctv) ∧ (∀ z b, cl.lookup z = some b → ∃ v, base.IsCell b v) ∧ (∀ x z b, cl.lookup x = some b → cl.lookup z = some b → x = z) ∧ ∃ b, cl.lookup y = some b ∧ base.IsCell b (some (.ref a))
/-- what its body keeps -/
structure LamM (P : Program) (w : World) (K : PySem.W.Frag) (mg : Str → Option Value) (base : Heap) (k : Nat) (q : Str) (params : Arguments) (body : Expr) (scope : Scope) (N : List Str) (p y : Str) (m : ME) : Prop where
  ns : NdefX.NScope N [p] [y] scope
  bind : ∀ (cl : List (Str × Addr)) (pm cv ctv u : Value), bindArgs (PySem.W.kla_fn "<lambda>" q params body scope cl pm cv ctv) ⟨[u], []⟩ = pure [(p, u)]
  run : ∀ (f c : Addr) (cl : List (Str × Addr)) (A : Around) (outer : List Env) (s : Shared) (H : Hp), A.guards = some [] → Room k (A.deeper (NdefX.envF (lamF q params scope cl c) f s.heap.objs.size)) →
    JE (NdefX.ncx CX0 P w K mg base N (lamF q params scope cl c) f A outer s H E0).nox E0 body m
section
variable {P : Program} {w : World} {K : PySem.W.Frag} {mg : Str → Option Value} {base : Heap} {k : Nat} {q : Str} {params : Arguments} {body : Expr} {scope : Scope} {N : List Str} {p y : Str} {m : ME}
theorem lam_go (L : LamM P w K mg base k q params body scope N p y m) {f c a : Addr} (LB : LamB base f c a q params body scope y) {A : Around} {outer : List Env} {s : Shared} {H : Hp} {u : Value} {v : V} {Q : VK} (gu : A.guards = some []) (hr : Room (k + 1) A)
    (e0 : Env0 P w K mg base A outer s H) (hc : H c = some (LamX.CodeO c q)) (r : RelV v u) (h : tM K mg E0 m (NdefX.startF N [v] [some (.ref a)]) H Q) : codeAny (model P w) A (.call (.ref f) ⟨[u], []⟩) (CR CX0 outer P w H s Q E0) s := by
  obtain ⟨cl, pm, ctv, hf, hall, hinj, b, hb, hv⟩ := LB
  have lim : s.heap.NoLimit := e0.mod.nolimit.keeps fun b o e => (e0.bs b o e).1
  have cellS : ∀ {b : Addr} {v : Option Value}, base.IsCell b v → s.heap.IsCell b v ∧ H b = none := fun {b v} ⟨o, ho, hd⟩ => ⟨⟨o, (e0.bs b o ho).1, hd⟩, (e0.bs b o ho).2⟩
  have C : NdefX.CellsAt cl [y] [some (.ref a)] s.heap H := ⟨rfl, fun z b e => let ⟨v, hz⟩ := hall z b e; ⟨(cellS hz).2, v, (cellS hz).1⟩, hinj, fun i z e => by
    match i, e with
    | 0, e =>
      cases e
      exact ⟨b, hb, fun v e => by cases e; exact ⟨_, rfl, (cellS hv).1⟩⟩⟩
  refine PySem.W.kla_callFunE hr.depth (e0.bs f _ hf).1 rfl L.ns.co L.ns.gen rfl (NdefX.codeO_at e0.hok hc) ?_
  rw [L.bind]
  refine wpAny_pure (wpAny_newFunctionEnv L.ns.nocell (fun z hz => L.ns.par z.1 (by rw [List.mem_singleton.mp hz]; exact List.mem_singleton_self _)) (fun h₁ hns hsb => ⟨lim.fresh _ hsb, ?_⟩) L.ns.kind)
  show codeAny _ _ (.expr body (NdefX.envF (lamF q params scope cl c) f s.heap.objs.size)) _ _
  have kp : ∀ b o, s.heap.get? b = some o → h₁.get? b = some o := fun b o e => hsb.extBut b o (Nat.ne_of_lt (Heap.lt_size e)) (Heap.get?_push_of_some _ e)
  have J := NdefX.inv_startN (CX := CX0) (E := E0) (F := lamF q params scope cl c) (f := f) (tk := s.toks + 1) L.ns hr.hd e0 rfl (Paired.cons r Paired.nil) C hns kp
  refine PySem.W.kla_codeExpr (wpAny_mono ((PE.nox (L.run f c cl A outer s H gu (hr.deeper _))).run [] _ _ H Q J h) (fun v s' hq => ?_) fun _ _ z => z)
  obtain ⟨w', H', J', rv, qq⟩ := hq
  exact ⟨w', H', J'.os, J'.bare, J'.base, J'.hok, rv, qq⟩
end
/-! ### the call of such a lambda -/
def mCallClo (i : Nat) (f0 c0 a0 : Addr) (q : Str) (n : Nat) (mb : ME) (ma : MA) : ME := fun ρ κ => match ρ[i]? with
  | some (some (.d (.dict [(.bool false, .tuple [.int f, .int c, .int a, .str z, d])]))) => if f = (f0 : Int) ∧ c = (c0 : Int) ∧ a = (a0 : Int) ∧ z = q then (ma ρ κ).bind fun xs κ1 => match xs with
    | [x] => mb (some x :: some (.d d) :: List.replicate n none) κ1
    | _ => .bad
    else .bad
  | _ => .bad
theorem clo_inv {K : PySem.W.Frag} {B : Hp} {v : V} {f c a : Int} {z : Str} {d : D} (h : Rp K B v (.dict [(.bool false, .tuple [.int f, .int c, .int a, .str z, d])])) : ∃ f' c' a' : Addr, f = (f' : Int) ∧ c = (c' : Int) ∧ a = (a' : Int) ∧ v = .ref f' ∧ B c' = some (LamX.CodeO c' z) ∧ Rp K B (.ref a') d := by
  cases h with
  | clo h r => exact ⟨_, _, _, rfl, rfl, rfl, rfl, h, r⟩
  | dic _ h => cases h
theorem start_clo {K : PySem.W.Frag} {F : List Addr} {B : Hp} {ι : List Addr} {H : Hp} {κ : Kap} {N : List Str} {n : Nat} {v : V} {x : DV} {a : Addr} {d : D} (s : HSt K F B ι H κ) (w : WOk K B ι v x) (r : Rp K B (.ref a) d) (hn : N.length = n + 2) :
    SOk K F B ι (NdefX.startF N [v] [some (.ref a)]) H (some x :: some (.d d) :: List.replicate n none) κ := by
  have e : NdefX.startF N [v] [some (.ref a)] = some v :: some (.ref a) :: List.replicate n none := by
    unfold NdefX.startF
    rw [hn]
    rfl
  rw [e]
  refine ⟨s, by simp, fun i y h => ?_⟩
  match i, h with
  | 0, h => cases h; exact ⟨v, rfl, w⟩
  | 1, h => cases h; exact ⟨_, rfl, r⟩
  | i + 2, h =>
    have := List.mem_of_getElem? (show (List.replicate n (none : Option DV))[i]? = some (some y) from h)
    rw [List.mem_replicate] at this
    cases this.2
section
variable {X : Cx} {k j i n : Nat} {q : Str} {params : Arguments} {body : Expr} {scope : Scope} {N : List Str} {p y x : Str} {mb : ME} {f c a : Addr} {px pos : Pos} {e : Expr} {es : List Expr} {ma : MA}
theorem je_callClo (gu : X.A.guards = some []) (hr : Room j X.A) (hk : k + 1 ≤ j) (L : LamM X.prog X.w X.K X.mg X.base k q params body scope N p y mb) (hn : N.length = n + 2) (LB : LamB X.base f c a q params body scope y) (hN : X.N[i]? = some x) (ha : JA X E0 (e :: es) ma)
    (hv : Vis X.env.scope x := by first | exact Or.inl rfl | exact Or.inr (Or.inl rfl) | exact Or.inr (Or.inr rfl)) (hd : (x == ("__debug__" : Str)) = false := by decide) (hcd : (x == ("__classdict__" : Str)) = false := by decide)
    (he : starEach (e :: es) X.env = (false, eval e X.env) :: starEach es X.env := by rfl) (hpl : (backTo pos (starEach es X.env)).any (·.1) = false := by rfl) :
    JE X E0 (.Call (.Name x px) (e :: es) [] pos) (mCallClo i f c a q n mb ma) := by
  refine ⟨fun pins s σ H Q I h => ?_⟩
  obtain ⟨F, B, ι, ρ, κ, so, h⟩ := h
  unfold mCallClo at h
  split at h
  · rename_i f1 c1 a1 z d e0
    split at h
    · rename_i hh
      obtain ⟨rfl, rfl, rfl, rfl⟩ := hh
      obtain ⟨v, hs, w⟩ := so.loc i _ e0
      obtain ⟨f', c', a', ef, ec, ea, rfl, hcB, rd⟩ := clo_inv (show Rp X.K B v _ from w)
      obtain rfl : f = f' := Int.ofNat.inj ef
      obtain rfl : c = c' := Int.ofNat.inj ec
      obtain rfl : a = a' := Int.ofNat.inj ea
      have fnAt : ∀ {s : Shared} {H : Hp} {σ : L2.St}, Inv X pins σ H s → PySem.W.FnAt f s.heap := fun I => by
        obtain ⟨cl, pm, ctv, hf, _⟩ := LB
        exact ⟨_, _, _, _, I.bk _ _ hf⟩
      refine wpAny_Call_Name_kw (thn ((pe_var (pos := px) hN hv hd hcd).run pins s σ H (fun v H1 => v = .ref f ∧ H1 = H) I ⟨.ref f, hs, rfl, rfl⟩) fun u s1 ⟨v, H1, I1, r1, q1⟩ => ?_)
      obtain ⟨rfl, rfl⟩ := q1
      obtain rfl : u = Value.ref f := r1
      refine PySem.W.callWith_F (first := []) (fnAt I1) (thn (ha.run pos pins s1 σ _ (fun vs H2 => ∃ F2 B2 ι2 xs κ2, HSt X.K F2 B2 ι2 H2 κ2 ∧ B2 c = some (LamX.CodeO c z) ∧ Rp X.K B2 (.ref a) d ∧ Paired (WOk X.K B2 ι2) vs xs ∧ PostE X.K X.mg E0 F2 B2 ι2 H2 Q (match xs with
        | [x] => mb (some x :: some (.d d) :: List.replicate n none) κ2
        | _ => .bad)) I1 ?_) fun us s2 ⟨vs, H2, I2, r, q2⟩ => ⟨fnAt I2, ?_⟩) he hpl
      · refine evA so (fun xs κ1 e1 vs B1 ι1 H1 g1 s1 w1 => ?_) (fun n fs κ1 e1 => by rw [e1] at h; exact fun C d B' ι' H' ws a b c e f => absurd (h C d B' ι' H' ws a b c e f) id) (fun e => by rw [e] at h; exact h)
        rw [e1] at h
        exact ⟨F, B1, ι1, xs, κ1, s1, g1.b _ _ hcB, Rp.mono g1.b rd, w1, PostE.grow h g1⟩
      · obtain ⟨F2, B2, ι2, xs, κ2, st2, cb, rd2, wp, post⟩ := q2
        show wpAny _ _ (call (.ref f) us) _ _ _
        cases wp with
        | nil => exact post.elim
        | cons w1 wr =>
          cases wr with
          | cons _ _ => exact post.elim
          | nil =>
            cases r with
            | cons r1 rr =>
              cases rr
              refine wpAny_call (codeAny_mono (lam_go L LB gu (hr.mono hk) I2.env0 (st2.ex _ _ cb) r1 ⟨F2, B2, ι2, _, κ2, start_clo st2 w1 rd2 hn, post⟩) ?_)
              rintro (er | fl) s' q3
              · exact pass0 pins σ H2 s2 er s' I2 q3
              · match fl, q3 with
                | .ret u, q3 => exact I2.after q3
                | .next, q3 => exact False.elim q3
                | .brk, q3 => exact False.elim q3
                | .cont, q3 => exact False.elim q3
    · exact h.elim
  · exact h.elim
end
/-! ### its making -/
section
variable {X : Cx} {pins : List (Addr × Obj)} {σ : L2.St} {H : Hp} {s : Shared} {F : List Addr} {B : Hp} {ι : List Addr} {κ : Kap}
/-- the state behind the writing of a code object into the table -/
theorem HSt.code {K : PySem.W.Frag} {P c : Addr} {q : Str} {ps more : Array Value} {pos : Pos} (hs : HSt K F B ι H κ) (hm : (P, q) ∈ tabsOf K) (hu : ∀ p ∈ tabsOf K, p.1 = P → p.2 = q) (hP : H P = some (.tbl ps)) (ht : TriplesOk ps.toList)
    (ha : ∀ (pos : Pos) (cv : Value), codeAmong pos ps.toList = some cv → ∃ c, cv = .ref c ∧ B c = some (LamX.CodeO c q)) (hc : H c = none) (em : more = #[rawInt pos.line, rawInt pos.col, .ref c]) :
    HSt K F (upd B c (LamX.CodeO c q)) ι (upd (upd H P (.tbl (ps ++ more))) c (LamX.CodeO c q)) κ ∧ Grow F B ι H (upd B c (LamX.CodeO c q)) ι (upd (upd H P (.tbl (ps ++ more))) c (LamX.CodeO c q)) := by
  obtain ⟨_, hBP, hPi, hPF⟩ := hs.tb _ hm
  have hB : B c = none := by
    cases z : B c with
    | none => rfl
    | some o => rw [hs.ex _ _ z] at hc; cases hc
  have ne : ∀ {a : Addr} {o : HO}, H a = some o → a ≠ c := fun e => ne_of_none e hc
  have at_ : ∀ {a : Addr}, a ≠ c → a ≠ P → upd (upd H P (.tbl (ps ++ more))) c (LamX.CodeO c q) a = H a := fun h1 h2 => by rw [upd_ne h1, upd_ne h2]
  have pc : P ≠ c := ne hP
  have bn : ∀ {a : Addr}, a ≠ c → upd B c (LamX.CodeO c q) a = B a := fun h => upd_ne h
  have b : Same B (upd B c (LamX.CodeO c q)) := Same.updNew hB
  have nP : ∀ {a : Addr} {o : HO}, B a = some o → a ≠ P := fun e z => by rw [z, hBP] at e; cases e
  have iP : ∀ {a : Addr}, a ∈ ι → a ≠ P := fun m z => hPi (z ▸ m)
  have fP : ∀ {a : Addr}, a ∈ F → a ≠ P := fun m z => hPF (z ▸ m)
  have iC : ∀ {a : Addr}, a ∈ ι → a ≠ c := fun m => let ⟨o, e⟩ := hs.tr _ m; ne e
  have fC : ∀ {a : Addr}, a ∈ F → a ≠ c := fun m => let ⟨⟨o, e⟩, _⟩ := hs.pro _ m; ne e
  refine ⟨⟨fun a o e => ?_, hs.len, hs.nd, fun i a m l => ?_, fun a m => ?_, fun i a cl e1 e2 => ?_, fun a m => ?_, fun p m => ?_⟩, ⟨b, fun _ _ h => h, fun a m => at_ (fC m) (fP m)⟩⟩
  · by_cases z : a = c
    · subst z; rw [upd_same] at e ⊢; exact e
    · rw [bn z] at e; rw [at_ z (nP e)]; exact hs.ex a o e
  · rw [bn (iC (List.mem_of_getElem? m))]; exact hs.out i a m l
  · obtain ⟨h1, h2, h3⟩ := hs.pro a m
    exact ⟨by rw [at_ (fC m) (fP m)]; exact h1, by rw [bn (fC m)]; exact h2, h3⟩
  · have m := List.mem_of_getElem? e1
    exact (hs.cel i a cl e1 e2).mono b (fun _ _ h => h) (at_ (iC m) (iP m))
  · rw [at_ (iC m) (iP m)]; exact hs.tr a m
  · obtain ⟨⟨ps', t1, t2, t3⟩, t4, t5, t6⟩ := hs.tb p m
    have n1 : p.1 ≠ c := ne t1
    refine ⟨?_, by rw [bn n1]; exact t4, t5, t6⟩
    by_cases z : p.1 = P
    · have e2 := hu p m z
      rw [z, hP] at t1
      cases t1
      refine ⟨ps ++ more, by rw [z, upd_ne pc, upd_same], ?_, fun pos' cv hcv => ?_⟩
      · rw [em, Array.toList_append]; exact PySem.TriplesOk_snoc _ _ _ _ ht
      · rw [em, Array.toList_append] at hcv
        rcases LamX.among_app (pos := pos) _ ht hcv with w | w
        · obtain ⟨c0, a1, a2⟩ := ha pos' cv w
          exact ⟨c0, a1, by rw [e2]; exact b _ _ a2⟩
        · exact ⟨c, w, by rw [e2]; exact upd_same⟩
    · refine ⟨ps', by rw [at_ n1 z]; exact t1, t2, fun pos' cv hcv => ?_⟩
      obtain ⟨c0, a1, a2⟩ := t3 pos' cv hcv
      exact ⟨c0, a1, b _ _ a2⟩
theorem lam_mk {c P : Addr} {q : Str} {params : Arguments} {body : Expr} {scope : Scope} {pos : Pos} {E : Value → Shared → Prop} {Q : Value → Shared → Prop} (I : Inv X pins σ H s) (TB : LamX.TabB X.base X.mg c P) (hcode : X.env.code = .ref c) (hq : X.env.qual ++ "<lambda>" = q)
    (hs : HSt X.K F B ι H κ) (hm : (P, q) ∈ tabsOf X.K) (hu : ∀ p ∈ tabsOf X.K, p.1 = P → p.2 = q) (hdef : defaultsOf params X.env = ([], [])) (hfree : ∀ y ∈ scope.names, y.2 = .free → ∃ c, X.env.cells.lookup y.1 = some c)
    (h : ∀ (f c' : Addr) (pm ctv : Value) (H1 B1 : Hp) (s' : Shared), Inv X pins σ H1 s' → HSt X.K F B1 ι H1 κ → Grow F B ι H B1 ι H1 → s'.heap.get? f = some (PySem.W.kla_obj "<lambda>" q params body scope (cloFrom X.env.cells scope.names []) pm c' ctv) → H1 f = none → f ∉ frs X.stack →
      B1 c' = some (LamX.CodeO c' q) → Q (.ref f) s') : wpAny (model X.prog X.w) X.A (eval (.Lambda params body scope pos) X.env) Q E s := by
  subst hq
  obtain ⟨⟨ps, hP, ht, ha⟩, hBP, hPi, hPF⟩ := hs.tb _ hm
  have far : ∀ f, s.heap.objs.size ≤ f → f ∉ frs X.stack := fun f hf z => (List.mem_cons.mp (I.stkSub _ z)).elim (fun e => Nat.lt_irrefl f (Nat.lt_of_lt_of_le (by rw [e]; exact I.lt) hf)) (I.nofs hf)
  refine PySem.W.kla_eval hdef ?_
  cases hc : codeAmong pos ps.toList with
  | some cv =>
    obtain ⟨c', rfl, hB⟩ := ha pos cv hc
    refine PySem.W.kla_makeFunctionHit (mg := X.mg) (c := c) (P := P) (ps := ps) (closure_ok hfree) I.ok.glob (I.mod.glob.keeps I.bk) hcode (TB.code.keeps I.bk) (I.hok P _ hP) ht hc (TB.bm.keeps I.bk) fun ctv h' tk hx hz => ?_
    exact h h'.objs.size c' _ ctv H B _ (I.kept (t' := tk) fun b o e => Heap.get?_push_of_some _ (hx b o e)) hs Grow.refl (Heap.get?_push_size _ rfl) (I.hok.fresh hz) (far _ hz) hB
  | none =>
    refine PySem.W.kla_makeFunction (mg := X.mg) (c := c) (P := P) (ps := ps) (closure_ok hfree) I.ok.glob (I.mod.glob.keeps I.bk) hcode (TB.code.keeps I.bk) (I.hok P _ hP) ht hc TB.gP (TB.bm.keeps I.bk) fun c' ctv h' tk hx hge hlt hrec htb => ?_
    obtain ⟨c2, oc, vs, t2, e2, hoc, hd, hv⟩ := hrec
    cases e2
    obtain ⟨s1, g1⟩ := hs.code (pos := pos) hm hu hP ht ha (I.hok.fresh hge) rfl
    have hz : s.heap.objs.size ≤ h'.objs.size := Nat.le_of_lt (Nat.lt_of_le_of_lt hge hlt)
    have I1 := LamX.inv_table (t' := tk) (more := #[rawInt pos.line, rawInt pos.col, .ref c']) (h' := h'.push (PySem.W.kla_obj "<lambda>" (X.env.qual ++ "<lambda>") params body scope (cloFrom X.env.cells scope.names []) ((X.mg "__name__").getD .none) c' ctv)) I hP
      (fun b o n e => Heap.get?_push_of_some _ (hx b o n e)) (Heap.get?_push_of_some _ htb) hge ⟨oc, vs, t2, Heap.get?_push_of_some _ hoc, hd, hv⟩
    refine h h'.objs.size c' _ ctv _ _ _ I1 s1 g1 (Heap.get?_push_size _ rfl) ?_ (far _ hz) upd_same
    have nP : h'.objs.size ≠ P := Nat.ne_of_gt (Nat.lt_of_lt_of_le (Heap.lt_size (I.hok P _ hP)) hz)
    rw [upd_ne (Nat.ne_of_gt hlt), upd_ne nP]
    exact I.hok.fresh hz
end
/-! ### a call over another base -/
theorem fun_frames {h base base' : Heap} : ∀ {l : List Env}, h.FunFrames base l → (∀ b ∈ frs l, base'.get? b = none) → h.FunFrames base' l
  | [], _, _ => trivial
  | env :: r, ⟨h1, ⟨L, o, e1, e2, e3, e4⟩, h5⟩, hn => by
    have sub : ∀ b ∈ frs r, base'.get? b = none := fun b m => hn b (by
      unfold frs at m ⊢
      rw [List.filterMap_cons, e1]
      exact List.mem_cons_of_mem _ m)
    refine ⟨h1, ⟨L, o, e1, hn L ?_, e3, e4⟩, fun_frames h5 sub⟩
    unfold frs
    rw [List.filterMap_cons, e1]
    exact List.mem_cons_self
/-- all that stands still: what isn't tracked, but the frames -/
def hidF (X : Cx) (H : Hp) : Hp := fun b => open Classical in if b ∈ frs X.stack then some (.ext fun _ => True) else H b
section
variable {X : Cx} {pins : List (Addr × Obj)} {σ : L2.St} {H : Hp} {s : Shared}
theorem hidF_none {b : Addr} (h : hidF X H b = none) : b ∉ frs X.stack ∧ H b = none := by
  unfold hidF at h
  split at h
  · cases h
  · rename_i n; exact ⟨n, h⟩
theorem hidF_of {b : Addr} (h : b ∉ frs X.stack) (n : H b = none) : hidF X H b = none := by
  unfold hidF
  rw [if_neg h]
  exact n
theorem base_sub (I : Inv X pins σ H s) : ∀ b o, X.base.get? b = some o → (hidT s.heap (hidF X H)).get? b = some o := fun b o e => by
  refine hidT_get (I.bk b o e) (hidF_of (fun m => ?_) (I.bs b o e).2)
  have := (I.stack.mem m).1
  rw [e] at this
  cases this
theorem env_base (I : Inv X pins σ H s) : Env0 X.prog X.w X.K X.mg (hidT s.heap (hidF X H)) X.A X.stack s H := by
  have sub := base_sub I
  refine ⟨I.ok.frames, ⟨I.ok.mod.kin.keeps sub, I.ok.mod.glob.keeps sub, let ⟨mb, h1, h2⟩ := I.ok.mod.blt; ⟨mb, h1.keeps sub, h2⟩, I.ok.mod.nolimit.keeps sub⟩, fun b o e => ?_, Nat.le_of_eq (hidT_size _ _), fun_frames I.stack fun b m => ?_, I.stkFree, I.hok, I.bare⟩
  · obtain ⟨h1, h2⟩ := of_hidT e
    exact ⟨h1, (hidF_none h2).2⟩
  · cases z : (hidT s.heap (hidF X H)).get? b with
    | none => rfl
    | some o => exact absurd m (hidF_none (of_hidT z).2).1
theorem goesB {base' : Heap} {CX : CXT} {k : Nat} {f : Addr} {fd : FuncData} {ps : List Str} {sp : Sp} {E : XK} {Q : VK} {us : List Value} {vs : List V} (F : FnG X.prog X.w X.K X.mg base' CX k f fd ps sp) (gu : X.A.guards = some []) (hr : Room k X.A) (e0 : Env0 X.prog X.w X.K X.mg base' X.A X.stack s H)
    (hb : us.length = ps.length → BindsTo s fd ⟨us, []⟩ (ps.zip us)) (hx : Passes CX X E) (I : Inv X pins σ H s) (r : Vals vs us) (h : sp vs H Q E) : wpAny (model X.prog X.w) X.A (call (.ref f) us) (EP X pins σ Q) X.xe s := by
  refine wpAny_call (codeAny_mono (F.go X.A X.stack s H ⟨us, []⟩ us vs Q E gu hr e0 (hb (r.length.symm.trans (F.len _ _ _ _ h))) r h) ?_)
  rintro (er | fl) s' q
  · exact hx pins σ H s er s' I q
  · match fl, q with
    | .ret u, q => exact I.after q
    | .next, q => exact False.elim q
    | .brk, q => exact False.elim q
    | .cont, q => exact False.elim q
end
/-! ### the whole call -/
def isRef : D → Bool
  | .tuple _ => true
  | .list _ => true
  | .dict _ => true
  | _ => false
theorem ref_of {K : PySem.W.Frag} {B : Hp} {v : V} {d : D} (r : Rp K B v d) (h : isRef d = true) : ∃ a, v = .ref a := by
  cases r with
  | non => cases h
  | bl _ => cases h
  | int _ => cases h
  | str _ => cases h
  | lst _ _ => exact ⟨_, rfl⟩
  | tup _ _ => exact ⟨_, rfl⟩
  | scr _ => exact ⟨_, rfl⟩
  | fnc _ _ => exact ⟨_, rfl⟩
  | clo _ _ => exact ⟨_, rfl⟩
  | dic _ _ => exact ⟨_, rfl⟩
/-- what the call tells, whatever the lambda's address -/
noncomputable def lamRes (M : Addr → Addr → Addr → MF) (x : DV) (q : Str) (d : D) (κ : Kap) : Out DV := open Classical in if h : ∃ o, ∀ f c a : Addr, M f c a [x, .d (cloD f c a q d)] κ = o then Classical.choose h else .bad
theorem lamRes_eq {M : Addr → Addr → Addr → MF} {x : DV} {q : Str} {d : D} {κ : Kap} (f c a : Addr) : lamRes M x q d κ = .bad ∨ M f c a [x, .d (cloD f c a q d)] κ = lamRes M x q d κ := by
  unfold lamRes
  split
  · rename_i h; exact .inr (Classical.choose_spec h f c a)
  · exact .inl rfl
theorem lamRes_of {M : Addr → Addr → Addr → MF} {x : DV} {q : Str} {d : D} {κ : Kap} {o : Out DV} (h : ∀ f c a : Addr, M f c a [x, .d (cloD f c a q d)] κ = o) : lamRes M x q d κ = o := by
  rcases lamRes_eq (M := M) (x := x) (q := q) (d := d) (κ := κ) 0 0 0 with e | e
  · unfold lamRes at e
    rw [dif_pos ⟨o, h⟩] at e
    have := Classical.choose_spec (show ∃ o, ∀ f c a : Addr, M f c a [x, .d (cloD f c a q d)] κ = o from ⟨o, h⟩) 0 0 0
    unfold lamRes
    rw [dif_pos ⟨o, h⟩, ← this, h]
  · rw [← e, h]
noncomputable def mCallLam (M : Addr → Addr → Addr → MF) (q : Str) (i : Nat) (me : ME) : ME := fun ρ κ => (me ρ κ).bind fun x κ1 => match ρ[i]? with
  | some (some (.d d)) => if isRef d = true then lamRes M (fz x) q d κ1 else .bad
  | _ => .bad
section
variable {X : Cx} {k i : Nat} {q : Str} {params : Arguments} {body : Expr} {scope : Scope} {N : List Str} {p y g : Str} {st : Stmt} {ps : List Str} {M : Addr → Addr → Addr → MF} {c P : Addr} {px pos lpos : Pos} {e : Expr} {me : ME}
theorem je_callLam {fg : Addr} {fd : FuncData} (gu : X.A.guards = some []) (hr : Room k X.A) (TB : LamX.TabB X.base X.mg c P) (hcode : X.env.code = .ref c) (hq : X.env.qual ++ "<lambda>" = q) (hm : (P, q) ∈ tabsOf X.K) (hu : ∀ p ∈ tabsOf X.K, p.1 = P → p.2 = q)
    (Fu : Fun X.K g g st fg fd) (hb : Binds X.K fd ps []) (hmg : X.mg g = some (.ref fg)) (C : ∀ (base' : Heap) (f c a : Addr), LamB base' f c a q params body scope y → Cal X.prog X.w X.K X.mg base' k g st ps (M f c a)) (hps : ps.length = 2) (S : NdefX.NScope N [p] [y] scope)
    (hy : X.env.scope.names.lookup y = some .cell ∨ X.env.scope.names.lookup y = some .free) (hfn : X.fn y = true) (hN : X.N[i]? = some y) (he1 : JE X E0 e me) (hyf : (y, NameKind.free) ∈ scope.names)
    (hdef : defaultsOf params X.env = ([], []) := by rfl) (hg : Gl X g := by rfl) (hdb : (g == ("__debug__" : Str)) = false := by decide)
    (he : starEach [e, .Lambda params body scope lpos] X.env = (false, eval e X.env) :: starEach [.Lambda params body scope lpos] X.env := by rfl) (hpl : (backTo pos (starEach [.Lambda params body scope lpos] X.env)).any (·.1) = false := by rfl) :
    JE X E0 (.Call (.Name g px) [e, .Lambda params body scope lpos] [] pos) (mCallLam M q i me) := by
  refine ⟨fun pins s σ H Q I h => ?_⟩
  obtain ⟨F, B, ι, ρ, κ, so, h⟩ := h
  unfold mCallLam at h
  have names : ∀ z ∈ scope.names, z.2 = .free → X.env.scope.names.lookup z.1 = some .cell ∨ X.env.scope.names.lookup z.1 = some .free := fun z hz ez => by
    rw [List.mem_singleton.mp (S.free z hz ez)]; exact hy
  refine wpAny_Call_Name_kw (ld_glob I hg hmg (PySem.W.callWith_K (h₀ := X.base) I.ok.mod.kin Fu.kp ?_ he hpl) hdb)
  rw [he]
  show wpAny _ _ (spliced ((false, eval e X.env) :: backTo pos (starEach [.Lambda params body scope lpos] X.env))) _ _ s
  refine Calls.spliced_cons (thn (he1.run pins s σ H (fun v H1 => ∃ B1 ι1 κ1 x, me ρ κ = .ok x κ1 ∧ Grow F B ι H B1 ι1 H1 ∧ HSt X.K F B1 ι1 H1 κ1 ∧ WOk X.K B1 ι1 v (fz x)) I ?_) fun u s1 ⟨v, H1, I1, r1, B1, ι1, κ1, x, e1, g1, st1, w1⟩ => ?_)
  · refine evE so (fun x κ1 e1 v B1 ι1 H1 g1 st1 w1 => ?_) (fun n fs κ1 e1 => by rw [e1] at h; exact fun C d B' ι' H' ws a b c e f => absurd (h C d B' ι' H' ws a b c e f) id) (fun e => by rw [e] at h; exact h)
    obtain ⟨B2, st2, g2, w2⟩ := st1.fz w1
    exact ⟨B2, ι1, κ1, x, e1, g1.trans g2, st2, w2⟩
  · rw [e1] at h
    dsimp only [Out.bind] at h
    split at h
    · rename_i d ed
      split at h
      · rename_i hd
        obtain ⟨vy, hsy, wy⟩ := so.loc i _ ed
        obtain ⟨a, rfl⟩ := ref_of (show Rp X.K B vy d from wy) hd
        show wpAny _ _ (spliced ((false, eval (.Lambda params body scope lpos) X.env) :: [])) _ _ s1
        refine Calls.spliced_cons (lam_mk I1 TB hcode hq st1 hm hu hdef (fun z hz ez => (names z hz ez).elim (fun q => I1.ok.has _ (.inl q)) fun q => I1.ok.has _ (.inr q)) fun f c' pm ctv H2 B2 s2 I2 st2 g2 hf hfn0 hfr hcB => ?_)
        refine Calls.spliced_nil ⟨I2.kIn, ?_⟩
        have C0 := NdefX.cells_of I2 (NdefX.Caps.made (scope := scope) (fr := [y]) (js := [i]) I2.ok names (fun z hz => by rw [List.mem_singleton.mp hz]; exact hyf) (by rw [List.map_cons, hN]; rfl))
        have far : ∀ z b, (cloFrom X.env.cells scope.names []).lookup z = some b → b ∉ frs X.stack := fun z b hz m => by
          have hx := NdefX.clo_cm (fun z hz ez => (names z hz ez).elim (fun q => I1.ok.has _ (.inl q)) fun q => I1.ok.has _ (.inr q)) hz
          have hzy : z = y := by
            rcases cloFrom_mem (PySem.mem_of_lookup hz) with hm | ⟨h1, _⟩
            · cases hm
            · exact List.mem_singleton.mp (S.free _ h1 rfl)
          obtain ⟨_, v, o, ho, hdv⟩ := C0.all z b hz
          rcases List.mem_cons.mp (I2.stkSub _ m) with e' | m
          · obtain ⟨mm, ⟨o', es, ep, ho', hd', _⟩, _⟩ := I2.loc
            rw [e', ho'] at ho
            cases ho
            rw [hdv] at hd'
            cases hd'
          · obtain ⟨_, o', ho', _⟩ := I2.ok.funs.mem m
            exact Nat.lt_irrefl b (Nat.lt_of_lt_of_le (Heap.lt_size ho') (I2.ok.cab y b hfn (hzy ▸ hx)))
        have cellB : ∀ z b v, (cloFrom X.env.cells scope.names []).lookup z = some b → s2.heap.IsCell b v → (hidT s2.heap (hidF X H2)).IsCell b v := fun z b v hz ⟨o, ho, hdv⟩ => ⟨o, hidT_get ho (hidF_of (far z b hz) (C0.all z b hz).1), hdv⟩
        have LB : LamB (hidT s2.heap (hidF X H2)) f c' a q params body scope y := by
          refine ⟨_, pm, ctv, hidT_get hf (hidF_of hfr hfn0), fun z b hz => let ⟨_, v, hv⟩ := C0.all z b hz; ⟨v, cellB z b v hz hv⟩, C0.inj, ?_⟩
          obtain ⟨b, hb1, hb2⟩ := C0.has 0 y rfl
          obtain ⟨u1, ru, hu1⟩ := hb2 (.ref a) (by show some (NdefX.slotAt σ i) = _; rw [NdefX.slotAt_of hsy])
          obtain rfl : u1 = Value.ref a := ru
          exact ⟨b, hb1, cellB y b _ hb1 hu1⟩
        have CC := C _ f c' a LB
        show wpAny _ _ (call (.ref fg) [u, .ref f]) _ _ _
        refine goesB (vs := [v, .ref f]) (CC.fn Fu hmg) gu hr (env_base I2) (fun l => ?_) pass0 I2 (Paired.cons r1 (Paired.cons (show RelV (.ref f) (.ref f) from rfl) Paired.nil)) ⟨hps.symm, F, B2, ι1, [fz x, .d (cloD f c' a q d)], κ1, st2, .cons (w1.grow g2) (.cons (b := DV.d (cloD f c' a q d)) (Rp.clo hcB (Rp.mono (g1.trans g2).b (show Rp X.K B (.ref a) d from wy))) .nil), ?_⟩
        · have z := hb s2 [u, .ref f] I2.kIn (by rw [List.append_nil]; exact l)
          rw [List.append_nil] at z
          exact z
        · rcases lamRes_eq (M := M) (x := fz x) (q := q) (d := d) (κ := κ1) f c' a with z | z
          · rw [z] at h; exact h.elim
          · rw [z]; exact PostE.grow h (g1.trans g2)
      · exact h.elim
    · exact h.elim
end
end DL

namespace DL
open L2 PyProof.Rows PySem PySem.Spec

/-! ### a def whose code object is known -/
def CodeAt (K : PySem.W.Frag) (f : Addr) (cd : Value) : Prop := ∃ (oc : Value) (od : Option Addr) (fd : FuncData) (osl : Array (Option Value)), K.lookup f = some ⟨oc, od, .func fd, osl⟩ ∧ fd.code = cd
theorem CodeAt.inj {K : PySem.W.Frag} {f : Addr} {a b : Value} (h : CodeAt K f a) (g : CodeAt K f b) : a = b := by
  obtain ⟨_, _, _, _, e1, e2⟩ := h
  obtain ⟨_, _, _, _, e3, e4⟩ := g
  rw [e1] at e3
  cases e3
  exact e2.symm.trans e4
theorem fnGc {CX : CXT} {P : Program} {w : World} {K : PySem.W.Frag} {mg : Str → Option Value} {base : Heap} {k : Nat} {f : Addr} {fd : FuncData} {st : Stmt} {name qual : Str} {N ps : List Str} {sp : Sp} {cdv : Value}
    (Fu : Fun K name qual st f fd) (S : FnScope N ps (defScope st)) (CA : CodeAt K f cdv) (len : ∀ vs H Q E, sp vs H Q E → vs.length = ps.length)
    (body : ∀ (A : Around) (outer : List Env) (s : Shared) (H : Hp) (vs : List V) (Q : VK) (E : XK), A.guards = some [] → Room k (A.deeper (envOfC qual (defScope st) s.heap.objs.size f cdv)) → sp vs H Q E →
      ∃ t, PSs (cxOf CX P w K mg base N qual (defScope st) f cdv A outer s H E) (defBody st) t ∧ t { nx := fun _ H' => Q .non H', rt := Q } (L2.start N vs) H) : FnG P w K mg base CX (k + 1) f fd ps sp := by
  obtain ⟨oc, od, kV, doc, pm, an, cdv', ct, osl, rfl, look, code⟩ := Fu.ex
  obtain rfl : cdv' = cdv := CodeAt.inj ⟨oc, od, _, osl, look, rfl⟩ CA
  refine ⟨len, fun A outer s H args us vs Q E gu room en bi va pr => ?_⟩
  have inS : ∀ b o, base.get? b = some o → s.heap.get? b = some o := fun b o e => (en.bs b o e).1
  have kin : K.In s.heap := en.mod.kin.keeps inS
  have kinds : ∀ y ∈ ps.zip us, (defScope st).names.lookup y.1 = some .local ∨ ((defScope st).names.lookup y.1 = some .cell ∧ ((cellsFrom (s.heap.objs.size + 1) (defScope st).names []).lookup y.1).isSome = true) := by
    rintro ⟨n, v⟩ my
    cases S.par n (List.of_mem_zip my).1 with
    | inl q => exact .inl q
    | inr q => exact .inr ⟨q, PySem.W.cellsFrom_some _ _ _ (.inl q)⟩
  refine codeAny_call_function room.depth (kin _ _ look) rfl S.co S.gen rfl (PySem.W.codeRec_of kin code) (bi _ _ _ _ (wpAny_newFunctionEnv_cells S.kind kinds fun env ee s1 x => ?_))
  subst ee
  refine ⟨(en.mod.nolimit.keeps inS).keeps x.toInCall.keep, codeAny_func ?_⟩
  obtain ⟨t, run, reads⟩ := body A outer s H vs Q E gu (room.deeper _) pr
  have start := inv_start (CX := CX) (E := E) (cd := cdv') (f := f) (qual := qual) S room.hd en (len _ _ _ _ pr) va x
  refine wpAny_mono (run.run [] s1 _ H _ start reads) (fun fl s' h => ?_) fun _ _ h => h
  have back : ∀ {σ' : L2.St} {H' : Hp} {v : V} {u : Value}, Inv (cxOf CX P w K mg base N qual (defScope st) f cdv' A outer s H E) [] σ' H' s' → RelV v u → Q v H' → CE outer P w H s Q u s' := by
    intro σ' H' v u J rv q
    exact ⟨v, H', J.os, J.bare, J.base, J.hok, rv, q⟩
  match fl, h with
  | .ret u, ⟨v, σ', H', J, rv, q⟩ => exact back J rv q
  | .next, ⟨σ', H', J, q⟩ => exact back (v := .non) (u := .none) J rfl q
  | .brk, ⟨_, _, _, q⟩ => exact False.elim q
  | .cont, ⟨_, _, _, q⟩ => exact False.elim q
section
variable {P : Program} {w : World} {K : PySem.W.Frag} {mg : Str → Option Value} {base : Heap}
theorem ok_defC {x qual : Str} {st : Stmt} {f : Addr} {fd : FuncData} {N ps : List Str} {k : Nat} {mb : MS} {cdv : Value} (Fu : Fun K x qual st f fd) (S : FnScope N ps (defScope st)) (CA : CodeAt K f cdv)
    (hb : ∀ (A : Around) (outer : List Env) (s : Shared) (H : Hp) (E : XK), A.guards = some [] → Room k (A.deeper (envOfC qual (defScope st) s.heap.objs.size f cdv)) →
      JSs (cxOf CX0 P w K mg base N qual (defScope st) f cdv A outer s H E).nox E0 (defBody st) mb) : FnG P w K mg base CX0 (k + 1) f fd ps (spM K mg ps.length (mDef ps.length N.length mb)) := by
  refine fnGc Fu S CA (fun vs H Q E h => h.1) (fun A outer s H vs Q E gu hr h => ?_)
  obtain ⟨hl, F, B, ι, xs, κ, hs, p, h⟩ := h
  refine ⟨_, (hb A outer s H E gu hr).nox, ?_⟩
  unfold mDef at h
  rw [if_pos (by rw [← p.length]; exact hl)] at h
  exact fin_ok hs p h
end
/-! ### X[e] of a module's dict of defs -/
section
variable {X : Cx} {x : Str} {ds : List (D × D)} {p1 pos : Pos} {E : XK} {i : Expr} {mi : ME}
theorem je_mdsub (M : MDict X.K X.w X.mg x ds) (hgx : Gl X x) (hi : JE X E i mi) (hs : NoSl i) (hdx : (x == ("__debug__" : Str)) = false := by decide) :
    JE X E (.Subscript (.Name x p1) i pos) (mDget (mC (.dict ds)) mi) := by
  obtain ⟨d, es, n, kus, h1, h2, h3, h4, h5, h6, h7, h8⟩ := M.ex
  refine ⟨fun pins s σ H Q I h => ?_⟩
  obtain ⟨F, B, ι, ρ, κ, so, h⟩ := h
  unfold mDget mC at h
  replace h : PostE X.K X.mg E F B ι H Q (Out.bind (mi ρ κ) fun y κ2 => match (DV.d (.dict ds)), y with
    | .d (.dict kvs), .d k => match dgetD kvs k with
      | some v => .ok (.d v) κ2
      | none => .bad
    | _, _ => .bad) := h
  refine subD_of PySem.F.slot_dict_getitem.lookup hs (thn ((pe_glob (pos := p1) hgx h1 (show RelV (.ref d) (.ref d) from rfl) hdx).run pins s σ H (fun v H1 => v = .ref d ∧ H1 = H) I ⟨rfl, rfl⟩) fun u s1 ⟨v, H1, I1, r1, q1⟩ => ?_)
  obtain ⟨rfl, rfl⟩ := q1
  obtain rfl : u = Value.ref d := r1
  refine thn (hi.run pins s1 σ _ (fun y H2 => ∃ (B2 : Hp) (ky : Key) (z : V) , y = kV ky ∧ valV (tk kus) ky = some z ∧ Q z H2) I1 ?_) fun iv s2 ⟨y, H2, I2, ry, B2, ky, z, ey, ez, q2⟩ => ?_
  · refine evE so (fun y κ2 e2 u B2 ι2 H2 g2 s2 w2 => ?_) (fun n fs κ1 e1 => by rw [e1] at h; exact h) (fun e => by rw [e] at h; exact h)
    rw [e2] at h
    dsimp only [Out.bind] at h
    cases y with
    | d k =>
      dsimp only at h
      split at h
      · rename_i dd ed
        obtain ⟨ky, ek⟩ := key_some ed
        obtain ⟨z, e3, r3⟩ := (dget_ok (h6 B2) ek).1 dd ed
        exact ⟨B2, ky, z, key_v ek (show Rp X.K B2 u k from w2), e3, h z B2 ι2 H2 g2 s2 r3⟩
      · exact h.elim
    | _ => exact h.elim
  · subst ey
    obtain ⟨pr, rel⟩ := ents_pairs (P := X.prog) (w := X.w) h5
    have dd : s2.heap.DictOf (mixKind X.prog X.w) d (List.zipWith (fun (q : Str × V) (e : DictEntry) => (Sum.inr q.1, e.val)) kus es.toList) := by
      refine ⟨_, es, n, I2.kIn _ _ h2, ⟨rfl, rfl, rfl⟩, rfl, fun e m => ?_, pr, ?_⟩
      · obtain ⟨x, t, e1, e2⟩ := h3.all e (Array.mem_toList_iff.mpr m)
        exact ⟨Sum.inr x, by rw [e1]; exact mixKind_str X.prog X.w x t, e2⟩
      · rw [zip_keys h5]
        rw [show (kus.map fun q => (Sum.inr q.1 : Key)) = (kus.map (·.1)).map Sum.inr from (List.map_map ..).symm]
        exact (List.pairwise_map.mpr (h7.imp fun h e => h (Sum.inr.inj e)))
    obtain ⟨w', hw, rw'⟩ := RelO.some_of (v := z) (o := valueAt (List.zipWith (fun (q : Str × V) (e : DictEntry) => ((Sum.inr q.1 : Key), e.val)) kus es.toList) ky) (by rw [← ez]; exact rel.val ky)
    refine ⟨⟨_, I2.kIn _ _ h2, rfl⟩, wpAny_getItem_of (kV_is ry) dd.mapOf hw ⟨z, H2, I2.tok _, rw', q2⟩⟩
end
/-! ### a text within a text -/
def subT (a b : Str) : Bool := !(Builtin.Str.occurrences b a 0 b.length 1).isEmpty
def inTD (_ : Kap) (x y : DV) : Option DV := match x, y with
  | .d (.str a), .d (.str b) => some (.d (.bool (subT a b)))
  | _, _ => none
theorem inTI {K : PySem.W.Frag} : BinI K (fun x y H Q => ∃ i j, x = .str i ∧ y = .str j ∧ Q (.bl (!(Builtin.Str.occurrences j i 0 j.length 1).isEmpty)) H) inTD := fun F B ι H κ v w x y z s wx wy e Q q => by
  unfold inTD at e
  split at e
  · cases e; cases wx; cases wy
    exact ⟨_, _, rfl, rfl, keepQ s (.bl _) q⟩
  · cases e
/-! ### the tables of the text -/
structure LamAt (K : PySem.W.Frag) (x : Str) (f c P : Addr) : Prop where
  n : PySem.W.nsIn K mainGlobals x = some (some (.ref f))
  cd : CodeAt K f (.ref c)
  t : ∃ (oc : Value) (od : Option Addr) (vs : Array Value) (osl : Array (Option Value)), K.lookup c = some ⟨oc, od, .fields vs, osl⟩ ∧ (vs[11]? : Option Value) = some (.ref P)
  hd : PySem.W.codeHdIn K c P = true
  out : K.lookup P = none
theorem tabOf_at {K : PySem.W.Frag} {x : Str} {f c P : Addr} (L : LamAt K x f c P) : tabOf K x = some P := by
  obtain ⟨oc, od, fd, osl, e1, e2⟩ := L.cd
  obtain ⟨oc', od', vs, osl', e3, e4⟩ := L.t
  unfold tabOf
  rw [L.n]
  dsimp only
  rw [e1]
  dsimp only
  rw [e2]
  dsimp only
  rw [e3]
  dsimp only
  rw [e4]
theorem tabOf_no {K : PySem.W.Frag} {x : Str} (h : PySem.W.nsIn K mainGlobals x = some none) : tabOf K x = none := by
  unfold tabOf
  rw [h]
theorem tabs_none {K : PySem.W.Frag} (h1 : PySem.W.nsIn K mainGlobals "holds" = some none) (h2 : PySem.W.nsIn K mainGlobals "holds_of" = some none) (h3 : PySem.W.nsIn K mainGlobals "best_way" = some none) : tabsOf K = [] := by
  unfold tabsOf lamNames
  simp only [List.filterMap_cons, List.filterMap_nil, tabOf_no h1, tabOf_no h2, tabOf_no h3, Option.map_none]
theorem tabs_holds {K : PySem.W.Frag} {f c P : Addr} (L : LamAt K "holds" f c P) (h2 : PySem.W.nsIn K mainGlobals "holds_of" = some none) (h3 : PySem.W.nsIn K mainGlobals "best_way" = some none) : tabsOf K = [(P, ("holds.<locals>.<lambda>" : Str))] := by
  unfold tabsOf lamNames
  simp only [List.filterMap_cons, List.filterMap_nil, tabOf_at L, tabOf_no h2, tabOf_no h3, Option.map_none, Option.map_some]
theorem tabs_best {K : PySem.W.Frag} {f c P : Addr} (L : LamAt K "best_way" f c P) (h1 : PySem.W.nsIn K mainGlobals "holds" = some none) (h2 : PySem.W.nsIn K mainGlobals "holds_of" = some none) : tabsOf K = [(P, ("best_way.<locals>.<lambda>" : Str))] := by
  unfold tabsOf lamNames
  simp only [List.filterMap_cons, List.filterMap_nil, tabOf_at L, tabOf_no h1, tabOf_no h2, Option.map_none, Option.map_some]
/-! ### the end -/
def LamLaw (P : Program) (w : World) (K : PySem.W.Frag) (mg : Str → Option Value) (k : Nat) (fa : Addr) (x : Str) (m : MF) (h : Heap) : Prop :=
  ∃ (fd : FuncData) (cs : List (Addr × Addr)), (∀ p ∈ cs, h.get? p.2 = some tab0) ∧ (∀ p ∈ cs, K.lookup p.2 = none) ∧ (∀ p ∈ cs, PySem.W.codeHdIn K p.1 p.2 = true) ∧ (∀ (s : Shared) (u : Value), BindsTo s fd ⟨[u], []⟩ [(x, u)]) ∧
    (∀ H : Hp, (∀ p ∈ cs, H p.2 = some (.tbl #[])) → ∀ p ∈ tabsOf K, H p.1 = some (.tbl #[])) ∧
    ∀ base : Heap, K.In base → base.Ns mainGlobals mg → (∀ p ∈ cs, LamX.TabB base mg p.1 p.2) → FnG P w K mg base CX0 k fa fd [x] (spM K mg 1 m)
abbrev OwnT (K : PySem.W.Frag) (ls : List Str) (h : Heap) : Prop := ∀ (y : Str) (f c P : Addr), y ∈ ls → LamAt K y f c P → h.get? P = some tab0
theorem walkGL {l : PySem.W.OpenLaw} {n k : Nat} {q : Program} {loose : List Str} {XP : (Str → Option Value) → Heap → Prop} {YP : World → Heap → Prop} {d : DefRec} {K : Params → PySem.W.Frag} {m : MF} {x : Str} (ls : List Str)
    (hn : l.most = some n) (hn2 : n ≤ sizeLine) (hdf : d.params.defaults = []) (room : Room k callerA) (hrec : (ls.all fun y => (recsOf q).any fun e => e.name == y) = true) (hY : ∀ (w : World) (h : Heap), YP w h → (K w.params).In h)
    (F : ∀ (w : World) (mg : Str → Option Value) (fa : Addr) (h : Heap), (K w.params).In h → h.Ns mainGlobals mg → mg d.name = some (.ref fa) → OwnT (K w.params) ls h → LamLaw l.prog w (K w.params) mg k fa x m h)
    (prom : ∀ ns : List Int, ns.length ≤ n → ∃ κ, m [.d (scr (ns.map .int))] [] = .ok (.d (.bool true)) κ) :
    PySem.W.WalkO q loose XP YP l.row.toRowW d [] (fun f vs => PySem.call f vs) := by
  refine Att.attach_call hn hdf fun w s₀ s₁ mg mb fa o pm cd doc a its ns G Y ho hd hcd hmg hobj hi hlen hge => ?_
  have KX := hY w _ Y
  have own : OwnT (K w.params) ls s₁.heap := fun y f c P my L => by
    obtain ⟨dL, hm, hn1⟩ := List.any_eq_true.mp (List.all_eq_true.mp hrec y my)
    have hn2 : dL.name = y := beq_iff_eq.mp hn1
    obtain ⟨a', o', fd', c', P', h1, h2, h3, h4, h5, h6⟩ := G.T.tab dL hm
    rw [hn2, PySem.W.mg_of KX G.T.g L.n] at h1
    cases h1
    obtain ⟨oc, od, fd1, osl, k1, k2⟩ := L.cd
    obtain ⟨oc', od', vs, osl', k3, k4⟩ := L.t
    have g1 := KX _ _ k1
    rw [g1] at h2
    cases h2
    cases h3
    rw [k2] at h4
    cases h4
    obtain ⟨⟨oc2, vc, e1, _, e3, e4⟩, hP⟩ := h6
    have g2 := KX _ _ k3
    rw [g2] at e1
    cases e1
    cases e3
    rw [k4] at e4
    cases e4
    exact hP
  obtain ⟨fd, cs, hT, nT, hC, hb, ht, hF⟩ := F w mg fa _ KX G.T.g hmg own
  exact lawGT KX G.T.g G.T.b G.T.builtins G.T.nolimit hge hT nT hC G.T.bmain hobj hi (Nat.le_trans hlen hn2) room hF hb (fun H hH h => law_prom (ht H hH) h (prom ns hlen)) fun H e s' h => h
end DL

namespace DL
open L2 PyProof.Rows PySem PySem.Spec

/-! ### x in ys, x not in ys of lists of any data -/
def inDeep (κ : Kap) (x y : DV) : Option Bool := match dat κ x, dat κ y with
  | some d, some (.list ds) => if SeqAt.shaped d = true ∧ SeqAt.shaped (.list ds) = true then some (ds.any fun z => PyData.eqv z d) else none
  | _, _ => none
def inDD (κ : Kap) (x y : DV) : Option DV := (inDeep κ x y).map fun b => .d (.bool b)
def ninDD (κ : Kap) (x y : DV) : Option DV := (inDeep κ x y).map fun b => .d (.bool (!b))
section
variable {K : PySem.W.Frag} {F : List Addr} {B : Hp} {ι : List Addr} {H : Hp} {κ : Kap} {v w : V} {x y : DV}
theorem inDeep_ok (s : HSt K F B ι H κ) (wx : VOk K F B ι H v x) (wy : VOk K F B ι H w y) {b : Bool} (e : inDeep κ x y = some b) :
    ∃ d ds, Dp K H v d ∧ Dp K H w (.list ds) ∧ SeqAt.shaped d = true ∧ SeqAt.shaped (.list ds) = true ∧ b = ds.any fun z => PyData.eqv z d := by
  unfold inDeep at e
  split at e
  · rename_i d ds e1 e2
    split at e
    · rename_i h
      cases e
      exact ⟨d, ds, dat_ok s wx e1, dat_ok s wy e2, h.1, h.2, rfl⟩
    · cases e
  · cases e
end
theorem inDDI {K : PySem.W.Frag} : BinI K (rInD K) inDD := fun F B ι H κ v w x y z s wx wy e Q q => by
  unfold inDD at e
  cases e1 : inDeep κ x y with
  | none => rw [e1] at e; cases e
  | some b =>
    rw [e1] at e; cases e
    obtain ⟨d, ds, h1, h2, h3, h4, rfl⟩ := inDeep_ok s wx wy e1
    exact ⟨d, ds, h1, h2, h3, h4, keepQ s (.bl _) q⟩
theorem ninDDI {K : PySem.W.Frag} : BinI K (rNotInD K) ninDD := fun F B ι H κ v w x y z s wx wy e Q q => by
  unfold ninDD at e
  cases e1 : inDeep κ x y with
  | none => rw [e1] at e; cases e
  | some b =>
    rw [e1] at e; cases e
    obtain ⟨d, ds, h1, h2, h3, h4, rfl⟩ := inDeep_ok s wx wy e1
    exact ⟨d, ds, h1, h2, h3, h4, keepQ s (.bl _) q⟩
theorem room65 {k : Nat} {A : Around} (r : Room k A) : A.units + 65 < cLine := by have := r.un; omega
/-! ### a list of new lists, all of them cells -/
def mLstN (ma : MA) : ME := fun ρ κ => (ma ρ κ).bind fun xs κ1 => if xs.length ≤ 1000 then .ok (.c κ1.length) (κ1 ++ [.lst xs]) else .bad
theorem HSt.cellN {K : PySem.W.Frag} {F : List Addr} {B : Hp} {ι : List Addr} {H : Hp} {κ : Kap} (s : HSt K F B ι H κ) {p : Addr} {vs : List V} {xs : List DV} (h1 : H p = some (.lst vs)) (h2 : B p = none) (h3 : p ∉ ι) (h4 : p ∉ F) (r : Paired (WOk K B ι) vs xs) :
    HSt K F B (ι ++ [p]) H (κ ++ [.lst xs]) ∧ Grow F B ι H B (ι ++ [p]) H ∧ WOk K B (ι ++ [p]) (.ref p) (.c κ.length) := by
  have i : ∀ (j : Nat) (a : Addr), ι[j]? = some a → (ι ++ [p])[j]? = some a := fun j a e => by
    rw [List.getElem?_append_left (List.getElem?_eq_some_iff.mp e).1]; exact e
  have last : (ι ++ [p])[κ.length]? = some p := by
    rw [← s.len, List.getElem?_append_right (Nat.le_refl _), Nat.sub_self]; rfl
  refine ⟨⟨s.ex, by rw [List.length_append, List.length_append, s.len]; rfl, ?_, fun j a m l => ?_, fun a m => ?_, fun j a cl e1 e2 => ?_, fun a m => ?_, fun q m => let t := s.tb q m; t.to (Same.refl _) rfl t.2.1 (fun z => (List.mem_append.mp z).elim t.2.2.1 fun z => t.ne h1 (by intro _ z; cases z) (List.mem_singleton.mp z)) t.2.2.2⟩, ⟨Same.refl _, i, fun _ _ => rfl⟩, ⟨p, last, rfl⟩⟩
  · rw [List.nodup_append]
    refine ⟨s.nd, by simp, fun a ha b hb e => ?_⟩
    rw [List.mem_singleton] at hb
    exact h3 (by rw [← hb, ← e]; exact ha)
  · by_cases hj : j < κ.length
    · rw [List.getElem?_append_left (by rw [s.len]; exact hj)] at m
      rw [List.getElem?_append_left hj] at l
      exact s.out j a m l
    · have hj2 := (List.getElem?_eq_some_iff.mp m).1
      rw [List.length_append, s.len] at hj2
      have hj2 : j < κ.length + 1 := hj2
      have ej : j = κ.length := by omega
      subst ej
      rw [last] at m
      cases m
      exact h2
  · obtain ⟨a1, a2, a3⟩ := s.pro a m
    refine ⟨a1, a2, fun z => ?_⟩
    rcases List.mem_append.mp z with z | z
    · exact a3 z
    · rw [List.mem_singleton.mp z] at m
      exact h4 m
  · by_cases hj : j < κ.length
    · rw [List.getElem?_append_left (by rw [s.len]; exact hj)] at e1
      rw [List.getElem?_append_left hj] at e2
      exact (s.cel j a cl e1 e2).mono (Same.refl _) i rfl
    · have hj2 := (List.getElem?_eq_some_iff.mp e2).1
      rw [List.length_append] at hj2
      have hj2 : j < κ.length + 1 := hj2
      have ej : j = κ.length := by omega
      subst ej
      rw [last] at e1
      cases e1
      rw [List.getElem?_append_right (Nat.le_refl _), Nat.sub_self] at e2
      cases e2
      exact ⟨vs, h1, pmap r fun _ _ w => w.mono (Same.refl _) i⟩
  · rcases List.mem_append.mp m with m | m
    · exact s.tr a m
    · rw [List.mem_singleton.mp m]; exact ⟨_, h1⟩
section
variable {X : Cx} {E : XK} {es : List Expr} {ma : MA} {pos : Pos}
theorem je_lstN (h : JA X E es ma) : JE X E (.List es pos) (mLstN ma) :=
  pe_imp (pe_lst h) fun σ H Q ⟨F, B, ι, ρ, κ, s, h⟩ => by
    unfold mLstN at h
    refine evA s (fun xs κ1 e1 vs B1 ι1 H1 g1 s1 w1 => ?_) (fun n fs κ1 e1 => by rw [e1] at h; exact h) (fun e => by rw [e] at h; exact h)
    rw [e1] at h
    dsimp only [Out.bind] at h
    split at h
    · rename_i hl
      refine ⟨line1000 (by rw [w1.length]; exact hl), fun p hp => ?_⟩
      obtain ⟨s2, g2, h3, h4, h5⟩ := s1.loose (o := .lst vs) hp
      obtain ⟨s3, g3, w3⟩ := s2.cellN upd_same h3 h4 h5 w1
      exact h _ _ _ _ (g1.trans (g2.trans g3)) s3 w3
    · exact h.elim
end
/-! ### [..].index(x), texts -/
def idxOf : List D → D → Nat → Option Nat
  | [], _, _ => none
  | y :: r, x, i => if PyData.eqv y x = true then some i else idxOf r x (i + 1)
def mIdx (mo : ME) (ma : MA) : ME := fun ρ κ => (mo ρ κ).bind fun x κ1 => match x with
  | .n ys => (ma ρ κ1).bind fun xs κ2 => match xs with
    | [.d a] => if flatD a = true ∧ ys.all flatD = true then (match idxOf ys a 0 with
      | some i => .ok (.d (.int i)) κ2
      | none => .bad) else .bad
    | _ => .bad
  | _ => .bad
theorem idx_ok : ∀ {ys : List D} {x : D} {i j : Nat}, idxOf ys x i = some j → i ≤ j ∧ (∃ z, ys[j - i]? = some z ∧ PyData.eqv z x = true) ∧ ∀ (m : Nat) (z : D), m < j - i → ys[m]? = some z → PyData.eqv z x = false
  | [], _, _, _, h => by cases h
  | y :: r, x, i, j, h => by
    rw [idxOf] at h
    split at h
    · rename_i e
      cases h
      refine ⟨Nat.le_refl _, ⟨y, by rw [Nat.sub_self]; rfl, e⟩, fun m z hm => ?_⟩
      rw [Nat.sub_self] at hm
      exact absurd hm (Nat.not_lt_zero _)
    · rename_i e
      obtain ⟨h1, ⟨z, h2, h3⟩, h4⟩ := idx_ok h
      have ej : j - i = (j - (i + 1)) + 1 := by omega
      refine ⟨by omega, ⟨z, by rw [ej, List.getElem?_cons_succ]; exact h2, h3⟩, fun m z hm hz => ?_⟩
      cases m with
      | zero =>
        rw [List.getElem?_cons_zero] at hz
        cases hz
        exact Bool.eq_false_iff.mpr e
      | succ m =>
        rw [List.getElem?_cons_succ] at hz
        exact h4 m z (by omega) hz
section
variable {X : Cx} {E : XK} {o e : Expr} {es : List Expr} {mo : ME} {ma : MA} {apos cpos : Pos}
theorem idx_imp {K : PySem.W.Frag} {mg : Str → Option Value} {σ : L2.St} {H : Hp} {Q : VK} (h : tM K mg E (mIdx mo ma) σ H Q) : tBM K "list" (rIndex K) (tM K mg E mo) (tA K mg E ma) σ H Q := by
  obtain ⟨F, B, ι, ρ, κ, s, h⟩ := h
  unfold mIdx at h
  refine evE s (fun x κ1 e1 v B1 ι1 H1 g1 s1 w1 => ?_) (fun n fs κ1 e1 => by rw [e1] at h; exact h) (fun e => by rw [e] at h; exact h)
  rw [e1] at h
  dsimp only [Out.bind] at h
  split at h
  · rename_i ys
    obtain ⟨p, us, rfl, h1, h2, h3, h4, ra⟩ := id w1
    refine ⟨.inl ⟨rfl, us, lst1 h1⟩, ?_⟩
    obtain ⟨hF, s1', back⟩ := s1.hold2 w1
    replace h : PostE K mg E F B ι H Q ((ma ρ κ1).bind fun xs κ2 => match xs with
      | [.d a] => if flatD a = true ∧ ys.all flatD = true then (match idxOf ys a 0 with
        | some i => .ok (.d (.int i)) κ2
        | none => .bad) else .bad
      | _ => .bad) := h
    refine evA (s.step g1 s1') (fun xs κ2 e2 ws B2 ι2 H2 g2 s2 w2 => ?_) (fun n fs κ2 e2 => by rw [e2] at h; exact XW.grow h g1 hF) (fun e => by rw [e] at h; exact h)
    rw [e2] at h
    obtain ⟨w1', s2', g2'⟩ := back g2 s2
    dsimp only [Out.bind] at h
    split at h
    · rename_i a
      split at h
      · rename_i hf
        split at h
        · rename_i i ei
          obtain ⟨p', us', ep, h1', h2', h3', h4', ra'⟩ := w1'
          cases ep
          cases w2 with
          | cons wa wr =>
            cases wr
            rename_i va
            have wa' : Rp K B2 va a := wa
            obtain ⟨_, ⟨z, e3, e4⟩, e5⟩ := idx_ok ei
            rw [Nat.sub_zero] at e3 e5
            obtain ⟨vz, e6, rz⟩ := RpAll.get ra' e3
            have fl : ∀ {d : D}, d ∈ ys → flatD d = true := fun m => List.all_eq_true.mp hf.2 _ m
            refine ⟨p, us', va, i, vz, rfl, rfl, lst1 h1', flat_of wa' hf.1, flats_of ra' hf.2, e6, by rw [eqv_of rz (fl (List.mem_of_getElem? e3)) wa' hf.1]; exact e4, fun m z' hm hz => ?_, ?_⟩
            · have lm : m < ys.length := by rw [← ra'.len]; exact (List.getElem?_eq_some_iff.mp hz).1
              obtain ⟨vz', e7, rz'⟩ := RpAll.get ra' (List.getElem?_eq_getElem lm)
              rw [hz] at e7
              cases e7
              rw [eqv_of rz' (fl (List.getElem_mem lm)) wa' hf.1]
              exact e5 m _ hm (List.getElem?_eq_getElem lm)
            · exact h _ B2 ι2 H2 (g1.trans g2') s2' (Rp.int _)
        · exact h.elim
      · exact h.elim
    · exact h.elim
  · exact h.elim
theorem je_idx (ho : JE X E o mo) (ha : JA X E (e :: es) ma)
    (hbase : attributeBase o "index" X.env (eval o X.env) = eval o X.env := by rfl)
    (hfew : ((backTo cpos (starEach (e :: es) X.env)).all (fun x => !x.1) && (backToKw cpos (keywordEach [] X.env)).all (fun x => x.1.isSome)
      && decide ((e :: es).length + ([] : List Keyword).length + (if ([] : List Keyword).isEmpty then 0 else 1) < 30)) = true := by rfl)
    (hline : (apos.endLine == cpos.line) = true := by rfl) (hs : starEach (e :: es) X.env = (false, eval e X.env) :: starEach es X.env := by rfl) (hplain : (backTo cpos (starEach es X.env)).any (·.1) = false := by rfl) :
    JE X E (.Call (.Attribute o "index" apos) (e :: es) [] cpos) (mIdx mo ma) :=
  pe_imp (pe_bm PySem.F.plainAttrs_list PySem.F.slot_list_index PySem.F.type_list_index mt_index ho ha hbase hfew hline hs hplain) fun _ _ _ h => idx_imp h
end
/-! ### dict comprehensions, each key once -/
def dcGo (g : MG) (t : MT) (mk mv : ME) (ρw : Rho) : List D → List (D × D) → Kap → Out DV
  | [], acc, κ => .ok (.d (.dict acc)) κ
  | d :: r, acc, κ => match g (.d d) ρw κ with
    | none => .bad
    | some (ρ1, κ1) => (noex (t ρ1 κ1)).bind fun b κ2 => if b = true then (noex (mk ρ1 κ2)).bind fun y κ3 => match y with
        | .d k => (noex (mv ρ1 κ3)).bind fun z κ4 => match fz z with
          | .d e => if acc.length < 1000 ∧ (keyOf k).isSome = true ∧ dgetD acc k = none then dcGo g t mk mv ρw r (acc ++ [(k, e)]) κ4 else .bad
          | _ => .bad
        | _ => .bad
      else dcGo g t mk mv ρw r acc κ2
def mDc (src : MI) (g : MG) (t : MT) (mk mv : ME) (vs : List Nat) : ME := fun ρ κ => (src ρ κ).bind fun ds κ1 => dcGo g t mk mv (wipeR ρ vs) ds [] κ1
theorem RpKV.len {K : PySem.W.Frag} {H : Hp} : ∀ {kvs : List (Key × V)} {ds : List (D × D)}, RpKV K H kvs ds → kvs.length = ds.length
  | _, _, .nil => rfl
  | _, _, .consI _ r => by rw [List.length_cons, List.length_cons, r.len]
  | _, _, .consS _ r => by rw [List.length_cons, List.length_cons, r.len]
theorem RpKV.snoc {K : PySem.W.Frag} {H : Hp} {k : D} {ky : Key} {v : V} {e : D} (hk : keyOf k = some ky) (h : Rp K H v e) : ∀ {kvs : List (Key × V)} {ds : List (D × D)}, RpKV K H kvs ds → RpKV K H (kvs ++ [(ky, v)]) (ds ++ [(k, e)])
  | _, _, .nil => by
    cases k with
    | int i => cases hk; exact .consI h .nil
    | str x => cases hk; exact .consS h .nil
    | _ => cases hk
  | _, _, .consI h1 r => .consI h1 (RpKV.snoc hk h r)
  | _, _, .consS h1 r => .consS h1 (RpKV.snoc hk h r)
theorem dc_imp {K : PySem.W.Frag} {mg : Str → Option Value} {E : XK} {src : MI} {g : MG} {t : MT} {mk mv : ME} {ts vs : List Nat} (ht : ∀ i ∈ ts, i ∈ vs) {σ : L2.St} {H : Hp} {Q : VK} (h : tM K mg E (mDc src g t mk mv vs) σ H Q) :
    tDc (tI K mg E src) (tG K g ts) (tT K mg E0 t) (tM K mg E0 mk) (tM K mg E0 mv) vs σ H Q := by
  obtain ⟨F, B, ι, ρ, κ, s, h⟩ := h
  unfold mDc at h
  refine ⟨F, B, ι, ρ, κ, s, ?_⟩
  cases q : src ρ κ with
  | bad => rw [q] at h; exact h
  | ex n fs κ' => rw [q] at h; exact h
  | ok ds κ1 =>
    rw [q] at h
    have h : PostE K mg E F B ι H Q (dcGo g t mk mv (wipeR ρ vs) ds [] κ1) := h
    intro J B1 ι1 H1 g1 s1 y Dl hD
    obtain ⟨sD, gD, hDF⟩ := s1.tmp (o := .dK []) hD
    refine ⟨fun i m H' => ∃ B' ι' κ' acc vacc, Grow F B1 ι1 H1 B' ι' H' ∧ HSt K (Dl :: F) B' ι' H' κ' ∧ H' Dl = some (.dK vacc) ∧ RpKV K B' vacc acc ∧ m + i = ds.length ∧ PostE K mg E F B' ι' H' Q (dcGo g t mk mv (wipeR ρ vs) (ds.drop i) acc κ'),
      ⟨ds.length, B1, ι1, κ1, [], [], gD, sD, upd_same, .nil, rfl, PostE.grow h (g1.trans gD)⟩, ?_⟩
    rintro i m H' ⟨B', ι', κ', acc, vacc, g2, s2, hL, ra, em, h2⟩
    obtain ⟨y1, y2⟩ := y (Dl :: F) i B' ι' H' κ' (fun _ m => List.mem_cons_of_mem _ m) (g2.less fun _ m => nomatch m) s2
    obtain ⟨p1, p2, p3⟩ := s2.pro Dl (List.mem_cons_self ..)
    cases e : ds[i]? with
    | none =>
      have hl : ds.length ≤ i := List.getElem?_eq_none_iff.mp e
      refine .inl ⟨y2 hl, ?_⟩
      rw [List.drop_eq_nil_of_le hl] at h2
      obtain ⟨s9, g9⟩ := (s2.less fun _ m => List.mem_cons_of_mem _ m).frz hL p2 p3 hDF
      exact h2 (.ref Dl) _ ι' H' g9 s9 (.dic upd_same (RpKV.mono g9.b ra))
    | some d =>
      have hl : i < ds.length := (List.getElem?_eq_some_iff.mp e).1
      obtain ⟨y3, y4⟩ := y1 d e
      have ed : ds.drop i = d :: ds.drop (i + 1) := by
        rw [List.drop_eq_getElem_cons hl]
        rw [List.getElem?_eq_getElem hl] at e
        cases e; rfl
      rw [ed] at h2
      simp only [dcGo] at h2
      refine .inr ⟨y3, fun H' => ∃ B' ι' κ' acc vacc, Grow F B1 ι1 H1 B' ι' H' ∧ HSt K (Dl :: F) B' ι' H' κ' ∧ H' Dl = some (.dK vacc) ∧ RpKV K B' vacc acc ∧ (m - 1) + (i + 1) = ds.length ∧ PostE K mg E F B' ι' H' Q (dcGo g t mk mv (wipeR ρ vs) (ds.drop (i + 1)) acc κ'),
        fun H' hN => ⟨m - 1, by omega, hN⟩, fun x H'' hy => ?_⟩
      obtain ⟨B2, g3, s3, r⟩ := y4 x H'' hy
      have g3' : Grow F B' ι' H' B2 ι' H'' := g3.less fun _ m => List.mem_cons_of_mem _ m
      have sw : SOk K (Dl :: F) B2 ι' (wipe σ vs) H'' (wipeR ρ vs) κ' := (s.step (g1.trans (g2.trans g3')) s3).wipe vs
      refine ⟨Dl :: F, B2, ι', wipeR ρ vs, κ', .d d, sw, r, ?_⟩
      cases q2 : g (.d d) (wipeR ρ vs) κ' with
      | none => rw [q2] at h2; exact h2
      | some p =>
        obtain ⟨ρ2, κ2⟩ := p
        rw [q2] at h2
        intro σ2 B4 ι4 H2 ew g4 s4
        have g4' : Grow F B2 ι' H'' B4 ι4 H2 := g4.less fun _ m => List.mem_cons_of_mem _ m
        have hlen : σ2.length = σ.length := by rw [ew.1, wipe_length]
        refine ⟨wipe_eq hlen ew.2 ht, ?_⟩
        dsimp only at h2
        refine evT s4 (fun b κ3 e3 B5 ι5 H5 g5 s5 => ?_) (fun n fs κ3 e3 => by rw [e3] at h2; exact h2.elim) (fun e3 => by rw [e3] at h2; exact h2)
        rw [e3] at h2
        have g5' : Grow F B4 ι4 H2 B5 ι5 H5 := g5.less fun _ m => List.mem_cons_of_mem _ m
        have hL5 : H5 Dl = some (.dK vacc) := (g5.fr Dl (List.mem_cons_self ..)).trans ((g4.fr Dl (List.mem_cons_self ..)).trans ((g3.fr Dl (List.mem_cons_self ..)).trans hL))
        have gb := g3'.trans (g4'.trans g5')
        cases b with
        | false =>
          rw [if_neg Bool.false_ne_true]
          exact ⟨B5, ι5, κ3, acc, vacc, g2.trans gb, s5, hL5, RpKV.mono gb.b ra, by omega, PostE.grow h2 gb⟩
        | true =>
          rw [if_pos rfl]
          replace h2 : PostE K mg E F B' ι' H' Q ((noex (mk ρ2 κ3)).bind fun y κ3 => match y with
            | .d k => (noex (mv ρ2 κ3)).bind fun z κ4 => match fz z with
              | .d e => if acc.length < 1000 ∧ (keyOf k).isSome = true ∧ dgetD acc k = none then dcGo g t mk mv (wipeR ρ vs) (ds.drop (i + 1)) (acc ++ [(k, e)]) κ4 else .bad
              | _ => .bad
            | _ => .bad) := h2
          refine evE (s4.step g5 s5) (fun y κ4 e4 v B6 ι6 H6 g6 s6 w6 => ?_) (fun n fs κ4 e4 => by rw [e4] at h2; exact h2.elim) (fun e4 => by rw [e4] at h2; exact h2)
          rw [e4] at h2
          dsimp only [noex, Out.bind] at h2
          split at h2
          · rename_i k
            have g6' : Grow F B5 ι5 H5 B6 ι6 H6 := g6.less fun _ m => List.mem_cons_of_mem _ m
            refine evE ((s4.step g5 s5).step g6 s6) (fun z κ5 e5 u B7 ι7 H7 g7 s7 w7 => ?_) (fun n fs κ5 e5 => by rw [e5] at h2; exact h2.elim) (fun e5 => by rw [e5] at h2; exact h2)
            rw [e5] at h2
            obtain ⟨B8, s8, g8, w8⟩ := s7.fz w7
            have g78 := g7.trans g8
            have g78' : Grow F B6 ι6 H6 B8 ι7 H7 := g78.less fun _ m => List.mem_cons_of_mem _ m
            dsimp only [noex, Out.bind] at h2
            split at h2
            · rename_i e6 q6
              rw [q6] at w8
              split at h2
              · rename_i hc
                obtain ⟨c1, c2, c3⟩ := hc
                obtain ⟨ky, ek⟩ := Option.isSome_iff_exists.mp c2
                have ra8 : RpKV K B8 vacc acc := RpKV.mono (gb.trans (g6'.trans g78')).b ra
                have new : valV vacc ky = none := (dget_ok ra8 ek).2 c3
                obtain ⟨s9, g9⟩ := s8.setP (o := .dK (vacc ++ [(ky, u)])) hDF
                refine ⟨vacc, ky, key_v ek (show Rp K B6 v k from w6), (g7.fr Dl (List.mem_cons_self ..)).trans ((g6.fr Dl (List.mem_cons_self ..)).trans hL5), by rw [ra.len]; exact Nat.lt_of_lt_of_le c1 (by decide), ?_⟩
                rw [putK_new u new]
                exact ⟨B8, ι7, κ5, acc ++ [(k, e6)], vacc ++ [(ky, u)], ((g2.trans gb).trans (g6'.trans g78')).trans g9, s9, upd_same, RpKV.snoc ek w8 ra8, by omega, PostE.grow h2 ((gb.trans (g6'.trans g78')).trans g9)⟩
              · exact h2.elim
            · exact h2.elim
          · exact h2.elim
section
variable {X : Cx} {E : XK}
theorem je_dc {kx vx tg iter : Expr} {ifs : List Expr} {scope : Scope} {own : List (Str × Nat)} {pos : Pos} {src : MI} {g : MG} {t : MT} {mk mv : ME} {ts : List Nat} (hc : X.calm = true) (hN : X.N.Nodup) (hi : JI X E tg iter src) (ok : BlkOk X.N X.env.scope scope own)
    (hg : ∀ (s : Shared) (H : Hp) (C : Addr) (cl : List (Str × Addr)) (fp : List Addr), JG (X.blk s H scope (compEnvC scope cl C X.env) fp) tg g ts) (ht : ∀ (s : Shared) (H : Hp) (C : Addr) (cl : List (Str × Addr)) (fp : List Addr), JTs (X.blk s H scope (compEnvC scope cl C X.env) fp) E0 ifs t)
    (hk : ∀ (s : Shared) (H : Hp) (C : Addr) (cl : List (Str × Addr)) (fp : List Addr), JE (X.blk s H scope (compEnvC scope cl C X.env) fp) E0 kx mk)
    (he : ∀ (s : Shared) (H : Hp) (C : Addr) (cl : List (Str × Addr)) (fp : List Addr), JE (X.blk s H scope (compEnvC scope cl C X.env) fp) E0 vx mv) (hts : ∀ i ∈ ts, i ∈ own.map (·.2) := by decide) (hs : ∀ x, foldedSetIterable iter X.env x = pure x := by intro _; rfl) :
    JE X E (.DictComp kx vx [⟨tg, iter, ifs, 0⟩] scope pos) (mDc src g t mk mv (own.map (·.2))) :=
  pe_imp (pe_dc hc hN hi ok hg ht hk he hs) fun _ _ _ h => dc_imp hts h
theorem sw_trueD {kx vx : Expr} {gs : List Comprehension} {scope : Scope} {pos py : Pos} {y : Str} {l : Nat} {env : Env} (hk : env.scope.kind = .function) (hy : env.scope.names.lookup y = some .local) (hl : (py.line == pos.line) = true)
    (ha : (scope.names.any fun (n, k) => n == y && (k == .local || k == .cell)) = false) : swapsWith (.DictComp kx vx gs scope pos) (some (.Name y py)) l env = pure true := by
  have ky : env.kindOf y = some .local := hy
  have hb : env.blockKind = .function := by unfold Env.blockKind; rw [hk]; rfl
  unfold swapsWith
  simp only [hb, ky, ha, Expr.pos, hl]
  rfl
theorem ps_setDc {i : Nat} {y : Str} {py : Pos} {kx vx tg iter : Expr} {ifs : List Expr} {scope : Scope} {own : List (Str × Nat)} {pos spos : Pos} {wi : TI} {g : TG} {tt : TT} {tk tv : TE} (hc : X.calm = true) (hN : X.N.Nodup) (hy : X.N[i]? = some y) (hyl : X.env.scope.names.lookup y = some .local)
    (hsw : swapsWith (.DictComp kx vx [⟨tg, iter, ifs, 0⟩] scope pos) (some (.Name y py)) spos.line X.env = pure true) (hi : PI X tg iter wi) (ok : BlkOk X.N X.env.scope scope own)
    (hg : ∀ (s : Shared) (H : Hp) (C : Addr) (cl : List (Str × Addr)) (fp : List Addr), PG (X.blk s H scope (compEnvC scope cl C X.env) fp) tg g) (ht : ∀ (s : Shared) (H : Hp) (C : Addr) (cl : List (Str × Addr)) (fp : List Addr), PTs (X.blk s H scope (compEnvC scope cl C X.env) fp) ifs tt)
    (hk : ∀ (s : Shared) (H : Hp) (C : Addr) (cl : List (Str × Addr)) (fp : List Addr), PE (X.blk s H scope (compEnvC scope cl C X.env) fp) kx tk)
    (he : ∀ (s : Shared) (H : Hp) (C : Addr) (cl : List (Str × Addr)) (fp : List Addr), PE (X.blk s H scope (compEnvC scope cl C X.env) fp) vx tv) (hs : ∀ x, foldedSetIterable iter X.env x = pure x := by intro _; rfl) :
    PS X (.Assign [.Name y py] (.DictComp kx vx [⟨tg, iter, ifs, 0⟩] scope pos) spos) (tAsg (tDc wi g tt tk tv (own.map (·.2))) (gName i)) := by
  refine ⟨fun pins s σ H D I h => ?_⟩
  rw [exec_Assign_Name_used _ _ _ _ hsw]
  refine wpAny_bind (wpAny_standAt (wpAny_bind ?_))
  show wpAny _ X.A (do let _ ← comprehension (.DictComp kx vx [⟨tg, iter, ifs, 0⟩] scope pos) scope X.env (firstIterPos [⟨tg, iter, ifs, 0⟩] pos) newDict false (eval iter X.env) (some (assign (.Name y py) X.env))) _ _ s
  have h : tDc wi g tt tk tv (own.map (·.2)) σ H (fun x H1 => gName i x σ H1 D.nx) := h
  refine wpAny_bind (thn (dc_core (Qf := fun _ s' => SP X pins D .next s') hc hN I hi ok hg ht hk he hs h fun L C s' m H' I' q hn f => ?_) fun _ s' hq => wpAny_pure (wpAny_pure hq))
  show wpAny _ _ (assign (.Name y py) X.env (.ref L)) _ _ _
  refine wpAny_assign_Name (store_ok2 (v := V.ref L) I' hN hy (.inl hyl) rfl (fun s2 I2 ⟨a, sb, ha⟩ => ?_) (.inr hyl))
  obtain ⟨f0, f1, f2, f3, f4, f5⟩ := f
  have haC : C ≠ a := by
    rcases ha with z | z
    · rw [z]; exact f1
    · exact fun e => f4 y a z e.symm
  refine ⟨m, hn.sameBut sb haC, fun h3 sb3 => ?_⟩
  exact ⟨_, H', I2.turned (t' := s2.toks) (fun b o hb e => (sb3.2 b hb).trans e) f0 f1 f3 f4 f5, q⟩
theorem js_setDc {i : Nat} {y : Str} {py : Pos} {kx vx tg iter : Expr} {ifs : List Expr} {scope : Scope} {own : List (Str × Nat)} {pos spos : Pos} {src : MI} {g : MG} {t : MT} {mk mv : ME} {ts : List Nat} (hc : X.calm = true) (hN : X.N.Nodup) (hy : X.N[i]? = some y) (hyl : X.env.scope.names.lookup y = some .local)
    (hsw : swapsWith (.DictComp kx vx [⟨tg, iter, ifs, 0⟩] scope pos) (some (.Name y py)) spos.line X.env = pure true) (hi : JI X E tg iter src) (ok : BlkOk X.N X.env.scope scope own)
    (hg : ∀ (s : Shared) (H : Hp) (C : Addr) (cl : List (Str × Addr)) (fp : List Addr), JG (X.blk s H scope (compEnvC scope cl C X.env) fp) tg g ts) (ht : ∀ (s : Shared) (H : Hp) (C : Addr) (cl : List (Str × Addr)) (fp : List Addr), JTs (X.blk s H scope (compEnvC scope cl C X.env) fp) E0 ifs t)
    (hk : ∀ (s : Shared) (H : Hp) (C : Addr) (cl : List (Str × Addr)) (fp : List Addr), JE (X.blk s H scope (compEnvC scope cl C X.env) fp) E0 kx mk)
    (he : ∀ (s : Shared) (H : Hp) (C : Addr) (cl : List (Str × Addr)) (fp : List Addr), JE (X.blk s H scope (compEnvC scope cl C X.env) fp) E0 vx mv) (hts : ∀ i ∈ ts, i ∈ own.map (·.2) := by decide) (hs : ∀ x, foldedSetIterable iter X.env x = pure x := by intro _; rfl) :
    JS X E (.Assign [.Name y py] (.DictComp kx vx [⟨tg, iter, ifs, 0⟩] scope pos) spos) (mSet i (mDc src g t mk mv (own.map (·.2)))) :=
  ps_imp (ps_setDc hc hN hy hyl hsw hi ok hg ht hk he hs) fun De σ H h => by
    obtain ⟨F, B, ι, ρ, κ, s, h⟩ := set_imp (m := mDc src g t mk mv (own.map (·.2))) h
    exact dc_imp hts ⟨F, B, ι, ρ, κ, s, h⟩
end
end DL

namespace DL
open L2 PyProof.Rows PySem PySem.Spec
/-! ### enumerate(tuple) -/
theorem meets_enum1 {v : Value} {o : Obj} {H : Heap → Prop} (B : Begins v o H) :
    Meets (Builtin.«enumerate.__new__» ⟨[.type "enumerate", v], []⟩) (fun _ R s => H s.heap ∧
      R (.ok (.ret (.ref (s.heap.push o).objs.size))) { s with heap := (s.heap.push o).push { cls := .type "enumerate", data := .fields #[.none, .bool false, .ref s.heap.objs.size, rawInt 0, .none, .none] } }) :=
  .of_wp fun prog w A R s h => by
    obtain ⟨hp, g, d, tk, os⟩ := s; obtain ⟨h1, h⟩ := h
    have hsub := sub_enumerate
    have q1 : ∀ {A' : Around} {E : Value → Shared → Prop} {Q : Value → Shared → Prop}, Q (.ref hp.objs.size) ⟨hp.push o, g, d, tk, os⟩ → wpAny (model prog w) A' (pyIter v) Q E ⟨hp, g, d, tk, os⟩ :=
      fun q => B.iter prog w _ _ ⟨hp, g, d, tk, os⟩ _ h1 q
    wp_walk using q1
    refine wpAny_stack_any fun st => wpAny_pure ?_
    split
    · rename_i c _ _ _ _ _
      cases (c == Value.type "enumerate")
      · wp_walk using q1
        exact ⟨_, rfl, h⟩
      · wp_walk using q1
        exact ⟨_, rfl, h⟩
    · wp_walk using q1
      exact ⟨_, rfl, h⟩
section
variable {prog : Program} {w : World} {A : Around} {E : Value → Shared → Prop} {s : Shared}
theorem enum_begins1 {v : Value} {o : Obj} {H : Heap → Prop} {Q : Value → Shared → Prop} (B : Begins v o H) (h1 : H s.heap)
    (h : ∀ h', IsEnum h' (s.heap.objs.size + 1) s.heap.objs.size 0 .none → h'.get? s.heap.objs.size = some o → h'.objs.size = s.heap.objs.size + 2 →
      (∀ b o, s.heap.get? b = some o → h'.get? b = some o) → Q (.ref (s.heap.objs.size + 1)) { s with heap := h' }) :
    wpAny (model prog w) A (call (.type "enumerate") [v]) Q E s := by
  refine callType_new F.called_enumerate (by decide) (F.typeCall_enumerate_1 _) (F.newCall_enumerate_1 _) (fun obj => F.args_object_init_2 obj _) F.entry_enumerate_new
    (meets_enum1 B) ⟨h1, ?_⟩
  have hz : (s.heap.push o).objs.size = s.heap.objs.size + 1 := Heap.size_push ..
  show _ ∧ _
  rw [hz]
  have he : IsEnum ((s.heap.push o).push { cls := .type "enumerate", data := .fields #[.none, .bool false, .ref s.heap.objs.size, rawInt 0, .none, .none] }) (s.heap.objs.size + 1) s.heap.objs.size 0 .none := by
    have := Heap.get?_push_size (s.heap.push o) (o := { cls := .type "enumerate", data := .fields #[.none, .bool false, .ref s.heap.objs.size, rawInt 0, .none, .none] }) rfl
    rw [hz] at this; exact this
  refine ⟨⟨_, he, rfl⟩, h _ he (Heap.get?_push_of_some _ (Heap.get?_push_size _ B.free)) (by rw [Heap.size_push, hz]) fun b o x => Heap.get?_push_of_some _ (Heap.get?_push_of_some _ x)⟩
theorem enumT_end {e it l : Addr} {i : Nat} {items : Array Value} {old : Value} {Q : Option Value → Shared → Prop} (hh : A.handled = none)
    (he : IsEnum s.heap e it i old) (hit : s.heap.IsTupleIter it l i) (hl : s.heap.IsTuple l items) (hx : items[i]? = none)
    (hQ : ∀ h', Heap.ExtBut it s.heap h' → Q none { s with heap := h' }) : wpAny (model prog w) A (pyNext (.ref e)) Q E s := by
  have hT : s.TypeIs (.ref e) "enumerate" := ⟨_, he, rfl⟩
  unfold pyNext
  refine wpAny_bind (wpAny_attempt (wpAny_callSpecial?_slot (name := Str.ofString "__next__") hT F.slot_enumerate_next
    (wpAny_call_entry F.slot_enumerate_next hT F.entry_enumerate_next ?_ (F.args_enumerate_next_1 _))))
  show wpAny _ _ (field (.ref e) 2 >>= _) _ _ _
  refine wpAny_bind (wpAny_field he rfl (x := .ref it) rfl ?_)
  refine wpAny_bind (wpAny_nextOf_tuple_end hh hit hl hx fun h' x he' hx' => ?_)
  obtain ⟨o, ho, hc⟩ := hx'
  refine wpAny_bind (wpAny_isInstance (T := "StopIteration") (b := true) ⟨o, ho, hc⟩ isSubtype_stop ?_)
  exact wpAny_pure (hQ _ he')
end
def IteT (K : PySem.W.Frag) (a : Addr) : It :=
  ⟨fun i H => ∃ (xs : List V) (x : V), SqT K H a xs ∧ xs[i]? = some x, fun i H v H' => ∃ T x, v = .ref T ∧ H T = none ∧ H' = upd H T (.tup [.int (i : Nat), x]) ∧ ∀ xs, SqT K H a xs → xs[i]? = some x, fun i H => ∃ xs : List V, SqT K H a xs ∧ xs.length ≤ i⟩
theorem turn_enumT {P : Program} {w : World} {K : PySem.W.Frag} {elts : List Expr} {kk : Nat} {tpos : Pos} (a e it : Addr) :
    Turn P w K (.Tuple elts kk tpos) (IteT K a) [e, it] e (fun i h => (∃ old, IsEnum h e it ((i : Nat) : Int) old) ∧ h.IsTupleIter it a i ∧ e ≠ it) where
  mem := by simp
  obj := fun i h st b hb => by
    obtain ⟨⟨old, he⟩, ⟨o, ho, hc, hd⟩, _⟩ := st
    have e' : b = e ∨ b = it := by simpa using hb
    rcases e' with z | z
    · rw [z]; exact ⟨_, he, fun v q => nomatch q⟩
    · rw [z]; exact ⟨o, ho, fun v q => by rw [hd] at q; cases q⟩
  keep := fun i h h' st k => let ⟨⟨old, he⟩, hi, hne⟩ := st; ⟨⟨old, k e (by simp) _ he⟩, hi.at fun o q => k it (by simp) o q, hne⟩
  item := by
    intro X hP hw hK hc i pins s σ H E I hf st hg
    subst hP hw hK
    obtain ⟨⟨old, he⟩, hit, hne⟩ := st
    obtain ⟨xs, x, hq, hx⟩ := hg
    obtain ⟨its, rv, p, hz⟩ := I.tuple hq
    have p : s.heap.IsTuple a its.toArray := p
    obtain ⟨u, hu, ru⟩ := rv.get hx
    have hel : e < s.heap.objs.size := Heap.lt_size he
    have hil : it < s.heap.objs.size := by obtain ⟨_, q, _⟩ := hit; exact Heap.lt_size q
    have nea : a ≠ it := fun z => by
      obtain ⟨o, e1, e2, _⟩ := hit
      obtain ⟨o', e3, e4, _⟩ := p
      rw [z, e1] at e3
      cases e3
      rw [e2] at e4
      exact absurd e4 (by decide)
    have nee : e ≠ a := fun z => by
      obtain ⟨o', e3, e4, _⟩ := p
      have he : s.heap.get? e = _ := he
      rw [z, e3] at he
      cases he
      have e4 : Value.type "enumerate" = Value.type "tuple" := e4
      exact absurd e4 (by decide)
    have hlt : i < its.toArray.size := by rw [List.size_toArray]; exact (List.getElem?_eq_some_iff.mp hu).1
    refine wpAny_pyNext_enum_itemD (Draws.tuple (A := X.A.in1) (I.ok.hd hc) it a nea its.toArray) he ⟨hit, p⟩ hlt hne (by simp [hne, nee]) fun u' h' tk hu' ho st' hT hsz hk => ?_
    obtain rfl : u' = u := by
      have hu' : its.toArray[i]? = some u' := hu'
      rw [List.getElem?_toArray, hu] at hu'
      exact (Option.some.inj hu').symm
    obtain ⟨hit', p'⟩ := st'
    refine ⟨_, rfl, wpAny_letOwnedTupleGo_enum (s := { s with heap := h', toks := tk + 1 }) ho fun h'' he' sb => ?_⟩
    have hT2 : h''.get? s.heap.objs.size = some { cls := .type "tuple", data := .seq #[.int i tk, u'] } := (sb.2 _ (Nat.ne_of_gt hel)).trans hT
    have new : ObjOk X.prog X.w (upd H s.heap.objs.size (.tup [.int (i : Nat), x])) h'' s.heap.objs.size (.tup [.int (i : Nat), x]) :=
      ⟨by show 2 ≤ sizeLine; decide, [.int i tk, u'], .cons ⟨_, rfl⟩ (.cons ru .nil), ⟨_, hT2, rfl, _, rfl⟩⟩
    have I1 : Inv X pins σ (upd H s.heap.objs.size (.tup [.int (i : Nat), x])) { s with heap := h'', toks := tk + 1 } :=
      I.turnedNew (ch := [e, it]) (fun b ob hb q => (sb.2 b (fun z => hb (by simp [z]))).trans (hk b ob (fun z => hb (by simp [z])) (fun z => hb (by simp [z])) q)) hf (Nat.le_refl _) new
    refine ⟨.ref s.heap.objs.size, _, I1, rfl, ⟨_, x, rfl, I.hok.fresh (Nat.le_refl _), rfl, fun ys hy => by rw [I.tuple_inj hy hq]; exact hx⟩, ⟨⟨u', ?_⟩, hit'.at fun o q => (sb.2 it (Ne.symm hne)).trans q, hne⟩, fun b hb => ?_⟩
    · have e1 : ((i + 1 : Nat) : Int) = (i : Int) + 1 := by omega
      rw [e1]; exact he'
    · have hb' : b < s.heap.objs.size := by
        have e' : b = e ∨ b = it := by simpa using hb
        rcases e' with z | z
        · rw [z]; exact hel
        · rw [z]; exact hil
      rw [upd_ne (Nat.ne_of_lt hb')]
      exact (hf b hb).1
  done := by
    intro X hP hw hK hc i pins s σ H E I hf st hg
    subst hP hw hK
    obtain ⟨⟨old, he⟩, hit, hne⟩ := st
    obtain ⟨xs, hq, hx⟩ := hg
    obtain ⟨its, rv, p, hz⟩ := I.tuple hq
    have p : s.heap.IsTuple a its.toArray := p
    have nea : a ≠ it := fun z => by
      obtain ⟨o, e1, e2, _⟩ := hit
      obtain ⟨o', e3, e4, _⟩ := p
      rw [z, e1] at e3
      cases e3
      rw [e2] at e4
      exact absurd e4 (by decide)
    obtain ⟨f0, f1, f2, f3, f4, f5⟩ := hf it (by simp)
    have hl := rv.length
    exact enumT_end (I.ok.hd hc) he hit p (by simp; omega) fun h' eb => ⟨rfl, I.turned (t' := s.toks) (fun b o hb q => eb b o hb q) f0 f1 f3 f4 f5⟩
  self := fun A i s Q E st h => let ⟨⟨_, he⟩, _⟩ := st; wpAny_pyIter_enum he h
def iEnumA (K : PySem.W.Frag) (ta : TA) : TI := fun σ H R => ta σ H fun vs H1 => ∃ a xs, vs = [.ref a] ∧ ((SqL K H1 a xs ∧ R (Ite K a) H1) ∨ (SqT K H1 a xs ∧ R (IteT K a) H1))
theorem pi_enumA {X : Cx} {e : Expr} {ta : TA} {p pos tpos : Pos} {elts : List Expr} {kk : Nat} (hg : Gl X "enumerate") (hm : X.mg "enumerate" = none) (ha : PA X [e] ta) (hs : starEach [e] X.env = [(false, eval e X.env)] := by rfl) :
    PI X (.Tuple elts kk tpos) (.Call (.Name "enumerate" p) [e] [] pos) (iEnumA X.K ta) := by
  refine ⟨fun pins s σ H R I h => ?_⟩
  refine Call_ (ld_blt I hg hm boot_enumerate (PyProof.Rows.callWith_type1 (thn (ha.run pos pins s σ H _ I h) fun us s1 ⟨vs, H1, I1, r1, q1⟩ => ?_) hs rfl))
  obtain ⟨a, xs, ex, q1⟩ := q1
  subst ex
  cases r1 with
  | cons r rr =>
    cases rr
    cases r
    rcases q1 with ⟨hq, q⟩ | ⟨hq, q⟩
    · obtain ⟨its, rv, p', hz⟩ := I1.list hq
      refine call_enumerate_list p'.isList fun h' he hit hsz hk => wpAny_pyIter_enum he ?_
      have I2 : Inv X pins σ H1 { s1 with heap := h' } := I1.kept (t' := s1.toks) hk
      refine ⟨s1.heap.objs.size + 1, [s1.heap.objs.size + 1, s1.heap.objs.size], _, _, H1, rfl, I2, turn_enum a (s1.heap.objs.size + 1) s1.heap.objs.size, ⟨⟨.none, he⟩, hit, Nat.succ_ne_self _⟩, fun b hb => ?_, q⟩
      have e' : b = s1.heap.objs.size + 1 ∨ b = s1.heap.objs.size := by simpa using hb
      have hle : s1.heap.objs.size ≤ b := by
        rcases e' with z | z
        · rw [z]; exact Nat.le_add_right _ _
        · rw [z]; exact Nat.le_refl _
      exact I1.fpOk hle (I1.hok.fresh hle)
    · obtain ⟨its, rv, p', hz⟩ := I1.tuple hq
      have p' : s1.heap.IsTuple a its.toArray := p'
      refine enum_begins1 (begins_tuple a its.toArray) p' fun h' he hit hsz hk => wpAny_pyIter_enum he ?_
      have I2 : Inv X pins σ H1 { s1 with heap := h' } := I1.kept (t' := s1.toks) hk
      refine ⟨s1.heap.objs.size + 1, [s1.heap.objs.size + 1, s1.heap.objs.size], _, _, H1, rfl, I2, turn_enumT a (s1.heap.objs.size + 1) s1.heap.objs.size, ⟨⟨.none, he⟩, ⟨_, hit, rfl, rfl⟩, Nat.succ_ne_self _⟩, fun b hb => ?_, q⟩
      have e' : b = s1.heap.objs.size + 1 ∨ b = s1.heap.objs.size := by simpa using hb
      have hle : s1.heap.objs.size ≤ b := by
        rcases e' with z | z
        · rw [z]; exact Nat.le_add_right _ _
        · rw [z]; exact Nat.le_refl _
      exact I1.fpOk hle (I1.hok.fresh hle)
/-! ### the mirror -/
def mEnumA (a : MA) : MI := fun ρ κ => (a ρ κ).bind fun xs κ1 => match xs with
  | [.d (.list ds)] => .ok (enumD 0 ds) κ1
  | [.d (.tuple ds)] => .ok (enumD 0 ds) κ1
  | _ => .bad
section
variable {K : PySem.W.Frag} {F : List Addr} {B B' : Hp} {ι ι' : List Addr} {H H' : Hp} {κ : Kap}
theorem yld_enumT {a : Addr} {vs : List V} {xs : List D} (hS : SqT K B a vs) (r : RpAll K B vs xs) : Yld K F B ι H (IteT K a) (enumD 0 xs) := fun F' i B' ι' H' κ' _ g s => by
  have h1 : SqT K H' a vs := same_t s.ex (same_t g.b hS)
  refine ⟨fun d e => ?_, fun e => ⟨vs, h1, by rw [r.len, ← enumD_len xs 0]; exact e⟩⟩
  rw [enumD_get] at e
  cases q : xs[i]? with
  | none => rw [q] at e; cases e
  | some y =>
    rw [q] at e
    simp only [Option.map_some, Option.some.injEq, Nat.zero_add] at e
    subst e
    obtain ⟨v, e1, w⟩ := r.get q
    refine ⟨⟨vs, v, h1, e1⟩, fun x H'' yy => ?_⟩
    obtain ⟨T, z, rfl, hT, rfl, hz⟩ := yy
    have ez := hz vs h1
    rw [e1] at ez
    cases ez
    obtain ⟨s2, g2⟩ := s.new (o := .tup [.int (i : Nat), v]) hT
    exact ⟨_, g2, s2, .tup (.inl (.inl upd_same)) (.cons (.int _) (.cons ((w.mono g.b).mono g2.b) .nil))⟩
end
section
variable {X : Cx} {E : XK} {e : Expr} {ma : MA} {p pos tpos : Pos} {elts : List Expr} {kk : Nat}
theorem ji_enumA (hg : Gl X "enumerate") (hm : X.mg "enumerate" = none) (ha : JA X E [e] ma) (hs : starEach [e] X.env = [(false, eval e X.env)] := by rfl) : JI X E (.Tuple elts kk tpos) (.Call (.Name "enumerate" p) [e] [] pos) (mEnumA ma) :=
  ji_imp (pi_enumA hg hm ha hs) fun σ H R ⟨F, B, ι, ρ, κ, s, h⟩ => by
    unfold mEnumA at h
    refine evA s (fun x κ1 e1 v B1 ι1 H1 g1 s1 w1 => ?_) (fun n fs κ1 e1 => by rw [e1] at h; exact h) (fun e => by rw [e] at h; exact h)
    rw [e1] at h
    dsimp only [Out.bind] at h
    split at h
    · rename_i xs κ' q
      split at q
      · cases q
        cases w1 with
        | cons w w2 =>
          cases w2
          cases w with
          | lst hL r => exact ⟨_, _, rfl, .inl ⟨lst1 (s1.ex _ _ hL), h _ B1 ι1 H1 g1 s1 (yld_enum (lst1 hL) r)⟩⟩
      · cases q
        cases w1 with
        | cons w w2 =>
          cases w2
          cases w with
          | tup hL r => exact ⟨_, _, rfl, .inr ⟨same_t s1.ex hL, h _ B1 ι1 H1 g1 s1 (yld_enumT hL r)⟩⟩
      · cases q
    · rename_i q; split at q <;> cases q
    · exact h.elim
end
end DL

namespace DL
open L2 PyProof.Rows PySem PySem.Spec

/-! ### (a, b, ..) = a tuple or a list -/
def bUnp (n : Nat) (r : List DV → Rho → Kap → Option (Rho × Kap)) : MG := fun x ρ κ => match x with
  | .d (.tuple ds) => if ds.length = n then r (ds.map .d) ρ κ else none
  | .d (.list ds) => if ds.length = n then r (ds.map .d) ρ κ else none
  | _ => none
section
variable {X : Cx} {pos : Pos}
theorem pg_or {e : Expr} {t u : TG} (h1 : PG X e t) (h2 : PG X e u) : PG X e (fun v σ H Q => t v σ H Q ∨ u v σ H Q) :=
  ⟨fun pins s σ H v w Q I r h => h.elim (fun h => h1.run pins s σ H v w Q I r h) (fun h => h2.run pins s σ H v w Q I r h)⟩
theorem jg_unp {es : List Expr} {k : Nat} {r : List DV → Rho → Kap → Option (Rho × Kap)} {ts : List Nat} {n : Nat} (hc : X.calm = true) (h : JGs X es r ts)
    (hn : (assignEach es X.env).length = n := by rfl) (hst : (assignEach es X.env).findIdx? (·.1) = none := by rfl) : JG X (.Tuple es k pos) (bUnp n r) ts :=
  pg_imp (pg_or (pg_tup hc h hn hst) (pg_unl hc h hn hst)) fun v σ H Q ⟨F, B, ι, ρ, κ, x, s, w, h⟩ => by
    have go : ∀ {a : Addr} {vs : List V} {ds : List D}, v = .ref a → RpAll X.K B vs ds → (match (if ds.length = n then r (ds.map .d) ρ κ else none) with
        | some (ρ', κ') => ∀ σ' B' ι' H', (σ'.length = σ.length ∧ ∀ i, i ∉ ts → σ'[i]? = σ[i]?) → Grow F B ι H B' ι' H' → SOk X.K F B' ι' σ' H' ρ' κ' → Q σ' H'
        | none => False) → vs.length = n ∧ tGs X.K r ts vs σ H Q := fun {a vs ds} ev ra h => by
      by_cases c : ds.length = n
      · rw [if_pos c] at h
        refine ⟨by rw [ra.len]; exact c, F, B, ι, ρ, κ, _, s, cells_of ra, ?_⟩
        cases q : r (ds.map .d) ρ κ with
        | none => rw [q] at h; exact h.elim
        | some p => rw [q] at h; exact h
      · rw [if_neg c] at h
        exact h.elim
    unfold bUnp at h
    match x, w, h with
    | .d (.tuple ds), w, h =>
      obtain ⟨a, vs, ev, h1, r1⟩ := tup_ok s.hs w
      obtain ⟨l1, g⟩ := go ev r1 h
      exact .inl ⟨a, vs, ev, h1, l1, g⟩
    | .d (.list ds), w, h =>
      obtain ⟨a, vs, ev, h1, r1⟩ := lv_ok s.hs (x := .d (.list ds)) w rfl
      obtain ⟨l1, g⟩ := go ev r1 h
      exact .inr ⟨a, vs, ev, lst1 h1, l1, g⟩
end
end DL

namespace DL
open L2 PyProof.Rows PySem PySem.Spec
/-! ### what a mirror comes to -/
theorem fz_d {x : PyData} : fz (.d x) = .d x := rfl
theorem fz_n {x : List PyData} : fz (.n x) = .d (.list x) := rfl
theorem fz_c {x : Nat} : fz (.c x) = .c x := rfl
def wO {α : Type} (o : Out α) (Q : α → Kap → Prop) : Prop := match o with
  | .ok x κ => Q x κ
  | _ => False
structure Po where
  nx : Rho → Kap → Prop
  bk : Rho → Kap → Prop := fun _ _ => False
  ct : Rho → Kap → Prop := fun _ _ => False
  rt : DV → Kap → Prop
def wP (o : OutS) (Z : Po) : Prop := match o with
  | .nx ρ κ => Z.nx ρ κ
  | .bk ρ κ => Z.bk ρ κ
  | .ct ρ κ => Z.ct ρ κ
  | .rt x κ => Z.rt x κ
  | _ => False
section
variable {α β : Type} {Q R : α → Kap → Prop} {o : Out α} {ρ : Rho} {κ : Kap} {Z Z' : Po} {m a b c : ME} {f g : Kap → DV → DV → Option DV} {q : DV → Kap → Prop} {t u : MT} {qt : Bool → Kap → Prop} {s s1 s2 : MS} {ma : MA} {qa : List DV → Kap → Prop}
theorem wO.mono (h : wO o Q) (i : ∀ x κ, Q x κ → R x κ) : wO o R := by
  cases o with
  | ok x κ => exact i x κ h
  | _ => exact h
theorem wP.mono {o : OutS} (h : wP o Z) (i1 : ∀ ρ κ, Z.nx ρ κ → Z'.nx ρ κ) (i2 : ∀ ρ κ, Z.bk ρ κ → Z'.bk ρ κ) (i3 : ∀ ρ κ, Z.ct ρ κ → Z'.ct ρ κ) (i4 : ∀ x κ, Z.rt x κ → Z'.rt x κ) : wP o Z' := by
  cases o with
  | nx ρ κ => exact i1 ρ κ h
  | bk ρ κ => exact i2 ρ κ h
  | ct ρ κ => exact i3 ρ κ h
  | rt x κ => exact i4 x κ h
  | _ => exact h
theorem wO_ok {x : α} : wO (.ok x κ) Q = Q x κ := propext Iff.rfl
theorem wO_of (h : wO o Q) : ∃ x κ, o = .ok x κ ∧ Q x κ := by
  cases o with
  | ok x κ => exact ⟨x, κ, rfl, h⟩
  | _ => exact h.elim
theorem wO_bind {o : Out β} {k : β → Kap → Out α} : wO (o.bind k) Q = wO o fun x κ => wO (k x κ) Q := by cases o <;> rfl
theorem wP_bind {o : Out β} {k : β → Kap → OutS} : wP (o.bindS k) Z = wO o fun x κ => wP (k x κ) Z := by cases o <;> rfl
theorem wC {d : PyData} : wO (mC d ρ κ) q = q (.d d) κ := propext Iff.rfl
theorem wVar {i : Nat} : wO (mVar i ρ κ) q = match ρ[i]? with
  | some (some x) => q x κ
  | _ => False := by
  unfold mVar
  cases ρ[i]? with
  | none => rfl
  | some o => cases o <;> rfl
theorem wOpt {z : DV} : wO (opt κ (some z)) q = q z κ := propext Iff.rfl
theorem wBin : wO (mBin f a b ρ κ) q = wO (a ρ κ) fun x κ1 => wO (b ρ κ1) fun y κ2 => wO (opt κ2 (f κ2 x y)) q := by
  unfold mBin; simp only [wO_bind]
theorem wUn {f : Kap → DV → Option DV} : wO (mUn f a ρ κ) q = wO (a ρ κ) fun x κ1 => wO (opt κ1 (f κ1 x)) q := by
  unfold mUn; simp only [wO_bind]
theorem wCal {f : Kap → List DV → Option DV} : wO (mCal f ma ρ κ) q = wO (ma ρ κ) fun xs κ1 => wO (opt κ1 (f κ1 xs)) q := by
  unfold mCal; simp only [wO_bind]
theorem wNil : wO (mNil ρ κ) qa = qa [] κ := propext Iff.rfl
theorem wCons : wO (mCons a ma ρ κ) qa = wO (a ρ κ) fun x κ1 => wO (ma ρ κ1) fun xs κ2 => qa (fz x :: xs) κ2 := by
  unfold mCons; simp only [wO_bind]; rfl
theorem wConsC : wO (mConsC a ma ρ κ) qa = wO (a ρ κ) fun x κ1 => match x with
    | .n xs => wO (ma ρ (κ1 ++ [.lst (xs.map .d)])) fun ys κ2 => qa (.c κ1.length :: ys) κ2
    | x => wO (ma ρ κ1) fun ys κ2 => qa (fz x :: ys) κ2 := by
  unfold mConsC; simp only [wO_bind]
  congr 1; funext x κ1
  cases x <;> simp only [wO_bind] <;> rfl
theorem wLst : wO (mLst ma ρ κ) q = wO (ma ρ κ) fun xs κ1 => match allD xs with
    | some ds => ds.length ≤ 1000 ∧ q (.n ds) κ1
    | none => False := by
  unfold mLst; simp only [wO_bind]
  congr 1; funext xs κ1
  cases allD xs with
  | none => rfl
  | some ds => by_cases h : ds.length ≤ 1000 <;> simp [h, wO]
theorem wTup : wO (mTup ma ρ κ) q = wO (ma ρ κ) fun xs κ1 => match allD xs with
    | some ds => ds.length ≤ 1000 ∧ q (.d (.tuple ds)) κ1
    | none => False := by
  unfold mTup; simp only [wO_bind]
  congr 1; funext xs κ1
  cases allD xs with
  | none => rfl
  | some ds => by_cases h : ds.length ≤ 1000 <;> simp [h, wO]
theorem wCall {m : MF} : wO (mCall m ma ρ κ) q = wO (ma ρ κ) fun xs κ1 => wO (m xs κ1) q := by
  unfold mCall; simp only [wO_bind]
theorem wTr : wO (mTr m ρ κ) qt = wO (m ρ κ) fun x κ1 => match truD κ1 x with
    | some b => qt b κ1
    | none => False := by
  unfold mTr; simp only [wO_bind]
  congr 1; funext x κ1
  cases truD κ1 x <;> rfl
theorem wTb : wO (mTb m ρ κ) qt = wO (m ρ κ) fun x κ1 => match x with
    | .d (.bool b) => qt b κ1
    | _ => False := by
  unfold mTb; simp only [wO_bind]
  congr 1; funext x κ1
  cases x with
  | d y => cases y <;> rfl
  | c i => rfl
  | n xs => rfl
theorem wNotT : wO (mNotT t ρ κ) qt = wO (t ρ κ) fun b κ1 => qt (!b) κ1 := by unfold mNotT; simp only [wO_bind]; rfl
theorem wAndT : wO (mAndT t u ρ κ) qt = wO (t ρ κ) fun b κ1 => if b = true then wO (u ρ κ1) qt else qt false κ1 := by
  unfold mAndT; simp only [wO_bind]; congr 1; funext b κ1; split <;> rfl
theorem wOrT : wO (mOrT t u ρ κ) qt = wO (t ρ κ) fun b κ1 => if b = true then qt true κ1 else wO (u ρ κ1) qt := by
  unfold mOrT; simp only [wO_bind]; congr 1; funext b κ1; split <;> rfl
def tK (o : Option Bool) (A B : Prop) : Prop := match o with
  | some true => A
  | some false => B
  | none => False
theorem tK_some {b : Bool} {A B : Prop} : tK (some b) A B = if b = true then A else B := by cases b <;> rfl
def bK (o : Option DV) (A B : Prop) : Prop := match o with
  | some (.d (.bool true)) => A
  | some (.d (.bool false)) => B
  | _ => False
theorem bK_some {b : Bool} {A B : Prop} : bK (some (.d (.bool b))) A B = if b = true then A else B := by cases b <;> rfl
theorem bK_le {x y : Int} {A B : Prop} : bK (DL.intD leF κ (.d (.int x)) (.d (.int y))) A B = if x ≤ y then A else B := by
  show bK (some (.d (.bool (decide (x ≤ y))))) A B = _
  rw [bK_some]; simp
theorem bK_lt {x y : Int} {A B : Prop} : bK (DL.intD ltF κ (.d (.int x)) (.d (.int y))) A B = if x < y then A else B := by
  show bK (some (.d (.bool (decide (x < y))))) A B = _
  rw [bK_some]; simp
theorem wAnd : wO (mAnd a b ρ κ) q = wO (a ρ κ) fun x κ1 => tK (truD κ1 x) (wO (b ρ κ1) q) (q x κ1) := by
  unfold mAnd; simp only [wO_bind]; congr 1; funext x κ1
  cases truD κ1 x with
  | none => rfl
  | some b => cases b <;> rfl
theorem wOr : wO (mOr a b ρ κ) q = wO (a ρ κ) fun x κ1 => tK (truD κ1 x) (q x κ1) (wO (b ρ κ1) q) := by
  unfold mOr; simp only [wO_bind]; congr 1; funext x κ1
  cases truD κ1 x with
  | none => rfl
  | some b => cases b <;> rfl
theorem wNotE : wO (mNot a ρ κ) q = wO (a ρ κ) fun x κ1 => match truD κ1 x with
    | some b => q (.d (.bool (!b))) κ1
    | none => False := by
  unfold mNot; simp only [wO_bind]; congr 1; funext x κ1
  cases truD κ1 x <;> rfl
theorem wIfE : wO (mIfE t a b ρ κ) q = wO (t ρ κ) fun z κ1 => if z = true then wO (a ρ κ1) q else wO (b ρ κ1) q := by
  unfold mIfE; simp only [wO_bind]; congr 1; funext b κ1; split <;> rfl
theorem wChain : wO (mChain f g a b c ρ κ) q = wO (a ρ κ) fun x κ1 => wO (b ρ κ1) fun y κ2 => bK (f κ2 x (fz y)) (wO (c ρ κ2) fun z κ3 => wO (opt κ3 (g κ3 (fz y) z)) q) (q (.d (.bool false)) κ2) := by
  unfold mChain; simp only [wO_bind]; congr 1; funext x κ1; congr 1; funext y κ2
  cases f κ2 x (fz y) with
  | none => rfl
  | some z => cases z with
    | c i => rfl
    | n xs => rfl
    | d d => cases d with
      | bool b => cases b <;> simp only [bK, wO_bind] <;> rfl
      | _ => rfl
/-! ### statements -/
theorem wNext : wP (mNext ρ κ) Z = Z.nx ρ κ := propext Iff.rfl
theorem wSeq : wP (mSeq s1 s2 ρ κ) Z = wP (s1 ρ κ) { Z with nx := fun ρ κ => wP (s2 ρ κ) Z } := by
  unfold mSeq
  cases s1 ρ κ <;> rfl
theorem wIf : wP (mIf t s1 s2 ρ κ) Z = wO (t ρ κ) fun z κ1 => if z = true then wP (s1 ρ κ1) Z else wP (s2 ρ κ1) Z := by
  unfold mIf; simp only [wP_bind]; congr 1; funext b κ1; split <;> rfl
theorem wSet {i : Nat} : wP (mSet i m ρ κ) Z = wO (m ρ κ) fun x κ1 => Z.nx (ρ.set i (some (fz x))) κ1 := by unfold mSet; simp only [wP_bind]; rfl
theorem wSetC {i : Nat} : wP (mSetC i m ρ κ) Z = wO (m ρ κ) fun x κ1 => match x with
    | .n xs => Z.nx (ρ.set i (some (.c κ1.length))) (κ1 ++ [.lst (xs.map .d)])
    | _ => False := by
  unfold mSetC; simp only [wP_bind]; congr 1; funext x κ1; cases x <;> rfl
theorem wRet : wP (mRet m ρ κ) Z = wO (m ρ κ) Z.rt := by unfold mRet; simp only [wP_bind]; rfl
theorem wDrop : wP (mDrop m ρ κ) Z = wO (m ρ κ) fun _ κ1 => Z.nx ρ κ1 := by unfold mDrop; simp only [wP_bind]; rfl
theorem wAsg {G : MG} : wP (mAsg G m ρ κ) Z = wO (m ρ κ) fun x κ1 => match G (fz x) ρ κ1 with
    | some p => Z.nx p.1 p.2
    | none => False := by
  unfold mAsg; simp only [wP_bind]; congr 1; funext x κ1
  cases G (fz x) ρ κ1 <;> rfl
theorem wPar {i j : Nat} {f1 f2 : Bool} : wP (mPar i j f1 f2 a b ρ κ) Z = wO (a ρ κ) fun x κ1 => wO (b ρ κ1) fun y κ2 => match put f1 x κ2 with
    | some (x', κ3) => match put f2 y κ3 with
      | some (y', κ4) => Z.nx ((ρ.set i (some x')).set j (some y')) κ4
      | none => False
    | none => False := by
  unfold mPar; simp only [wP_bind]; congr 1; funext x κ1; congr 1; funext y κ2
  cases put f1 x κ2 with
  | none => rfl
  | some p =>
    cases p with | mk x' κ3 =>
    dsimp only
    cases put f2 y κ3 with
    | none => rfl
    | some p => rfl
/-! ### loops -/
theorem wFor {src : MI} {G : MG} : wP (mFor src G s ρ κ) Z = wO (src ρ κ) fun ds κ1 => wP (forGo G s ds ρ κ1) Z := by unfold mFor; simp only [wP_bind]
theorem wForNil {G : MG} : wP (forGo G s [] ρ κ) Z = Z.nx ρ κ := propext Iff.rfl
theorem wForCons {G : MG} {d : PyData} {r : List PyData} : wP (forGo G s (d :: r) ρ κ) Z = match G (.d d) ρ κ with
    | none => False
    | some p => wP (s p.1 p.2) { nx := fun ρ κ => wP (forGo G s r ρ κ) Z, ct := fun ρ κ => wP (forGo G s r ρ κ) Z, bk := Z.nx, rt := Z.rt } := by
  rw [forGo]
  cases G (.d d) ρ κ with
  | none => rfl
  | some p =>
    cases p with | mk ρ1 κ1 =>
    dsimp only
    cases s ρ1 κ1 <;> rfl
/-- a loop by an invariant over the elements still to come -/
theorem wForI {G : MG} (I : List PyData → Rho → Kap → Prop) : ∀ (ds : List PyData) (ρ : Rho) (κ : Kap), I ds ρ κ → (∀ ρ κ, I [] ρ κ → Z.nx ρ κ) →
    (∀ d r ρ κ, I (d :: r) ρ κ → match G (.d d) ρ κ with
      | none => False
      | some p => wP (s p.1 p.2) { nx := fun ρ κ => I r ρ κ, ct := fun ρ κ => I r ρ κ, bk := Z.nx, rt := Z.rt }) → wP (forGo G s ds ρ κ) Z
  | [], ρ, κ, h, h0, _ => h0 ρ κ h
  | d :: r, ρ, κ, h, h0, h1 => by
    rw [wForCons]
    have h2 := h1 d r ρ κ h
    split at h2
    · exact h2
    · rename_i p e
      exact wP.mono h2 (fun ρ κ i => wForI I r ρ κ i h0 h1) (fun _ _ h => h) (fun ρ κ i => wForI I r ρ κ i h0 h1) (fun _ _ h => h)
theorem wStl {i : Nat} : wP (mStl i s ρ κ) Z = match ρ[i]? with
    | some (some (.c j)) => (match κ[j]? with
      | some (.lst ys) => (match allD ys with
        | some xs => wP (s (ρ.set i (some (.d (.list xs)))) (κ.set j .dead)) Z
        | none => False)
      | _ => False)
    | some (some (.d _)) => wP (s ρ κ) Z
    | _ => False := by
  unfold mStl
  cases h : ρ[i]? with
  | none => rfl
  | some o => cases o with
    | none => rfl
    | some x => cases x with
      | d y => rfl
      | n y => rfl
      | c j =>
        dsimp only
        cases κ[j]? with
        | none => rfl
        | some cl => cases cl with
          | lst ys => dsimp only; cases allD ys <;> rfl
          | _ => rfl
/-! ### comprehensions -/
theorem wLc {src : MI} {G : MG} {vs : List Nat} : wO (mLc src G t m vs ρ κ) q = wO (src ρ κ) fun ds κ1 => wO (lcGo G t m (wipeR ρ vs) ds [] κ1) q := by unfold mLc; simp only [wO_bind]
theorem wYes : wO (mYes ρ κ) qt = qt true κ := propext Iff.rfl
theorem wO_noex : wO (noex o) Q = wO o Q := by cases o <;> rfl
theorem wLcNil {G : MG} {acc : List PyData} : wO (lcGo G t m ρ [] acc κ) q = q (.n acc) κ := propext Iff.rfl
theorem wLcCons {G : MG} {d : PyData} {r acc : List PyData} : wO (lcGo G t m ρ (d :: r) acc κ) q = match G (.d d) ρ κ with
    | none => False
    | some p => wO (t p.1 p.2) fun b κ2 => if b = true then wO (m p.1 κ2) fun y κ3 => match fz y with
        | .d e => acc.length < 1000000 ∧ wO (lcGo G t m ρ r (acc ++ [e]) κ3) q
        | _ => False
      else wO (lcGo G t m ρ r acc κ2) q := by
  rw [lcGo]
  cases G (.d d) ρ κ with
  | none => rfl
  | some p =>
    cases p with | mk ρ1 κ1 =>
    dsimp only
    rw [wO_bind, wO_noex]
    congr 1; funext b κ2
    cases b with
    | false => rfl
    | true =>
      simp only [if_true]
      rw [wO_bind, wO_noex]
      congr 1; funext y κ3
      cases fz y with
      | d e => by_cases h : acc.length < 1000000 <;> simp [h, wO]
      | _ => rfl
/-- a comprehension by an invariant -/
theorem wLcI {G : MG} (I : List PyData → List PyData → Kap → Prop) : ∀ (ds acc : List PyData) (κ : Kap), I ds acc κ → (∀ acc κ, I [] acc κ → q (.n acc) κ) →
    (∀ d r acc κ, I (d :: r) acc κ → match G (.d d) ρ κ with
      | none => False
      | some p => wO (t p.1 p.2) fun b κ2 => if b = true then wO (m p.1 κ2) fun y κ3 => match fz y with
          | .d e => acc.length < 1000000 ∧ I r (acc ++ [e]) κ3
          | _ => False
        else I r acc κ2) → wO (lcGo G t m ρ ds acc κ) q
  | [], acc, κ, h, h0, _ => h0 acc κ h
  | d :: r, acc, κ, h, h0, h1 => by
    rw [wLcCons]
    have h2 := h1 d r acc κ h
    split at h2
    · exact h2
    · rename_i p e
      refine h2.mono fun b κ2 h3 => ?_
      split at h3
      · rename_i hb
        rw [if_pos hb]
        refine h3.mono fun y κ3 h4 => ?_
        split at h4
        · rename_i z ez
          exact ⟨h4.1, wLcI I r _ κ3 h4.2 h0 h1⟩
        · exact h4.elim
      · rename_i hb
        rw [if_neg hb]
        exact wLcI I r _ κ2 h3 h0 h1
/-! ### defs -/
theorem wDef {np nl : Nat} {xs : List DV} (h : xs.length = np) : wO (mDef np nl s xs κ) q = wP (s (rho0 nl xs) κ) { nx := fun ρ κ' => wO (fin κ.length (.nx ρ κ')) q, rt := fun x κ' => wO (fin κ.length (.rt x κ')) q } := by
  unfold mDef
  rw [if_pos h]
  cases s (rho0 nl xs) κ <;> first | rfl | (simp only [fin, wP]; first | rfl | (split <;> rfl))
theorem wDef0 {nl : Nat} : wO (mDef 0 nl s [] κ) q = wP (s (List.replicate nl none) κ) { nx := fun ρ κ' => wO (fin κ.length (.nx ρ κ')) q, rt := fun x κ' => wO (fin κ.length (.rt x κ')) q } := wDef rfl
theorem wDef1 {nl : Nat} {x : DV} : wO (mDef 1 nl s [x] κ) q = wP (s (some x :: List.replicate (nl - 1) none) κ) { nx := fun ρ κ' => wO (fin κ.length (.nx ρ κ')) q, rt := fun x κ' => wO (fin κ.length (.rt x κ')) q } := wDef rfl
theorem wDef2 {nl : Nat} {x y : DV} : wO (mDef 2 nl s [x, y] κ) q = wP (s (some x :: some y :: List.replicate (nl - 2) none) κ) { nx := fun ρ κ' => wO (fin κ.length (.nx ρ κ')) q, rt := fun x κ' => wO (fin κ.length (.rt x κ')) q } := wDef rfl
theorem wDef3 {nl : Nat} {x y z : DV} : wO (mDef 3 nl s [x, y, z] κ) q = wP (s (some x :: some y :: some z :: List.replicate (nl - 3) none) κ) { nx := fun ρ κ' => wO (fin κ.length (.nx ρ κ')) q, rt := fun x κ' => wO (fin κ.length (.rt x κ')) q } := wDef rfl
/-- the cells refer to those below alone -/
def KOk (κ : Kap) : Prop := κ.all (Cell.below κ.length) = true
theorem kok_nil : KOk [] := rfl
theorem allD_map (ds : List PyData) : allD (ds.map .d) = some ds := by
  induction ds with
  | nil => rfl
  | cons d r ih => rw [List.map_cons, allD, ih]; rfl
theorem finX {n : Nat} {x : DV} {κ0 : Kap} {l : Kap} (h : KOk κ0) (hn : n = κ0.length) (hx : ∀ i, x ≠ .c i) : wO (fin n (.rt x (κ0 ++ l))) q = q x κ0 := by
  subst hn
  show wO (if ((κ0 ++ l).take κ0.length).all (Cell.below κ0.length) = true then _ else _) q = _
  rw [List.take_left, if_pos (show κ0.all (Cell.below κ0.length) = true from h)]
  cases x with
  | c i => exact absurd rfl (hx i)
  | _ => rfl
theorem finD {n : Nat} {d : PyData} {κ0 : Kap} {l : Kap} (h : KOk κ0) (hn : n = κ0.length) : wO (fin n (.rt (.d d) (κ0 ++ l))) q = q (.d d) κ0 := finX h hn (by simp)
theorem finN {n : Nat} {d : List PyData} {κ0 : Kap} {l : Kap} (h : KOk κ0) (hn : n = κ0.length) : wO (fin n (.rt (.n d) (κ0 ++ l))) q = q (.n d) κ0 := finX h hn (by simp)
theorem finD0 {n : Nat} {d : PyData} {κ0 : Kap} (h : KOk κ0) (hn : n = κ0.length) : wO (fin n (.rt (.d d) κ0)) q = q (.d d) κ0 := by
  have := finD (q := q) (d := d) (l := []) h hn
  rw [List.append_nil] at this; exact this
theorem finN0 {n : Nat} {d : List PyData} {κ0 : Kap} (h : KOk κ0) (hn : n = κ0.length) : wO (fin n (.rt (.n d) κ0)) q = q (.n d) κ0 := by
  have := finN (q := q) (d := d) (l := []) h hn
  rw [List.append_nil] at this; exact this
theorem finC {n i : Nat} {ds : List PyData} {κ0 l : Kap} (h : KOk κ0) (hn : n = κ0.length) (hi : n ≤ i) (hl : lv (κ0 ++ l) (.c i) = some ds) : wO (fin n (.rt (.c i) (κ0 ++ l))) q = q (.n ds) κ0 := by
  subst hn
  show wO (if ((κ0 ++ l).take κ0.length).all (Cell.below κ0.length) = true then _ else _) q = _
  rw [List.take_left, if_pos (show κ0.all (Cell.below κ0.length) = true from h)]
  rw [if_neg (Nat.not_lt.mpr hi), hl]
  rfl
/-! ### operations on known kinds -/
theorem wAddI {x y : Int} : wO (opt κ (addB κ (.d (.int x)) (.d (.int y)))) q = q (.d (.int (x + y))) κ := propext Iff.rfl
theorem wIf2 {p : Prop} [Decidable p] {z : DV} : wO (opt κ (if p then some z else none)) q = (p ∧ q z κ) := by by_cases h : p <;> simp [h, opt, wO]
theorem wMulI {x y : Int} : wO (opt κ (mulD κ (.d (.int x)) (.d (.int y)))) q = (((-(2 ^ 64) < x ∧ x < 2 ^ 64) ∨ (-(2 ^ 64) < y ∧ y < 2 ^ 64)) ∧ q (.d (.int (x * y))) κ) := wIf2
theorem wIntI {F : Int → Int → Option PyData} {x y : Int} : wO (opt κ (DL.intD F κ (.d (.int x)) (.d (.int y)))) q = match F x y with
    | some d => q (.d d) κ
    | none => False := by
  show wO (opt κ ((F x y).map DV.d)) q = _
  cases F x y <;> rfl
theorem wSubI {x y : Int} : wO (opt κ (subB κ (.d (.int x)) (.d (.int y)))) q = q (.d (.int (x - y))) κ := propext Iff.rfl
theorem wModI {x y : Int} : wO (opt κ (DL.intD modF κ (.d (.int x)) (.d (.int y)))) q = (0 < y ∧ q (.d (.int (x % y))) κ) := by
  rw [wIntI]; unfold modF; by_cases h : 0 < y <;> simp [h]
theorem wFdivI {x y : Int} : wO (opt κ (DL.intD fdivF κ (.d (.int x)) (.d (.int y)))) q = ((0 < y ∧ y < 1073741824) ∧ q (.d (.int (x / y))) κ) := by
  rw [wIntI]; unfold fdivF; by_cases h : 0 < y ∧ y < 1073741824 <;> simp [h]
theorem wPowI {x y : Int} : wO (opt κ (DL.intD powF κ (.d (.int x)) (.d (.int y)))) q = ((0 ≤ y ∧ y ≤ 1000000 ∧ x.natAbs < 2 ^ 64) ∧ q (.d (.int (x ^ y.toNat))) κ) := by
  rw [wIntI]; unfold powF; by_cases h : 0 ≤ y ∧ y ≤ 1000000 ∧ x.natAbs < 2 ^ 64 <;> simp [h]
theorem wLtI {x y : Int} : wO (opt κ (DL.intD ltF κ (.d (.int x)) (.d (.int y)))) q = q (.d (.bool (decide (x < y)))) κ := propext Iff.rfl
theorem wLeI {x y : Int} : wO (opt κ (DL.intD leF κ (.d (.int x)) (.d (.int y)))) q = q (.d (.bool (decide (x ≤ y)))) κ := propext Iff.rfl
theorem wGtI {x y : Int} : wO (opt κ (DL.intD gtF κ (.d (.int x)) (.d (.int y)))) q = q (.d (.bool (decide (y < x)))) κ := propext Iff.rfl
theorem wGeI {x y : Int} : wO (opt κ (DL.intD geF κ (.d (.int x)) (.d (.int y)))) q = q (.d (.bool (decide (y ≤ x)))) κ := propext Iff.rfl
/-! ### the box -/
abbrev bx (a b c : Int) : Cell := .lst [.d (.int a), .d (.int b), .d (.int c)]
theorem ixB0 {j : Nat} {a b c : Int} (hj : j < κ.length) : ixD (κ.set j (bx a b c)) (.c j) (.d (.int 0)) = some (.d (.int a)) := by
  unfold ixD
  simp only [List.getElem?_set_self hj]
  rfl
theorem ixB1 {j : Nat} {a b c : Int} (hj : j < κ.length) : ixD (κ.set j (bx a b c)) (.c j) (.d (.int 1)) = some (.d (.int b)) := by
  unfold ixD
  simp only [List.getElem?_set_self hj]
  rfl
theorem ixB2 {j : Nat} {a b c : Int} (hj : j < κ.length) : ixD (κ.set j (bx a b c)) (.c j) (.d (.int 2)) = some (.d (.int c)) := by
  unfold ixD
  simp only [List.getElem?_set_self hj]
  rfl
theorem subB0 {j : Nat} {a b c z : Int} (hj : j < κ.length) : bSub (mVar 0) (mC (.int 0)) (.d (.int z)) (some (.c j) :: ρ) (κ.set j (bx a b c)) = some (some (.c j) :: ρ, κ.set j (bx z b c)) := by
  unfold bSub
  simp only [mVar, mC, List.getElem?_cons_zero, List.getElem?_set_self hj]
  show some (some (DV.c j) :: ρ, (κ.set j (bx a b c)).set j (bx z b c)) = _
  rw [List.set_set]
theorem subB2 {j : Nat} {a b c z : Int} (hj : j < κ.length) : bSub (mVar 0) (mC (.int 2)) (.d (.int z)) (some (.c j) :: ρ) (κ.set j (bx a b c)) = some (some (.c j) :: ρ, κ.set j (bx a b z)) := by
  unfold bSub
  simp only [mVar, mC, List.getElem?_cons_zero, List.getElem?_set_self hj]
  show some (some (DV.c j) :: ρ, (κ.set j (bx a b c)).set j (bx a b z)) = _
  rw [List.set_set]
theorem KOk.set {j : Nat} {a b c : Int} (h : KOk κ) : KOk (κ.set j (bx a b c)) := by
  unfold KOk at *
  rw [List.length_set, List.all_eq_true] at *
  intro cl m
  rcases List.mem_or_eq_of_mem_set m with m | rfl
  · exact h cl m
  · rfl
end
end DL

namespace DL
open L2 PyProof.Rows PySem PySem.Spec
section
variable {α β : Type} {Q R : α → Kap → Prop} {o : Out α} {ρ : Rho} {κ : Kap} {Z Z' : Po} {m a b c : ME} {f g : Kap → DV → DV → Option DV} {q : DV → Kap → Prop} {t u : MT} {qt : Bool → Kap → Prop} {s s1 s2 : MS} {ma : MA} {qa : List DV → Kap → Prop} {qi : List PyData → Kap → Prop} {qo : Option Int → Kap → Prop}
theorem wOpt0 : wO (opt κ none) q = False := propext Iff.rfl
theorem wSl {f : Kap → DV → Option Int → Option Int → Option DV} {l h : MO} : wO (mSl f a l h ρ κ) q = wO (a ρ κ) fun x κ1 => wO (l ρ κ1) fun lo κ2 => wO (h ρ κ2) fun hi κ3 => wO (opt κ3 (f κ3 x lo hi)) q := by
  unfold mSl; simp only [wO_bind]
theorem wNoP : wO (mNoP ρ κ) qo = qo none κ := propext Iff.rfl
theorem wPt : wO (mPt m ρ κ) qo = wO (m ρ κ) fun x κ1 => match x with
    | .d (.int i) => qo (some i) κ1
    | _ => False := by
  unfold mPt; simp only [wO_bind]; congr 1; funext x κ1
  cases x with
  | d y => cases y <;> rfl
  | c i => rfl
  | n xs => rfl
theorem wSlL {ds : List PyData} {lo hi : Option Int} : wO (opt κ (slD κ (.d (.list ds)) lo hi)) q = q (.n (cutD ds lo hi)) κ := propext Iff.rfl
theorem wSlN {ds : List PyData} {lo hi : Option Int} : wO (opt κ (slD κ (.n ds) lo hi)) q = q (.n (cutD ds lo hi)) κ := propext Iff.rfl
theorem wSlT {ds : List PyData} {lo hi : Option Int} : wO (opt κ (slD κ (.d (.tuple ds)) lo hi)) q = q (.d (.tuple (cutD ds lo hi))) κ := propext Iff.rfl
theorem wSlS {x : Str} {lo hi : Option Int} : wO (opt κ (slD κ (.d (.str x)) lo hi)) q = (x.length ≤ 16000000 ∧ q (.d (.str (cutS x lo hi))) κ) := wIf2
theorem wRng1 : wO (mRng1 ma ρ κ) qi = wO (ma ρ κ) fun xs κ1 => match xs with
    | [.d (.int j)] => (-(2 ^ 62) ≤ j ∧ j < 2 ^ 62) ∧ qi (rngD 0 j.toNat) κ1
    | _ => False := by
  unfold mRng1; simp only [wO_bind]; congr 1; funext x κ1
  rcases x with _ | ⟨x, _ | ⟨y, r⟩⟩
  · rfl
  · cases x with
    | d y =>
      cases y with
      | int j =>
        dsimp only
        by_cases h : -(2 ^ 62) ≤ j ∧ j < 2 ^ 62
        · rw [if_pos h]; exact propext ⟨fun z => ⟨h, z⟩, fun z => z.2⟩
        · rw [if_neg h]; exact propext ⟨fun z => z.elim, fun z => h z.1⟩
      | _ => rfl
    | c i => rfl
    | n xs => rfl
  · cases x with
    | d y => cases y <;> rfl
    | c i => rfl
    | n xs => rfl
theorem wSrcA : wO (mSrcA m ρ κ) qi = wO (m ρ κ) fun x κ1 => match x with
    | .d (.list xs) => qi xs κ1
    | .n xs => qi xs κ1
    | .d (.tuple xs) => qi xs κ1
    | _ => False := by
  unfold mSrcA; simp only [wO_bind]; congr 1; funext x κ1
  cases x with
  | d y => cases y <;> rfl
  | c i => rfl
  | n xs => rfl
theorem wSrcS : wO (mSrcS m ρ κ) qi = wO (m ρ κ) fun x κ1 => match x with
    | .d (.str x) => qi (chars x) κ1
    | _ => False := by
  unfold mSrcS; simp only [wO_bind]; congr 1; funext x κ1
  cases x with
  | d y => cases y <;> rfl
  | c i => rfl
  | n xs => rfl
theorem wIsI {T : String} : wO (mIsI T m ρ κ) q = wO (m ρ κ) fun x κ1 => isCell κ1 x = true ∧ q (.d (.bool (isT T (dvD x)))) κ1 := by
  unfold mIsI; simp only [wO_bind]; congr 1; funext x κ1
  by_cases h : isCell κ1 x = true <;> simp [h, wO]
theorem wIsI2 {T U : String} : wO (mIsI2 T U m ρ κ) q = wO (m ρ κ) fun x κ1 => isCell κ1 x = true ∧ q (.d (.bool (isT T (dvD x) || isT U (dvD x)))) κ1 := by
  unfold mIsI2; simp only [wO_bind]; congr 1; funext x κ1
  by_cases h : isCell κ1 x = true <;> simp [h, wO]
theorem wCm {F : List DV → List DV → Option (DV × List DV)} : wO (mCm F m ma ρ κ) q = wO (m ρ κ) fun x κ1 => match x with
    | .c i => (match κ1[i]? with
      | some (.lst _) => wO (ma ρ κ1) fun xs κ2 => match κ2[i]? with
        | some (.lst ys) => (match F ys xs with
          | some p => q p.1 (κ2.set i (.lst p.2))
          | none => False)
        | _ => False
      | _ => False)
    | _ => False := by
  unfold mCm; simp only [wO_bind]; congr 1; funext x κ1
  cases x with
  | d y => rfl
  | n y => rfl
  | c i =>
    dsimp only
    cases κ1[i]? with
    | none => rfl
    | some cl => cases cl with
      | dead => rfl
      | dic _ => rfl
      | lst _ =>
        dsimp only
        simp only [wO_bind]
        congr 1; funext xs κ2
        cases κ2[i]? with
        | none => rfl
        | some cl => cases cl with
          | dead => rfl
          | dic _ => rfl
          | lst ys =>
            dsimp only
            cases F ys xs <;> rfl
theorem wMs {F : Kap → Str → List DV → Option DV} : wO (mMs F m ma ρ κ) q = wO (m ρ κ) fun x κ1 => match x with
    | .d (.str y) => wO (ma ρ κ1) fun xs κ2 => wO (opt κ2 (F κ2 y xs)) q
    | _ => False := by
  unfold mMs; simp only [wO_bind]; congr 1; funext x κ1
  cases x with
  | d y => cases y <;> first | (simp only [wO_bind]; done) | rfl
  | c i => rfl
  | n xs => rfl
theorem wRev : wO (mRev m ρ κ) q = wO (m ρ κ) fun x κ1 => match lvS κ1 x with
    | some xs => q (.n xs.reverse) κ1
    | none => False := by
  unfold mRev; simp only [wO_bind]; congr 1; funext x κ1
  cases lvS κ1 x <;> rfl
theorem wCallK {ix : List Nat} {n : Nat} {M : MF} : wO (mCallK ix n M ma ρ κ) q = wO (ma ρ κ) fun xs κ1 => xs.length = n ∧ wO (M (perm ix xs) κ1) q := by
  unfold mCallK; simp only [wO_bind]; congr 1; funext x κ1
  by_cases h : x.length = n <;> simp [h, wO]
/-! ### lengths, items -/
theorem wLenL {ds : List PyData} : wO (opt κ (lenD κ [.d (.list ds)])) q = q (.d (.int ds.length)) κ := propext Iff.rfl
theorem wLenT {ds : List PyData} : wO (opt κ (lenD κ [.d (.tuple ds)])) q = q (.d (.int ds.length)) κ := propext Iff.rfl
theorem wLenS {x : Str} : wO (opt κ (lenD κ [.d (.str x)])) q = (x.length ≤ 16000000 ∧ q (.d (.int x.length)) κ) := wIf2
theorem atI_mem {γ : Type} {xs : List γ} {i : Int} (h0 : 0 ≤ i) (h1 : i < xs.length) : ∃ x, atI xs i = some x ∧ xs[i.toNat]? = some x ∧ x ∈ xs := by
  have h2 : i.toNat < xs.length := by omega
  refine ⟨xs[i.toNat], ?_, List.getElem?_eq_getElem h2, List.getElem_mem h2⟩
  unfold atI ixN
  rw [if_pos h0, if_pos h1]
  exact List.getElem?_eq_getElem h2
theorem wIxL {ds : List PyData} {i : Int} (h0 : 0 ≤ i) (h1 : i < ds.length) (h : ∀ x ∈ ds, q (.d x) κ) : wO (opt κ (ixD κ (.d (.list ds)) (.d (.int i)))) q := by
  obtain ⟨x, e, _, hm⟩ := atI_mem h0 h1
  show wO (opt κ ((atI ds i).map DV.d)) q
  rw [e]; exact h x hm
theorem wIxN {ds : List PyData} {i : Int} (h0 : 0 ≤ i) (h1 : i < ds.length) (h : ∀ x ∈ ds, q (.d x) κ) : wO (opt κ (ixD κ (.n ds) (.d (.int i)))) q := by
  obtain ⟨x, e, _, hm⟩ := atI_mem h0 h1
  show wO (opt κ ((atI ds i).map DV.d)) q
  rw [e]; exact h x hm
theorem wIxT {ds : List PyData} {i : Int} (h0 : 0 ≤ i) (h1 : i < ds.length) (h : ∀ x ∈ ds, q (.d x) κ) : wO (opt κ (ixD κ (.d (.tuple ds)) (.d (.int i)))) q := by
  obtain ⟨x, e, _, hm⟩ := atI_mem h0 h1
  show wO (opt κ ((atI ds i).map DV.d)) q
  rw [e]; exact h x hm
theorem wIxS {x : Str} {i : Int} (hl : x.length ≤ 16000000) (h0 : 0 ≤ i) (h1 : i < x.length) (h : ∀ c ∈ x.cps.toList, q (.d (.str ⟨#[c]⟩)) κ) : wO (opt κ (ixD κ (.d (.str x)) (.d (.int i)))) q := by
  have h1 : i < x.cps.toList.length := by rw [Array.length_toList]; exact h1
  obtain ⟨c, e, _, hm⟩ := atI_mem h0 h1
  show wO (opt κ (if x.length ≤ 16000000 then (atI x.cps.toList i).map fun c => DV.d (.str ⟨#[c]⟩) else none)) q
  rw [if_pos hl, e]; exact h c hm
theorem cutD_mem {xs : List PyData} {lo hi : Option Int} : ∀ x ∈ cutD xs lo hi, x ∈ xs := fun x h => List.mem_of_mem_drop (List.mem_of_mem_take h)
theorem cutD_len {xs : List PyData} {lo hi : Option Int} : (cutD xs lo hi).length ≤ xs.length := by
  unfold cutD; rw [List.length_take, List.length_drop]; omega
theorem cutD_len2 {xs : List PyData} {lo : Option Int} {k : Int} (h : 0 ≤ k) : (cutD xs lo (some k)).length ≤ k.toNat := by
  unfold cutD; rw [List.length_take]
  have : HT.sIx xs.length xs.length (some k) ≤ k.toNat := by
    show (if k < 0 then _ else _) ≤ _
    rw [if_neg (by omega)]; exact Nat.min_le_left _ _
  omega
/-! ### equality of known kinds -/
theorem wEqI {x y : Int} : wO (opt κ (eqD κ (.d (.int x)) (.d (.int y)))) q = q (.d (.bool (x == y))) κ := by
  have : eqD κ (.d (.int x)) (.d (.int y)) = some (.d (.bool (x == y))) := by
    unfold eqD eqDV dat
    simp [PyData.hasDict, PyData.depth, PyData.eqv]
  rw [this]; exact propext Iff.rfl
theorem wNeI {x y : Int} : wO (opt κ (neD κ (.d (.int x)) (.d (.int y)))) q = q (.d (.bool (!(x == y)))) κ := by
  have : neD κ (.d (.int x)) (.d (.int y)) = some (.d (.bool (!(x == y)))) := by
    unfold neD eqDV dat
    simp [PyData.hasDict, PyData.depth, PyData.eqv]
  rw [this]; exact propext Iff.rfl
theorem wIntT {d : PyData} : wO (opt κ (cal1 intF κ [.d d])) q = match d with
    | .int i => q (.d (.int i)) κ
    | .bool b => q (.d (.int (if b then 1 else 0))) κ
    | _ => False := by
  cases d <;> exact propext Iff.rfl
theorem wTupleN {ds : List PyData} : wO (opt κ (tupleD κ [.d (.list ds)])) q = q (.d (.tuple ds)) κ := propext Iff.rfl
theorem wMin2 {x y : Int} : wO (opt κ (min2D κ [.d (.int x), .d (.int y)])) q = q (.d (.int (if y < x then y else x))) κ := propext Iff.rfl
theorem wAddNN {x y : List PyData} : wO (opt κ (addB κ (.n x) (.n y))) q = (x.length + y.length ≤ 16000000 ∧ q (.n (x ++ y)) κ) := wIf2
theorem wAddLN {x y : List PyData} : wO (opt κ (addB κ (.d (.list x)) (.n y))) q = (x.length + y.length ≤ 16000000 ∧ q (.n (x ++ y)) κ) := wIf2
theorem wAddNL {x y : List PyData} : wO (opt κ (addB κ (.n x) (.d (.list y)))) q = (x.length + y.length ≤ 16000000 ∧ q (.n (x ++ y)) κ) := wIf2
theorem wAddLL {x y : List PyData} : wO (opt κ (addB κ (.d (.list x)) (.d (.list y)))) q = (x.length + y.length ≤ 16000000 ∧ q (.n (x ++ y)) κ) := wIf2
theorem wAddTT {x y : List PyData} : wO (opt κ (addB κ (.d (.tuple x)) (.d (.tuple y)))) q = (x.length + y.length ≤ 16000000 ∧ q (.d (.tuple (x ++ y))) κ) := wIf2
theorem wAddSS {x y : Str} : wO (opt κ (addB κ (.d (.str x)) (.d (.str y)))) q = (x.length + y.length ≤ 16000000 ∧ q (.d (.str (x ++ y))) κ) := wIf2
theorem wMulN {x : List PyData} {k : Int} : wO (opt κ (mulD κ (.n x) (.d (.int k)))) q = ((-1000000 ≤ k ∧ k ≤ 1000000 ∧ x.length * k.toNat ≤ 16000000) ∧ q (.n (List.replicate k.toNat x).flatten) κ) := wIf2
theorem wMulT {x : List PyData} {k : Int} : wO (opt κ (mulD κ (.d (.tuple x)) (.d (.int k)))) q = ((-1000000 ≤ k ∧ k ≤ 1000 ∧ x.length ≤ 1000) ∧ q (.d (.tuple (List.replicate k.toNat x).flatten)) κ) := wIf2
theorem wMulS {x : Str} {k : Int} : wO (opt κ (mulD κ (.d (.str x)) (.d (.int k)))) q = ((-1000000 ≤ k ∧ k ≤ 1000000 ∧ x.length * k.toNat ≤ 16000000) ∧ q (.d (.str (repS x k.toNat))) κ) := wIf2
end
/-! ### the state of a function with a box and cells of its own -/
theorem set_app {κ l : Kap} {j : Nat} (hj : j < κ.length) (x : Cell) : κ.set j x ++ l = (κ ++ l).set j x := (List.set_append_left _ _ hj).symm
theorem KOk.app {κ : Kap} (h : KOk κ) (ds : List PyData) : KOk (κ ++ [.lst (ds.map .d)]) := by
  unfold KOk at *
  rw [List.all_append, Bool.and_eq_true]
  refine ⟨?_, ?_⟩
  · rw [List.all_eq_true] at *
    intro cl m
    have h1 := h cl m
    cases cl with
    | dead => rfl
    | lst xs =>
      have h1 : xs.all (DV.below κ.length) = true := h1
      show xs.all (DV.below (κ ++ _).length) = true
      rw [List.all_eq_true] at *
      intro x m
      have := h1 x m
      cases x with
      | d _ => rfl
      | n _ => exact this
      | c i =>
        have h2 : i < κ.length := of_decide_eq_true this
        exact decide_eq_true (by rw [List.length_append]; omega)
    | dic xs =>
      have h1 : (xs.all fun p => p.2.below κ.length) = true := h1
      show (xs.all fun p => p.2.below (κ ++ _).length) = true
      rw [List.all_eq_true] at *
      intro x m
      have := h1 x m
      cases e : x.2 with
      | d _ => rfl
      | n _ => rw [e] at this; exact this
      | c i =>
        rw [e] at this
        have h2 : i < κ.length := of_decide_eq_true this
        exact decide_eq_true (by rw [List.length_append]; omega)
  · rw [List.all_cons, List.all_nil, Bool.and_true]
    show (ds.map DV.d).all (DV.below _) = true
    rw [List.all_map, List.all_eq_true]
    intro x m
    rfl
theorem get_last {κ : Kap} {j : Nat} {x y : Cell} (hj : j < κ.length) : ((κ ++ [y]).set j x)[κ.length]? = some y := by
  rw [List.getElem?_set_ne (by omega), List.getElem?_append_right (Nat.le_refl _), Nat.sub_self]; rfl
theorem set_last {κ : Kap} {j : Nat} {x y z : Cell} (hj : j < κ.length) : ((κ ++ [y]).set j x).set κ.length z = (κ ++ [z]).set j x := by
  rw [← set_app hj, ← set_app hj]
  have : κ.length = (κ.set j x).length := by rw [List.length_set]
  rw [this, List.set_append_right _ _ (Nat.le_refl _), Nat.sub_self]; rfl
abbrev cl (ds : List PyData) : Cell := Cell.lst (ds.map .d)
theorem finL {κ : Kap} {j : Nat} {a b c : Int} {ds : List PyData} {q : DV → Kap → Prop} (hj : j < κ.length) (hk : KOk κ) : wO (fin κ.length (.rt (.c κ.length) ((κ ++ [cl ds]).set j (bx a b c)))) q = q (.n ds) (κ.set j (bx a b c)) := by
  rw [← set_app hj, finC (ds := ds) hk.set (by simp) (Nat.le_refl _) (by
      rw [set_app hj]
      unfold lv
      dsimp only
      rw [get_last hj]
      exact allD_map ds)]
theorem finDL {κ : Kap} {j : Nat} {a b c : Int} {l : Kap} {x : PyData} {q : DV → Kap → Prop} (hj : j < κ.length) (hk : KOk κ) : wO (fin κ.length (.rt (.d x) ((κ ++ l).set j (bx a b c)))) q = q (.d x) (κ.set j (bx a b c)) := by
  rw [← set_app hj, finD hk.set (by simp)]
theorem app_w {ds : List PyData} {x : PyData} (h : ds.length < 1000000) : appF (ds.map .d) [.d x] = some (.d .none, (ds ++ [x]).map .d) := by
  show (if (ds.map DV.d).length < 1000000 then some (DV.d PyData.none, ds.map DV.d ++ [DV.d x]) else none) = _
  rw [if_pos (by rw [List.length_map]; exact h), List.map_append]; rfl
/-- a comprehension of draws -/
theorem lcBox {κ : Kap} {j i : Nat} {P : PyData → Prop} {el : ME} {ρ : Rho} {ds : List PyData} {acc : List PyData} {a b c : Int} {Q : DV → Kap → Prop}
    (step : ∀ (d : PyData) (a b c : Int) (q : DV → Kap → Prop), d ∈ ds → (∀ (x : PyData) (a' b' c' : Int), P x → q (.d x) (κ.set j (bx a' b' c'))) → wO (el (ρ.set i (some (.d d))) (κ.set j (bx a b c))) q)
    (hl : acc.length + ds.length ≤ 1000000) (ha : ∀ x ∈ acc, P x) (h : ∀ (ys : List PyData) (a b c : Int), (∀ x ∈ ys, P x) → ys.length = acc.length + ds.length → Q (.n ys) (κ.set j (bx a b c))) :
    wO (lcGo (bName i) mYes el ρ ds acc (κ.set j (bx a b c))) Q := by
  refine wLcI (fun r ac κ1 => ∃ a b c, (∀ x ∈ ac, P x) ∧ ac.length + r.length = acc.length + ds.length ∧ (∀ d ∈ r, d ∈ ds) ∧ κ1 = κ.set j (bx a b c)) _ _ _ ⟨_, _, _, ha, rfl, fun _ m => m, rfl⟩ ?_ ?_
  · rintro ac κ1 ⟨a, b, c, h1, h2, _, rfl⟩
    exact h _ _ _ _ h1 (by simpa using h2)
  · rintro d r ac κ1 ⟨a, b, c, h1, h2, h4, rfl⟩
    rw [List.length_cons] at h2
    simp only [bName, wYes, if_true]
    refine step d a b c _ (h4 d (List.mem_cons_self ..)) fun x a' b' c' hx => ?_
    simp only [fz]
    refine ⟨by omega, a', b', c', fun y m => ?_, by rw [List.length_append, List.length_singleton]; omega, fun d m => h4 d (List.mem_cons_of_mem _ m), rfl⟩
    rcases List.mem_append.mp m with m | m
    · exact h1 y m
    · rw [List.mem_singleton.mp m]; exact hx
theorem rngD_len {lo : Int} {n : Nat} : (rngD lo n).length = n := by simp [rngD]
theorem flat_len {γ : Type} (l : List γ) (n : Nat) : (List.replicate n l).flatten.length = n * l.length := by simp
/-- a comprehension that reads alone -/
theorem lcPure {G : MG} {el : ME} {F : PyData → PyData} {κ : Kap} {ρ : Rho} {Q : DV → Kap → Prop} : ∀ {ds acc : List PyData}, (∀ d ∈ ds, ∃ ρ', G (.d d) ρ κ = some (ρ', κ) ∧ ∀ q : DV → Kap → Prop, q (.d (F d)) κ → wO (el ρ' κ) q) → acc.length + ds.length ≤ 1000000 →
    Q (.n (acc ++ ds.map F)) κ → wO (lcGo G mYes el ρ ds acc κ) Q
  | [], acc, _, _, h => by rw [List.map_nil, List.append_nil] at h; exact h
  | d :: r, acc, hs, hl, h => by
    obtain ⟨ρ', e, st⟩ := hs d (List.mem_cons_self ..)
    rw [List.length_cons] at hl
    rw [wLcCons, e]
    dsimp only
    rw [wYes, if_pos rfl]
    refine st _ ?_
    simp only [fz]
    refine ⟨by omega, lcPure (fun y m => hs y (List.mem_cons_of_mem _ m)) (by rw [List.length_append, List.length_singleton]; omega) ?_⟩
    rw [List.append_assoc]; exact h
end DL

namespace Law
open DL L2 PyProof.Rows PySem PySem.Spec
local macro_rules | `(tactic| walk_at "w") => `(tactic| simp only [wDef0, wDef1, wDef2, wDef3, List.replicate, Nat.reduceSub, wSeq, wIf, wTb, wTr, wBin, wUn, wVar, wC, wCal, wCall, wCallK, wNil, wCons, wConsC, wLst, wTup, wNotT, wAndT, wOrT, wAnd, wOr, wNotE, wIfE, wChain, wNext, wSet, wSetC, wRet, wDrop, wAsg, wPar, wFor, wLc, wYes, wSl, wNoP, wPt, wRng1, wSrcA, wSrcS, wIsI, wIsI2, wCm, wMs, wRev,
  wOpt, tK_some, bK_some, bK_le, bK_lt, wGtI, wLtI, wLeI, wGeI, wModI, wFdivI, wMulI, wAddI, wSubI, wEqI, wNeI, wSlL, wSlN, wSlT, wSlS, wLenL, wLenT, wLenS, wIntT, wTupleN, wMin2, wAddNN, wAddLN, wAddNL, wAddLL, wAddTT, wAddSS, wMulN, wMulT, wMulS, fz_d, fz_n, fz_c, allD, put, truD, bName, bTup, bCons, bNil, wipeR,
  List.getElem?_cons_zero, List.getElem?_cons_succ, List.set_cons_zero, List.set_cons_succ, List.length_set, List.length_cons, List.length_nil, Option.map_some, Option.map_none, if_true, Bool.false_eq_true, if_false, Bool.not_true, Bool.not_false, List.map_cons, List.map_nil, true_and, and_true, Nat.reduceAdd, Nat.reduceLeDiff])
section
variable {κ : Kap} {j N : Nat} {a b c : Int} {Q q : DV → Kap → Prop} {d : PyData}
theorem mb (x M : Int) (h : 0 < M) (h2 : M < 2 ^ 64) : -(2 ^ 64) < x % M ∧ x % M < 2 ^ 64 := by
  have h3 := Int.emod_nonneg x (show M ≠ 0 by omega)
  have h4 := Int.emod_lt_of_pos x h
  omega
/-- a sign's number -/
def isW : PyData → Bool
  | .int i => decide (0 ≤ i ∧ i < 65536)
  | _ => false
theorem isW_int {i : Int} (h0 : 0 ≤ i) (h1 : i < 65536) : isW (.int i) = true := decide_eq_true ⟨h0, h1⟩
abbrev AllW (ds : List PyData) : Prop := ds.all isW = true
theorem AllW.app {x y : List PyData} (h : AllW x) (g : AllW y) : AllW (x ++ y) := by
  unfold AllW at *
  rw [List.all_append, h, g]; rfl
theorem AllW.rep {x : List PyData} (h : AllW x) (n : Nat) : AllW (List.replicate n x).flatten := by
  unfold AllW at *
  rw [List.all_eq_true] at *
  intro y m
  obtain ⟨l, m1, m2⟩ := List.mem_flatten.mp m
  rw [(List.mem_replicate.mp m1).2] at m2
  exact h y m2
theorem AllW.cut {x : List PyData} (h : AllW x) {lo hi : Option Int} : AllW (DL.cutD x lo hi) := by
  unfold AllW at *
  rw [List.all_eq_true] at *
  exact fun y m => h y (cutD_mem y m)
def small (c : Nat) : Bool := decide (97 ≤ c ∧ c ≤ 122)
def plainC (c : Nat) : Bool := decide (32 ≤ c ∧ c ≤ 126 ∧ c ≠ 37)
theorem ofCs (ys : List PyData) (h : ∀ x ∈ ys, ∃ c, x = .str ⟨#[c]⟩ ∧ plainC c = true) : ∃ cs : List Nat, ys = cs.map (fun c => PyData.str ⟨#[c]⟩) ∧ cs.all plainC = true := by
  induction ys with
  | nil => exact ⟨[], rfl, rfl⟩
  | cons x r ih =>
    obtain ⟨cs, e, a⟩ := ih fun y m => h y (List.mem_cons_of_mem _ m)
    obtain ⟨c, e2, a2⟩ := h x (List.mem_cons_self ..)
    exact ⟨c :: cs, by rw [e, e2]; rfl, by rw [List.all_cons, a2, a]; rfl⟩
theorem strs_cs : ∀ cs : List Nat, strsD (cs.map fun c => PyData.str ⟨#[c]⟩) = some (cs.map fun c => (⟨#[c]⟩ : Str))
  | [] => rfl
  | c :: r => by rw [List.map_cons, strsD, strs_cs r]; rfl
theorem sum_cs : ∀ cs : List Nat, ((cs.map fun c => (⟨#[c]⟩ : Str)).map (·.length)).sum = cs.length
  | [] => rfl
  | c :: r => by
    rw [List.map_cons, List.map_cons, List.sum_cons, sum_cs r, List.length_cons]
    show 1 + r.length = r.length + 1
    omega
theorem join_cs (cs : List Nat) : (Txt.join "" (cs.map fun c => (⟨#[c]⟩ : Str))).cps.toList = cs := by
  rw [TL.join_eq]
  refine (TL.tl_join ("" : Str) (cs.map fun c => (⟨#[c]⟩ : Str))).trans ?_
  induction cs with
  | nil => rfl
  | cons c r ih =>
    cases r with
    | nil => rfl
    | cons d q =>
      show [c] ++ ([] ++ TL.joinL _ _) = c :: d :: q
      exact congrArg (c :: ·) ih
theorem join_w {cs : List Nat} {q : DV → Kap → Prop} (hl : cs.length ≤ 16000000) (h : ∀ x : Str, x.cps.toList = cs → q (.d (.str x)) κ) : wO (opt κ (joinF κ "" [.d (.list (cs.map fun c => PyData.str ⟨#[c]⟩))])) q := by
  unfold joinF
  show wO (opt κ (((some (cs.map fun c => PyData.str ⟨#[c]⟩)).bind strsD).bind _)) q
  rw [Option.bind_some, strs_cs, Option.bind_some, if_pos (by rw [sum_cs]; show cs.length + _ * 0 ≤ _; omega)]
  exact h _ (join_cs cs)
def isNm : PyData → Bool
  | .str x => decide (1 ≤ x.length ∧ x.length ≤ 8) && x.cps.toList.all small
  | _ => false
def isPT (n : Nat) : PyData → Bool
  | .str x => decide (x.length ≤ n) && x.cps.toList.all plainC
  | _ => false
mutual
def gd (N : Nat) : PyData → Bool
  | .none => true
  | .bool _ => true
  | .int i => decide (i.natAbs ≤ N)
  | .str x => x.cps.toList.all fun c => decide (c < 128)
  | .list xs => gdAll N xs
  | .tuple xs => gdAll N xs
  | .dict _ => false
def gdAll (N : Nat) : List PyData → Bool
  | [] => true
  | x :: r => gd N x && gdAll N r
end
theorem gdAll_iff {N : Nat} : ∀ {xs : List PyData}, gdAll N xs = true ↔ ∀ x ∈ xs, gd N x = true
  | [] => by simp [gdAll]
  | x :: r => by rw [gdAll, Bool.and_eq_true, gdAll_iff, List.forall_mem_cons]
structure Gd (N W D : Nat) (d : PyData) : Prop where
  g : gd N d = true
  w : d.bulk ≤ W
  p : d.depth ≤ D
theorem bulkAll_le {W : Nat} : ∀ {xs : List PyData}, (∀ x ∈ xs, x.bulk ≤ W) → PyData.bulkAll xs ≤ xs.length * (W + 1)
  | [], _ => Nat.zero_le _
  | x :: r, h => by
    have h1 := h x (List.mem_cons_self ..)
    have h2 := bulkAll_le (W := W) (xs := r) fun y m => h y (List.mem_cons_of_mem _ m)
    rw [PyData.bulkAll, List.length_cons, Nat.succ_mul]
    omega
theorem depthAll_le {D : Nat} : ∀ {xs : List PyData}, (∀ x ∈ xs, x.depth ≤ D) → PyData.depthAll xs ≤ D
  | [], _ => Nat.zero_le _
  | x :: r, h => by
    rw [PyData.depthAll]
    exact Nat.max_le.mpr ⟨h x (List.mem_cons_self ..), depthAll_le fun y m => h y (List.mem_cons_of_mem _ m)⟩
theorem Gd.tup {N W D n : Nat} {xs : List PyData} (h : ∀ x ∈ xs, Gd N W D x) (hn : xs.length ≤ n) : Gd N (n * (W + 1)) (D + 1) (.tuple xs) := by
  refine ⟨?_, ?_, ?_⟩
  · rw [gd]; exact gdAll_iff.mpr fun x m => (h x m).g
  · rw [PyData.bulk]; exact Nat.le_trans (bulkAll_le fun x m => (h x m).w) (Nat.mul_le_mul_right _ hn)
  · rw [PyData.depth]; exact Nat.succ_le_succ (depthAll_le fun x m => (h x m).p)
theorem Gd.more {N W D N' W' D' : Nat} {d : PyData} (h : Gd N W D d) (a : gd N' d = true) (b : W ≤ W') (c : D ≤ D') : Gd N' W' D' d := ⟨a, Nat.le_trans h.w b, Nat.le_trans h.p c⟩
theorem Gd.up {N W D W' D' : Nat} {d : PyData} (h : Gd N W D d) (b : W ≤ W') (c : D ≤ D') : Gd N W' D' d := ⟨h.g, Nat.le_trans h.w b, Nat.le_trans h.p c⟩
theorem Gd.pair {N W D W' D' : Nat} {x y : PyData} (h : Gd N W D x) (h' : Gd N W' D' y) : Gd N (W + 1 + (W' + 1)) (max D D' + 1) (.tuple [x, y]) := by
  refine ⟨?_, ?_, ?_⟩
  · simp [gd, gdAll, h.g, h'.g]
  · have := h.w; have := h'.w
    simp only [PyData.bulk, PyData.bulkAll]; omega
  · have := h.p; have := h'.p
    simp only [PyData.depth, PyData.depthAll]; omega
theorem gd_str {N n : Nat} {x : Str} (h : x.length ≤ n) (a : x.cps.toList.all (fun c => decide (c < 128)) = true) : Gd N n 0 (.str x) := ⟨by rw [gd]; exact a, h, Nat.le_refl _⟩
theorem asc_small {l : List Nat} (h : l.all small = true) : l.all (fun c => decide (c < 128)) = true := by
  rw [List.all_eq_true] at *
  intro c m
  have := of_decide_eq_true (h c m)
  exact decide_eq_true (by omega)
theorem asc_plain {l : List Nat} (h : l.all plainC = true) : l.all (fun c => decide (c < 128)) = true := by
  rw [List.all_eq_true] at *
  intro c m
  have := of_decide_eq_true (h c m)
  exact decide_eq_true (by omega)
theorem gd_nm {N : Nat} {d : PyData} (h : isNm d = true) : Gd N 8 0 d := by
  cases d with
  | str x =>
    rw [isNm, Bool.and_eq_true] at h
    exact gd_str (of_decide_eq_true h.1).2 (asc_small h.2)
  | _ => simp [isNm] at h
theorem gd_pt {N n : Nat} {d : PyData} (h : isPT n d = true) : Gd N n 0 d := by
  cases d with
  | str x =>
    rw [isPT, Bool.and_eq_true] at h
    exact gd_str (of_decide_eq_true h.1) (asc_plain h.2)
  | _ => simp [isPT] at h
theorem gd_w {N : Nat} (hN : 65536 ≤ N) {d : PyData} (h : isW d = true) : Gd N 0 0 d := by
  cases d with
  | int i =>
    have := of_decide_eq_true h
    exact ⟨by rw [gd]; exact decide_eq_true (by omega), Nat.le_refl _, Nat.le_refl _⟩
  | _ => simp [isW] at h
theorem isPT_mono {n m : Nat} (h : n ≤ m) {d : PyData} (e : isPT n d = true) : isPT m d = true := by
  cases d with
  | str x =>
    rw [isPT, Bool.and_eq_true] at *
    exact ⟨decide_eq_true (Nat.le_trans (of_decide_eq_true e.1) h), e.2⟩
  | _ => simp [isPT] at e
theorem tupC (hj : j < κ.length) {acc : List PyData} {x : Cell} : tupleD ((κ ++ [cl acc]).set j x) [.c κ.length] = some (.d (.tuple acc)) := by
  show (lvS _ (.c κ.length)).map _ = _
  have : lvS ((κ ++ [cl acc]).set j x) (.c κ.length) = some acc := by
    unfold lvS lv
    dsimp only
    rw [get_last hj]
    exact allD_map acc
  rw [this]; rfl
theorem cutS_mem {x : Str} {lo hi : Option Int} : ∀ c ∈ (cutS x lo hi).cps.toList, c ∈ x.cps.toList := fun c h => List.mem_of_mem_drop (List.mem_of_mem_take h)
theorem cutS_len {x : Str} {lo : Option Int} {k : Int} (h : 0 ≤ k) : (cutS x lo (some k)).length ≤ k.toNat := by
  show (cutS x lo (some k)).cps.size ≤ _
  rw [← Array.length_toList]
  show ((x.cps.toList.drop _).take _).length ≤ _
  rw [List.length_take]
  have : HT.sIx x.length x.length (some k) ≤ k.toNat := by
    show (if k < 0 then _ else _) ≤ _
    rw [if_neg (by omega)]; exact Nat.min_le_left _ _
  omega
theorem cutS_len2 {x : Str} {lo hi : Option Int} : (cutS x lo hi).length ≤ x.length := by
  show (cutS x lo hi).cps.size ≤ x.cps.size
  rw [← Array.length_toList, ← Array.length_toList]
  show ((x.cps.toList.drop _).take _).length ≤ _
  rw [List.length_take, List.length_drop]; omega
open PySem.Builtin PySem.Builtin.Str in
theorem strSub_len (x : Str) (lo hi : Nat) (h : hi ≤ x.length) : (strSub x lo hi).length = hi - lo := by
  show (x.cps.extract lo hi).size = _
  rw [Array.size_extract]
  have : hi ≤ x.cps.size := h
  omega
open PySem.Builtin PySem.Builtin.Str in
theorem strip_all (x y : Str) : (Txt.stripChars x y).length = 0 ↔ x.cps.toList.all y.cps.contains = true := by
  unfold Txt.stripChars
  rw [stripBy_eq]
  obtain ⟨l1, l2, l3⟩ := lo_facts y.cps.contains x
  obtain ⟨h1, h2, h3, h4⟩ := hi_facts y.cps.contains x _ l1
  rw [strSub_len _ _ _ h2, List.all_eq_true]
  have hn : x.cps.toList.length = x.length := by simp [Str.length]
  constructor
  · intro e c m
    obtain ⟨k, hk, rfl⟩ := List.getElem_of_mem m
    have ek : x.cps.toList[k] = x.cps.getD k 0 := by
      rw [← getD_list, List.getD_eq_getElem?_getD, List.getElem?_eq_getElem hk]; rfl
    rw [ek]
    by_cases g : k < stripLo y.cps.contains true x
    · exact l2 k g
    · exact h3 k (by omega) (by omega)
  · intro ha
    rcases l3 with l3 | l3
    · omega
    · by_cases g : stripLo y.cps.contains true x < x.length
      · exfalso
        have hk : stripLo y.cps.contains true x < x.cps.toList.length := by omega
        have := ha _ (List.getElem_mem hk)
        rw [← getD_list, List.getD_eq_getElem?_getD, List.getElem?_eq_getElem hk] at l3
        rw [show (some x.cps.toList[stripLo y.cps.contains true x]).getD 0 = x.cps.toList[stripLo y.cps.contains true x] from rfl] at l3
        rw [this] at l3; cases l3
      · omega
theorem wEqS {x y : Str} : wO (opt κ (eqD κ (.d (.str x)) (.d (.str y)))) q = q (.d (.bool (x == y))) κ := by
  have : eqD κ (.d (.str x)) (.d (.str y)) = some (.d (.bool (x == y))) := by
    unfold eqD eqDV dat
    simp [PyData.hasDict, PyData.depth, PyData.eqv]
  rw [this]; exact propext Iff.rfl
theorem all_w {ds : List PyData} {P : PyData → Bool} (h : q (.d (.bool (ds.all P))) κ) : wO (opt κ (lstD allF κ [.d (.list (ds.map fun d => PyData.bool (P d)))])) q := by
  have e : boolsD (ds.map fun d => PyData.bool (P d)) = some (ds.map P) := by
    induction ds with
    | nil => rfl
    | cons d r ih =>
      rw [List.map_cons, boolsD]
      have : boolsD (r.map fun d => PyData.bool (P d)) = some (r.map P) := by
        clear h ih
        induction r with
        | nil => rfl
        | cons d r ih => rw [List.map_cons, boolsD, ih]; rfl
      rw [this]; rfl
  show wO (opt κ ((allF (ds.map fun d => PyData.bool (P d))).map DV.d)) q
  unfold allF
  rw [e]
  show q (.d (.bool ((ds.map P).all id))) κ
  rw [List.all_map]
  exact h
theorem lcAll {G : MG} {el : ME} {ρ : Rho} {ds : List PyData} {P : PyData → Bool} (step : ∀ d ∈ ds, ∃ ρ', G (.d d) ρ κ = some (ρ', κ) ∧ ∀ q : DV → Kap → Prop, q (.d (.bool (P d))) κ → wO (el ρ' κ) q) (hl : ds.length ≤ 1000000)
    (h : q (.d (.bool (ds.all P))) κ) : wO (lcGo G mYes el ρ ds [] κ) fun x κ1 => wO (opt κ1 (lstD allF κ1 [fz x])) q := by
  refine lcPure (F := fun d => .bool (P d)) step (by rw [List.length_nil]; omega) ?_
  rw [List.nil_append]
  exact all_w h
theorem lcChars {i : Nat} {el : ME} {ρ : Rho} {x : Str} {P : Nat → Bool} (step : ∀ c ∈ x.cps.toList, ∀ q : DV → Kap → Prop, q (.d (.bool (P c))) κ → wO (el (ρ.set i (some (.d (.str ⟨#[c]⟩)))) κ) q) (hl : x.length ≤ 1000000)
    (h : q (.d (.bool (x.cps.toList.all P))) κ) : wO (lcGo (bName i) mYes el ρ (chars x) [] κ) fun x κ1 => wO (opt κ1 (lstD allF κ1 [fz x])) q := by
  refine lcAll (P := fun d => match d with | .str x => P (x.cps.getD 0 0) | _ => false) (fun d m => ?_) (by rw [chars, List.length_map, Array.length_toList]; exact hl) ?_
  · obtain ⟨c, mc, rfl⟩ := List.mem_map.mp m
    exact ⟨_, rfl, step c mc⟩
  · rw [chars, List.all_map]; exact h
theorem isCell_gd (h : gd N d = true) : isCell κ (.d d) = true := by
  cases d with
  | dict _ => simp [gd] at h
  | _ => rfl
def isNum : PyData → Bool
  | .int _ => true
  | _ => false
def isIn (lo hi : Int) : PyData → Bool
  | .int i => decide (lo ≤ i) && decide (i ≤ hi)
  | _ => false
def isTup (n : Nat) : PyData → Bool
  | .tuple ds => decide (ds.length = n)
  | _ => false
theorem beq_cast (a b : Nat) : ((a : Int) == (b : Int)) = decide (a = b) := by
  by_cases h : a = b
  · subst h; simp
  · rw [decide_eq_false h, beq_eq_false_iff_ne]; omega
def isSh (lo hi : Int) : PyData → Bool
  | .tuple ds => decide (lo ≤ (ds.length : Int)) && decide ((ds.length : Int) ≤ hi)
  | _ => false
theorem small_mem (c : Nat) : decide (c ∈ ("abcdefghijklmnopqrstuvwxyz" : Str).cps.toList) = small c := by
  rw [show ("abcdefghijklmnopqrstuvwxyz" : Str).cps.toList = (List.range 26).map (· + 97) by decide +kernel]
  unfold small
  refine decide_eq_decide.mpr ⟨fun m => ?_, fun m => ?_⟩
  · obtain ⟨i, hi, rfl⟩ := List.mem_map.mp m
    have := List.mem_range.mp hi
    omega
  · exact List.mem_map.mpr ⟨c - 97, List.mem_range.mpr (by omega), by omega⟩
theorem len_bulk {xs : List PyData} : xs.length ≤ PyData.bulkAll xs := by
  induction xs with
  | nil => exact Nat.zero_le _
  | cons x r ih => rw [List.length_cons, PyData.bulkAll]; omega
theorem mem_bulk {xs : List PyData} {x : PyData} (m : x ∈ xs) : x.bulk < PyData.bulkAll xs := by
  induction xs with
  | nil => cases m
  | cons y r ih =>
    rw [PyData.bulkAll]
    rcases List.mem_cons.mp m with rfl | m
    · omega
    · have := ih m; omega
theorem gd_mem {xs : List PyData} (h : gd N (.tuple xs) = true) {x : PyData} (m : x ∈ xs) : gd N x = true := by
  rw [gd] at h; exact gdAll_iff.mp h x m
theorem isIn_W {x : PyData} : isIn 0 65535 x = isW x := by
  cases x with
  | int i =>
    rw [isIn, isW, ← Bool.decide_and]
    exact decide_eq_decide.mpr ⟨fun h => by omega, fun h => by omega⟩
  | _ => rfl
theorem isTup_two {x : PyData} (h : isTup 2 x = true) : ∃ a b, x = .tuple [a, b] := by
  cases x with
  | tuple ds =>
    have h := of_decide_eq_true h
    match ds, h with
    | [a, b], _ => exact ⟨a, b, rfl⟩
  | _ => simp [isTup] at h
theorem ix0 {x y : PyData} : ixD κ (.d (.tuple [x, y])) (.d (.int 0)) = some (.d x) := rfl
theorem ix1 {x y : PyData} : ixD κ (.d (.tuple [x, y])) (.d (.int 1)) = some (.d y) := rfl
theorem asc_of {x : Str} (h : gd N (.str x) = true) : x.cps.toList.all (fun c => decide (c < 128)) = true := by rw [gd] at h; exact h
theorem pair_bulk {x y : PyData} (h : (PyData.tuple [x, y]).bulk ≤ 1000000) : x.bulk ≤ 1000000 ∧ y.bulk ≤ 1000000 := by
  simp only [PyData.bulk, PyData.bulkAll] at h; omega
theorem tup_bulk {xs : List PyData} (h : (PyData.tuple xs).bulk ≤ 1000000) {x : PyData} (m : x ∈ xs) : x.bulk ≤ 1000000 := by
  have := mem_bulk m
  have h : PyData.bulkAll xs ≤ 1000000 := h
  omega
theorem strip_mem (x y : Str) : ∀ c ∈ (Txt.stripChars x y).cps.toList, c ∈ x.cps.toList := by
  unfold Txt.stripChars
  rw [stripBy_eq]
  intro c m
  have m : c ∈ (x.cps.extract _ _).toList := m
  rw [Array.toList_extract] at m
  exact List.mem_of_mem_drop (List.mem_of_mem_take m)
theorem small_con (c : Nat) : ("abcdefghijklmnopqrstuvwxyz" : Str).cps.contains c = small c := by
  rw [← small_mem]
  by_cases h : c ∈ ("abcdefghijklmnopqrstuvwxyz" : Str).cps.toList
  · rw [decide_eq_true h]
    exact Array.contains_iff_mem.mpr (Array.mem_toList_iff.mp h)
  · rw [decide_eq_false h, Bool.eq_false_iff]
    exact fun z => h (Array.mem_toList_iff.mpr (Array.contains_iff_mem.mp z))
theorem empty_beq (z : Str) : (z == ("" : Str)) = decide (z.length = 0) := by
  by_cases h : z.length = 0
  · rw [decide_eq_true h]
    obtain ⟨a⟩ := z
    have : a = #[] := Array.eq_empty_of_size_eq_zero h
    subst this; decide +kernel
  · rw [decide_eq_false h, beq_eq_false_iff_ne]
    intro e; exact h (by rw [e]; decide +kernel)
theorem plain_mem (c : Nat) : decide (c ∈ (" !\"#$&'()*+,-./0123456789:;<=>?@ABCDEFGHIJKLMNOPQRSTUVWXYZ[\\]^_`abcdefghijklmnopqrstuvwxyz{|}~" : Str).cps.toList) = plainC c := by
  rw [show (" !\"#$&'()*+,-./0123456789:;<=>?@ABCDEFGHIJKLMNOPQRSTUVWXYZ[\\]^_`abcdefghijklmnopqrstuvwxyz{|}~" : Str).cps.toList = (List.range 127).filter plainC by decide +kernel]
  cases e : plainC c with
  | true =>
    have h : 32 ≤ c ∧ c ≤ 126 ∧ c ≠ 37 := of_decide_eq_true e
    exact decide_eq_true (List.mem_filter.mpr ⟨List.mem_range.mpr (by omega), e⟩)
  | false =>
    refine decide_eq_false fun m => ?_
    have := (List.mem_filter.mp m).2
    rw [e] at this; cases this
theorem lay_gd : ∀ d : PyData, gd N d = true → d.canLay0 = true
  | .none, _ => rfl
  | .bool _, _ => rfl
  | .int _, _ => rfl
  | .str x, h => by
    rw [PyData.canLay0]
    unfold PyData.strOk
    rw [← Array.all_toList, List.all_eq_true]
    intro c m
    have := of_decide_eq_true (List.all_eq_true.mp (asc_of h) c m)
    exact decide_eq_true (by omega)
  | .list xs, h => by rw [PyData.canLay0]; rw [gd] at h; exact all xs h
  | .tuple xs, h => by rw [PyData.canLay0]; rw [gd] at h; exact all xs h
  | .dict _, h => by simp [gd] at h
where all : ∀ xs : List PyData, gdAll N xs = true → PyData.canLayAll0 xs = true
  | [], _ => rfl
  | x :: r, h => by
    rw [gdAll, Bool.and_eq_true] at h
    rw [PyData.canLayAll0, lay_gd x h.1, all r h.2]; rfl
theorem short_gd (hN : N < 10 ^ 12) : ∀ d : PyData, gd N d = true → d.intsShort 13 = true
  | .none, _ => rfl
  | .bool _, _ => rfl
  | .str _, _ => rfl
  | .int i, h => by
    rw [gd] at h
    have h := of_decide_eq_true h
    have := PyData.intsShortAll_ints [i] (fun n m => by rw [List.mem_singleton.mp m]; omega)
    rw [List.map_cons, PyData.intsShortAll, Bool.and_eq_true] at this
    exact this.1
  | .list xs, h => by rw [PyData.intsShort]; rw [gd] at h; exact all xs h
  | .tuple xs, h => by rw [PyData.intsShort]; rw [gd] at h; exact all xs h
  | .dict _, h => by simp [gd] at h
where all : ∀ xs : List PyData, gdAll N xs = true → PyData.intsShortAll 13 xs = true
  | [], _ => rfl
  | x :: r, h => by
    rw [gdAll, Bool.and_eq_true] at h
    rw [PyData.intsShortAll, short_gd hN x h.1, all r h.2]; rfl
theorem show_gd (hN : N < 10 ^ 12) : ∀ d : PyData, gd N d = true → d.showable = true
  | .none, _ => rfl
  | .bool _, _ => rfl
  | .str _, _ => rfl
  | .int i, h => by
    rw [gd] at h
    have h := of_decide_eq_true h
    rw [PyData.showable]
    refine decide_eq_true ?_
    by_cases z : i.natAbs = 0
    · rw [z]; decide
    · refine (Nat.log2_lt z).mpr (Nat.lt_of_lt_of_le (show i.natAbs < 2 ^ 40 by omega) (Nat.pow_le_pow_right (by decide) (by decide)))
  | .list xs, h => by rw [PyData.showable]; rw [gd] at h; exact all xs h
  | .tuple xs, h => by rw [PyData.showable]; rw [gd] at h; exact all xs h
  | .dict _, h => by simp [gd] at h
where all : ∀ xs : List PyData, gdAll N xs = true → PyData.showableAll xs = true
  | [], _ => rfl
  | x :: r, h => by
    rw [gdAll, Bool.and_eq_true] at h
    rw [PyData.showableAll, show_gd hN x h.1, all r h.2]; rfl
theorem repr_w {W D : Nat} (hN : N < 10 ^ 12) (hW : W ≤ 1000000) (hD : D ≤ 40) (hd : Gd N W D d) : wO (opt κ (reprD κ [.d d])) q = q (.d (.str d.shown)) κ := by
  have hl := lay_gd d hd.g
  have h1 := PyData.shown_le_bulk 13 (by decide) d (PyData.leavesShort_of_canLay0 13 d hl (short_gd hN d hd.g))
  have h2 := hd.w
  have h3 := hd.p
  have : reprD κ [.d d] = some (.d (.str d.shown)) := by
    show ((if d.hasDict = false then some d else none).bind _) = _
    rw [if_pos (PyData.hasDict_of_canLay d hl), Option.bind_some, if_pos ⟨show_gd hN d hd.g, by omega, by omega⟩]
  rw [this]; exact propext Iff.rfl
theorem reprB_w {x y : Bool} : wO (opt κ (reprD κ [.d (.list [.bool x, .bool y])])) q = q (.d (.str (PyData.list [.bool x, .bool y]).shown)) κ := by
  refine repr_w (N := 0) (W := 1000000) (D := 40) (by decide) (Nat.le_refl _) (Nat.le_refl _) ⟨?_, ?_, ?_⟩
  · simp [gd, gdAll]
  · simp [PyData.bulk, PyData.bulkAll]
  · simp [PyData.depth, PyData.depthAll]
theorem gd_mono {N' : Nat} (h : N ≤ N') : ∀ d : PyData, gd N d = true → gd N' d = true
  | .none, _ => rfl
  | .bool _, _ => rfl
  | .str _, e => e
  | .int i, e => by rw [gd] at *; exact decide_eq_true (Nat.le_trans (of_decide_eq_true e) h)
  | .list xs, e => by rw [gd] at *; exact all xs e
  | .tuple xs, e => by rw [gd] at *; exact all xs e
  | .dict _, e => by simp [gd] at e
where all : ∀ xs : List PyData, gdAll N xs = true → gdAll N' xs = true
  | [], _ => rfl
  | x :: r, e => by
    rw [gdAll, Bool.and_eq_true] at *
    exact ⟨gd_mono h x e.1, all r e.2⟩
/-- what may stand in a thing's place -/
structure Bn (N : Nat) (d y : PyData) : Prop where
  g : gd (N + 1) y = true
  w : y.bulk ≤ 9 * d.bulk + 1000
  p : y.depth ≤ d.depth + 4
def okC (d : PyData) : Bool := gd 65536 d && decide (d.bulk ≤ 1000) && decide (d.depth ≤ 4)
theorem Bn.of (hN : 65536 ≤ N) {y : PyData} (h : okC y = true) : Bn N d y := by
  unfold okC at h
  rw [Bool.and_eq_true, Bool.and_eq_true] at h
  have h1 := of_decide_eq_true h.1.2
  have h2 := of_decide_eq_true h.2
  exact ⟨gd_mono (by omega) y h.1.1, by omega, by omega⟩
theorem asc_int (i : Int) : ((toString i : String) : Str).cps.toList.all (fun c => decide (c < 128)) = true := by
  rw [show ((toString i : String) : Str) = Str.ofString (toString i) from rfl, Str.ofString_eq_toList, List.all_eq_true]
  intro c m
  obtain ⟨x, hx, rfl⟩ := List.mem_map.mp m
  exact decide_eq_true (PySem.int_ascii i x hx)
theorem len_int (hN : N < 10 ^ 12) {i : Int} (h : gd N (.int i) = true) : ((toString i : String) : Str).length ≤ 13 := by
  have := short_gd hN _ h
  rw [PyData.intsShort] at this
  exact of_decide_eq_true this
theorem asc_app {x y : Str} (h : x.cps.toList.all (fun c => decide (c < 128)) = true) (g : y.cps.toList.all (fun c => decide (c < 128)) = true) : (x ++ y).cps.toList.all (fun c => decide (c < 128)) = true := by
  show (x.cps ++ y.cps).toList.all _ = true
  rw [Array.toList_append, List.all_append, h, g]; rfl
theorem asc_upper {x : Str} (h : x.cps.toList.all (fun c => decide (c < 128)) = true) : (Txt.upper x).cps.toList.all (fun c => decide (c < 128)) = true := by
  have tab : ∀ c < 128, (Unicode.upperOf c).all (fun c => decide (c < 128)) = true := by decide +kernel
  rw [List.all_eq_true]
  intro c m
  have m : c ∈ (placed x fun _ c => Unicode.upperOf c).toList := m
  unfold placed at m
  rw [Array.mem_toList_iff, Array.mem_flatten] at m
  obtain ⟨l, ml, mc⟩ := m
  rw [Array.mem_mapIdx] at ml
  obtain ⟨i, hi, rfl⟩ := ml
  have h1 := of_decide_eq_true (List.all_eq_true.mp h x.cps[i] (Array.mem_toList_iff.mpr (Array.getElem_mem hi)))
  exact List.all_eq_true.mp (tab _ h1) c (by simpa using mc)
theorem asc_rep {x : Str} (n : Nat) (h : x.cps.toList.all (fun c => decide (c < 128)) = true) : (repS x n).cps.toList.all (fun c => decide (c < 128)) = true := by
  show ((List.replicate n x.cps.toList).flatten.toArray).toList.all _ = true
  rw [List.all_eq_true] at *
  intro c m
  obtain ⟨l, m1, m2⟩ := List.mem_flatten.mp m
  rw [(List.mem_replicate.mp m1).2] at m2
  exact h c m2
theorem len_rep (x : Str) (n : Nat) : (repS x n).length = n * x.length := by
  show ((List.replicate n x.cps.toList).flatten.toArray).size = _
  rw [List.size_toArray, flat_len, Array.length_toList]; rfl
theorem bt_str {s y : Str} (hy : y.cps.toList.all (fun c => decide (c < 128)) = true) (hl : y.length ≤ 9 * s.length + 900) : Bn N (.str s) (.str y) :=
  ⟨by rw [gd]; exact hy, by show y.length ≤ 9 * s.length + 1000; omega, Nat.zero_le _⟩
theorem wUpper {x : Str} : wO (opt κ (upperF κ x [])) q = (x.length ≤ 5000000 ∧ q (.d (.str (Txt.upper x))) κ) := wIf2
theorem wStrI {i : Int} : wO (opt κ (cal1 strB κ [.d (.int i)])) q = (i.natAbs.log2 < 1920 ∧ q (.d (.str (toString i))) κ) := by
  show wO (opt κ ((if i.natAbs.log2 < 1920 then some (PyData.str (toString i)) else none).map DV.d)) q = _
  by_cases h : i.natAbs.log2 < 1920
  · rw [if_pos h]; exact propext ⟨fun z => ⟨h, z⟩, fun z => z.2⟩
  · rw [if_neg h]; exact propext ⟨fun z => z.elim, fun z => h z.1⟩
theorem wStrBl {k : Bool} : wO (opt κ (cal1 strB κ [.d (.bool k)])) q = q (.d (.str (if k = true then "True" else "False"))) κ := propext Iff.rfl
theorem wNegI {i : Int} : wO (opt κ (negB κ (.d (.int i)))) q = q (.d (.int (-i))) κ := propext Iff.rfl
theorem wNegBl {k : Bool} : wO (opt κ (negB κ (.d (.bool k)))) q = q (.d (.int (-bz k))) κ := propext Iff.rfl
theorem wAddBl {k : Bool} {i : Int} : wO (opt κ (addB κ (.d (.bool k)) (.d (.int i)))) q = q (.d (.int (bz k + i))) κ := propext Iff.rfl
theorem wSubBl {k : Bool} {i : Int} : wO (opt κ (subB κ (.d (.bool k)) (.d (.int i)))) q = q (.d (.int (bz k - i))) κ := propext Iff.rfl
theorem mem_rep {n : Nat} {l : List PyData} {y : PyData} (m : y ∈ (List.replicate n l).flatten) : y ∈ l := by
  obtain ⟨t, m1, m2⟩ := List.mem_flatten.mp m
  rw [(List.mem_replicate.mp m1).2] at m2
  exact m2
theorem gd_cons {x : PyData} {r : List PyData} : gdAll N (x :: r) = (gd N x && gdAll N r) := rfl
theorem bulk_split {xs : List PyData} {i : Nat} {x : PyData} (e : xs[i]? = some x) (y : PyData) : PyData.bulkAll (xs.set i y) + x.bulk = PyData.bulkAll xs + y.bulk ∧ PyData.bulkAll (xs.eraseIdx i) ≤ PyData.bulkAll xs ∧ PyData.bulkAll (xs.take i ++ [y] ++ xs.drop i) = PyData.bulkAll xs + y.bulk + 1 ∧ x.bulk + 1 ≤ PyData.bulkAll xs := by
  induction xs generalizing i with
  | nil => simp at e
  | cons z r ih =>
    cases i with
    | zero =>
      simp only [List.getElem?_cons_zero, Option.some.injEq] at e
      subst e
      simp only [List.set_cons_zero, List.eraseIdx_cons_zero, List.take_zero, List.drop_zero, List.nil_append, List.cons_append, PyData.bulkAll]
      omega
    | succ i =>
      rw [List.getElem?_cons_succ] at e
      obtain ⟨h1, h2, h3, h4⟩ := ih e
      simp only [List.set_cons_succ, List.eraseIdx_cons_succ, List.take_succ_cons, List.drop_succ_cons, List.cons_append, PyData.bulkAll] at h3 ⊢
      omega
theorem bulk_rev (xs : List PyData) : PyData.bulkAll xs.reverse = PyData.bulkAll xs := by
  have app : ∀ a b : List PyData, PyData.bulkAll (a ++ b) = PyData.bulkAll a + PyData.bulkAll b := fun a b => by
    induction a with
    | nil => simp [PyData.bulkAll]
    | cons x r ih => rw [List.cons_append, PyData.bulkAll, PyData.bulkAll, ih]; omega
  induction xs with
  | nil => rfl
  | cons x r ih => rw [List.reverse_cons, app, ih]; simp only [PyData.bulkAll]; omega
/-- a row of things in the place of another row -/
structure Br (N : Nat) (xs ys : List PyData) : Prop where
  g : ∀ y ∈ ys, gd (N + 1) y = true
  w : PyData.bulkAll ys ≤ 9 * PyData.bulkAll xs + 1000
  p : ∀ y ∈ ys, y.depth ≤ PyData.depthAll xs + 4
theorem dep_mem {xs : List PyData} {x : PyData} (m : x ∈ xs) : x.depth ≤ PyData.depthAll xs := by
  induction xs with
  | nil => cases m
  | cons y r ih =>
    rw [PyData.depthAll]
    rcases List.mem_cons.mp m with rfl | m
    · exact Nat.le_max_left _ _
    · exact Nat.le_trans (ih m) (Nat.le_max_right _ _)
theorem Br.own {xs ys : List PyData} (hg : ∀ x ∈ xs, gd N x = true) (hm : ∀ y ∈ ys, y ∈ xs) (hw : PyData.bulkAll ys ≤ 9 * PyData.bulkAll xs + 1000) : Br N xs ys :=
  ⟨fun y m => gd_mono (Nat.le_succ _) y (hg y (hm y m)), hw, fun y m => Nat.le_trans (dep_mem (hm y m)) (Nat.le_add_right _ _)⟩
theorem Br.tup {xs ys : List PyData} (h : Br N xs ys) : Bn N (.tuple xs) (.tuple ys) ∧ Bn N (.tuple xs) (.list ys) ∧ Bn N (.list xs) (.tuple ys) ∧ Bn N (.list xs) (.list ys) := by
  have g : gdAll (N + 1) ys = true := gdAll_iff.mpr h.g
  have w := h.w
  have p : PyData.depthAll ys ≤ PyData.depthAll xs + 4 := depthAll_le h.p
  refine ⟨⟨?_, ?_, ?_⟩, ⟨?_, ?_, ?_⟩, ⟨?_, ?_, ?_⟩, ⟨?_, ?_, ?_⟩⟩ <;> first | (rw [gd]; exact g) | (simp only [PyData.bulk]; omega) | (simp only [PyData.depth]; omega)
/-- the cell of a bent row -/
theorem cell_ret {κF l : Kap} {i : Nat} {ys : List PyData} {n : Nat} (hj : j < κ.length) (hk : KOk κ) (hF : κF = κ.set j (bx a b c) ++ l) (hi : κ.length ≤ i) (hc : κF[i]? = some (cl ys)) (hn : n = κ.length) :
    (wO (fin n (OutS.rt (.c i) κF)) q = q (.n ys) (κ.set j (bx a b c))) ∧ (∀ q' : DV → Kap → Prop, wO (opt κF (tupleD κF [.c i])) q' = q' (.d (.tuple ys)) κF) ∧ ∀ x : PyData, wO (fin n (OutS.rt (.d x) κF)) q = q (.d x) (κ.set j (bx a b c)) := by
  have hl : lv κF (.c i) = some ys := by
    unfold lv
    dsimp only
    rw [hc]
    exact allD_map ys
  refine ⟨?_, fun q' => ?_, fun x => ?_⟩
  · rw [hF] at hl ⊢
    exact finC hk.set (by rw [hn, List.length_set]) (by rw [hn]; exact hi) hl
  · have : tupleD κF [.c i] = some (.d (.tuple ys)) := by
      show (lvS κF (.c i)).map _ = _
      have : lvS κF (.c i) = some ys := hl
      rw [this]; rfl
    rw [this]; exact propext Iff.rfl
  · rw [hF]
    exact finD hk.set (by rw [hn, List.length_set])
theorem erase_map {α β : Type} (f : α → β) : ∀ (l : List α) (i : Nat), (l.map f).eraseIdx i = (l.eraseIdx i).map f
  | [], _ => rfl
  | _ :: _, 0 => rfl
  | x :: r, i + 1 => by rw [List.map_cons, List.eraseIdx_cons_succ, List.eraseIdx_cons_succ, List.map_cons, erase_map f r i]
theorem popAt_w {ds : List PyData} {i : Int} (h0 : 0 ≤ i) (h1 : i < ds.length) (h2 : ds.length ≤ 1000000) : ∃ x, popAtF (ds.map .d) [.d (.int i)] = some (.d x, (ds.eraseIdx i.toNat).map .d) ∧ ds[i.toNat]? = some x := by
  obtain ⟨x, _, e, _⟩ := atI_mem h0 h1
  refine ⟨x, ?_, e⟩
  show (if 0 ≤ i ∧ i < 1000000 then ((ds.map DV.d)[i.toNat]?).map fun y => (y, (ds.map DV.d).eraseIdx i.toNat) else none) = _
  rw [if_pos ⟨h0, by omega⟩, List.getElem?_map, e, erase_map]; rfl
theorem ins_w {ds : List PyData} {i : Int} {x : PyData} (h0 : 0 ≤ i) (h1 : i < ds.length) (h2 : ds.length < 1000000) : insF (ds.map .d) [.d (.int i), .d x] = some (.d .none, (ds.take i.toNat ++ [x] ++ ds.drop i.toNat).map .d) := by
  show (if (ds.map DV.d).length < 1000000 ∧ 0 ≤ i ∧ i < 1000000 then some (DV.d PyData.none, (ds.map DV.d).take i.toNat ++ [DV.d x] ++ (ds.map DV.d).drop i.toNat) else none) = _
  rw [if_pos ⟨by rw [List.length_map]; exact h2, h0, by omega⟩]
  simp
theorem wIsnT : wO (opt κ (isnD κ (.d (.bool true)) (.d (.bool true)))) q = q (.d (.bool false)) κ := propext Iff.rfl
theorem Bn.lay {N W D : Nat} {m y : PyData} (h : Bn N m y) (w : m.bulk ≤ W) (p : m.depth ≤ D) : Gd (N + 1) (9 * W + 1000) (D + 4) y := ⟨h.g, by have := h.w; omega, by have := h.p; omega⟩
def isIt : PyData → Bool
  | .int _ => true
  | _ => false
theorem isIt_ex {x : PyData} (h : isIt x = true) : ∃ i, x = .int i := by
  cases x with
  | int i => exact ⟨i, rfl⟩
  | _ => cases h
theorem wAbs {i : Int} : wO (opt κ (cal1 absF κ [.d (.int i)])) q = q (.d (.int (if i < 0 then -i else i))) κ := propext Iff.rfl
theorem wSlC {xs : List PyData} {lo hi : Option Int} : wO (opt κ (slD κ (.d (scr xs)) lo hi)) q = q (.n (DL.cutD xs lo hi)) κ := propext Iff.rfl
theorem wListL {xs : List PyData} : wO (opt κ (listD κ [.d (.list xs)])) q = q (.n xs) κ := propext Iff.rfl
theorem lvN {xs : List PyData} : lv κ (.n xs) = some xs := rfl
theorem wEnumE {ma : MA} {ρ : Rho} {qi : List PyData → Kap → Prop} : wO (mEnum ma ρ κ) qi = wO (ma ρ κ) fun xs κ1 => match xs with
    | [.d (.list ds)] => qi (enumD 0 ds) κ1
    | _ => False := by
  unfold mEnum; simp only [wO_bind]; congr 1; funext x κ1
  rcases x with _ | ⟨x, _ | ⟨y, r⟩⟩
  · rfl
  · cases x with
    | d y => cases y <;> rfl
    | c i => rfl
    | n xs => rfl
  · cases x with
    | d y => cases y <;> rfl
    | c i => rfl
    | n xs => rfl
theorem isIt_cut {xs : List PyData} (h : ∀ x ∈ xs, isIt x = true) {lo hi : Option Int} : ∀ x ∈ DL.cutD xs lo hi, isIt x = true := fun x m => h x (cutD_mem x m)
def isT0 : Out DV → Bool
  | .ok (.d (.bool true)) [] => true
  | _ => false
theorem isT0_ok {o : Out DV} (h : isT0 o = true) : o = .ok (.d (.bool true)) [] := by
  unfold isT0 at h
  split at h
  · rfl
  · cases h
end
end Law

namespace Law
open DL L2 PyProof.Rows PySem PySem.Spec
section
variable {κ : Kap} {ρ : Rho} {j N : Nat} {a b c : Int} {q : DV → Kap → Prop} {d : PyData} {m m1 m2 : ME} {qp : List (Key × DV) → Kap → Prop} {qi : List PyData → Kap → Prop} {ma : MA}
/-! ### dicts -/
theorem wDget : wO (mDget m1 m2 ρ κ) q = wO (m1 ρ κ) fun x κ1 => wO (m2 ρ κ1) fun y κ2 => match x, y with
    | .d (.dict kvs), .d k => (match dgetD kvs k with
      | some v => q (.d v) κ2
      | none => False)
    | _, _ => False := by
  unfold mDget; simp only [wO_bind]; congr 1; funext x κ1; congr 1; funext y κ2
  cases x with
  | d x =>
    cases x with
    | dict kvs =>
      cases y with
      | d k => dsimp only; cases dgetD kvs k <;> rfl
      | _ => rfl
    | _ => rfl
  | _ => rfl
def dinO (p : Bool) (y x : DV) (κ2 : Kap) : Out DV := match y, x with
  | .d k, .d (.dict kvs) => match keyOf k, kvs with
    | some _, [(.none, _)] => .bad
    | some _, [(.bool _, _)] => .bad
    | some _, kvs => .ok (.d (bool2 p (dgetD kvs k).isSome)) κ2
    | none, _ => .bad
  | _, _ => .bad
theorem wDin {p : Bool} : wO (mDin p m1 m2 ρ κ) q = wO (m1 ρ κ) fun y κ1 => wO (m2 ρ κ1) fun x κ2 => wO (dinO p y x κ2) q := by
  unfold mDin; simp only [wO_bind]; rfl
theorem wDinS {p : Bool} {x y : Str} {v : PyData} {r : List (PyData × PyData)} : wO (dinO p (.d (.str x)) (.d (.dict ((.str y, v) :: r))) κ) q = q (.d (bool2 p (dgetD ((.str y, v) :: r) (.str x)).isSome)) κ := by
  have : dinO p (.d (.str x)) (.d (.dict ((.str y, v) :: r))) κ = .ok (.d (bool2 p (dgetD ((.str y, v) :: r) (.str x)).isSome)) κ := by
    cases r <;> rfl
  rw [this]; exact propext Iff.rfl
theorem wPNil : wO (mPNil ρ κ) qp = qp [] κ := propext Iff.rfl
theorem wPCons {k : Key} {r : MP} : wO (mPCons k m r ρ κ) qp = wO (m ρ κ) fun x κ1 => wO (r ρ κ1) fun xs κ2 => qp ((k, fz x) :: xs) κ2 := by
  unfold mPCons; simp only [wO_bind]; rfl
theorem wDisp {r : MP} : wO (mDisp r ρ κ) q = wO (r ρ κ) fun xs κ1 => match allKD xs with
    | some ds => ((xs.map (·.1)).Nodup ∧ xs.length ≤ 15) ∧ q (.d (.dict ds)) κ1
    | none => False := by
  unfold mDisp; simp only [wO_bind]; congr 1; funext xs κ1
  cases allKD xs with
  | none => rfl
  | some ds =>
    dsimp only
    by_cases h : (xs.map (·.1)).Nodup ∧ xs.length ≤ 15
    · rw [if_pos h]; exact propext ⟨fun z => ⟨h, z⟩, fun z => z.2⟩
    · rw [if_neg h]; exact propext ⟨fun z => z.elim, fun z => h z.1⟩
theorem wCallV {i : Nat} {t : Str → Option MF} {x : Str} {f : MF} (e : ρ[i]? = some (some (.d (fnD x)))) (e2 : t x = some f) : wO (mCallV i t ma ρ κ) q = wO (ma ρ κ) fun xs κ1 => wO (f xs κ1) q := by
  unfold mCallV; rw [e]; simp only [e2]; exact wCall
theorem tblHit {x : Str} {f : MF} {l : List (Str × MF)} : tblOf ((x, f) :: l) x = some f := by rw [tblOf, beq_self_eq_true, if_pos rfl]
theorem tblMiss {x y : Str} {f : MF} {l : List (Str × MF)} (h : (y == x) = false) : tblOf ((y, f) :: l) x = tblOf l x := by rw [tblOf, h, if_neg Bool.false_ne_true]
theorem dgetHit {x : Str} {v : PyData} {r : List (PyData × PyData)} : dgetD ((.str x, v) :: r) (.str x) = some v := by rw [dgetD, keyD, beq_self_eq_true, if_pos rfl]
theorem dgetMiss {x y : Str} {v : PyData} {r : List (PyData × PyData)} (h : (x == y) = false) : dgetD ((.str x, v) :: r) (.str y) = dgetD r (.str y) := by rw [dgetD, keyD, h, if_neg Bool.false_ne_true]
theorem dgetCons {x y : Str} {v : PyData} {r : List (PyData × PyData)} : dgetD ((.str x, v) :: r) (.str y) = if (x == y) = true then some v else dgetD r (.str y) := by rw [dgetD, keyD]
theorem dgetNil {y : PyData} : dgetD [] y = none := rfl
/-! ### comparisons of known kinds -/
theorem wEqNS {x : Str} : wO (opt κ (eqD κ (.d .none) (.d (.str x)))) q = q (.d (.bool false)) κ := by
  have : eqD κ (.d .none) (.d (.str x)) = some (.d (.bool false)) := by
    unfold eqD eqDV dat
    simp [PyData.hasDict, PyData.depth, PyData.eqv]
  rw [this]; exact propext Iff.rfl
theorem wEqB {x y : Bool} : wO (opt κ (eqD κ (.d (.bool x)) (.d (.bool y)))) q = q (.d (.bool (x == y))) κ := by
  have : eqD κ (.d (.bool x)) (.d (.bool y)) = some (.d (.bool (x == y))) := by
    unfold eqD eqDV dat
    cases x <;> cases y <;> simp [PyData.hasDict, PyData.depth, PyData.eqv]
  rw [this]; exact propext Iff.rfl
theorem wIsN : wO (opt κ (isD κ (.d d) (.d .none))) q = q (.d (.bool (isNone d))) κ := by
  cases d <;> exact propext Iff.rfl
theorem wIsnN : wO (opt κ (isnD κ (.d d) (.d .none))) q = q (.d (.bool (!isNone d))) κ := by
  cases d <;> exact propext Iff.rfl
/-- a text within texts -/
def strL (xs : List Str) : List PyData := xs.map .str
theorem flat_strL (xs : List Str) : (strL xs).all flatD = true := by
  rw [strL, List.all_map]; exact List.all_eq_true.mpr fun _ _ => rfl
theorem any_strL (xs : List Str) (x : Str) : ((strL xs).any fun y => PyData.eqv y (.str x)) = xs.any (· == x) := by
  rw [strL, List.any_map]; rfl
theorem wInT {x : Str} {xs : List Str} : wO (opt κ (inD κ (.d (.str x)) (.d (.tuple (strL xs))))) q = q (.d (.bool (xs.any (· == x)))) κ := by
  have : inD κ (.d (.str x)) (.d (.tuple (strL xs))) = some (.d (.bool (xs.any (· == x)))) := by
    unfold inD inDV
    dsimp only
    rw [if_pos ⟨rfl, flat_strL xs⟩, any_strL]; rfl
  rw [this]; exact propext Iff.rfl
theorem wNinT {x : Str} {xs : List Str} : wO (opt κ (ninD κ (.d (.str x)) (.d (.tuple (strL xs))))) q = q (.d (.bool (!xs.any (· == x)))) κ := by
  have : ninD κ (.d (.str x)) (.d (.tuple (strL xs))) = some (.d (.bool (!xs.any (· == x)))) := by
    unfold ninD inDV
    dsimp only
    rw [if_pos ⟨rfl, flat_strL xs⟩, any_strL]; rfl
  rw [this]; exact propext Iff.rfl
theorem wNinNT {xs : List Str} : wO (opt κ (ninD κ (.d .none) (.d (.tuple (strL xs))))) q = q (.d (.bool true)) κ := by
  have : ninD κ (.d .none) (.d (.tuple (strL xs))) = some (.d (.bool true)) := by
    unfold ninD inDV
    dsimp only
    rw [if_pos ⟨rfl, flat_strL xs⟩]
    have : ((strL xs).any fun y => PyData.eqv y .none) = false := by
      rw [strL, List.any_map, List.any_eq_false]
      intro x _
      simp [PyData.eqv]
    rw [this]; rfl
  rw [this]; exact propext Iff.rfl
theorem wInNT {xs : List Str} : wO (opt κ (inD κ (.d .none) (.d (.tuple (strL xs))))) q = q (.d (.bool false)) κ := by
  have : inD κ (.d .none) (.d (.tuple (strL xs))) = some (.d (.bool false)) := by
    unfold inD inDV
    dsimp only
    rw [if_pos ⟨rfl, flat_strL xs⟩]
    have : ((strL xs).any fun y => PyData.eqv y .none) = false := by
      rw [strL, List.any_map, List.any_eq_false]
      intro x _
      simp [PyData.eqv]
    rw [this]; rfl
  rw [this]; exact propext Iff.rfl
/-- a sign within a text -/
theorem wInC {x : Nat} {y : Str} : wO (opt κ (inD κ (.d (.str ⟨#[x]⟩)) (.d (.str y)))) q = q (.d (.bool (decide (x ∈ y.cps.toList)))) κ := propext Iff.rfl
theorem wOrdC {x : Nat} : wO (opt κ (cal1 ordF κ [.d (.str ⟨#[x]⟩)])) q = q (.d (.int x)) κ := propext Iff.rfl
theorem wNeL {x : Int} {n : Nat} : wO (opt κ (neD κ (.d (.int x)) (.d (.int n)))) q = q (.d (.bool (!(x == (n : Int))))) κ := wNeI
/-! ### divmod, split, zip -/
theorem wDivm {x y : Int} : wO (opt κ (divmodD κ [.d (.int x), .d (.int y)])) q = ((0 < y ∧ y < 1073741824) ∧ q (.d (.tuple [.int (x / y), .int (x % y)])) κ) := wIf2
theorem wDivmod {x y : Int} (h : 0 < y ∧ y < 1073741824) : wO (opt κ (divmodD κ [.d (.int x), .d (.int y)])) q = q (.d (.tuple [.int (x / y), .int (x % y)])) κ := by
  have : divmodD κ [.d (.int x), .d (.int y)] = some (.d (.tuple [.int (x / y), .int (x % y)])) := by
    unfold divmodD
    simp [h]
  rw [this]; exact propext Iff.rfl
/-! ### what a text is made of -/
def wordC (c : Nat) : Bool := decide (97 ≤ c ∧ c ≤ 122) || decide (48 ≤ c ∧ c ≤ 57)
def isS (lo hi : Int) (P : Nat → Bool) : PyData → Bool
  | .str x => decide (lo ≤ (x.length : Int)) && decide ((x.length : Int) ≤ hi) && x.cps.toList.all P
  | _ => false
abbrev isN : PyData → Bool := isS 1 8 small
abbrev isWd : PyData → Bool := isS 1 12 wordC
abbrev isTx : PyData → Bool := isS 1 40 plainC
def isAd : PyData → Bool
  | .tuple [x, y] => isN x && isN y
  | _ => false
theorem word_mem (c : Nat) : decide (c ∈ ("abcdefghijklmnopqrstuvwxyz0123456789" : Str).cps.toList) = wordC c := by
  rw [show ("abcdefghijklmnopqrstuvwxyz0123456789" : Str).cps.toList = (List.range 26).map (· + 97) ++ (List.range 10).map (· + 48) by decide +kernel]
  unfold wordC
  rw [← Bool.decide_or]
  refine decide_eq_decide.mpr ⟨fun m => ?_, fun m => ?_⟩
  · rcases List.mem_append.mp m with m | m
    · obtain ⟨i, hi, rfl⟩ := List.mem_map.mp m
      have := List.mem_range.mp hi
      omega
    · obtain ⟨i, hi, rfl⟩ := List.mem_map.mp m
      have := List.mem_range.mp hi
      omega
  · rcases m with m | m
    · exact List.mem_append_left _ (List.mem_map.mpr ⟨c - 97, List.mem_range.mpr (by omega), by omega⟩)
    · exact List.mem_append_right _ (List.mem_map.mpr ⟨c - 48, List.mem_range.mpr (by omega), by omega⟩)
/-- tests, by what those are that have no other one in them -/
def isTs (leaf : PyData → Bool) : Nat → PyData → Bool
  | 0, _ => false
  | k + 1, d => leaf d || (match d with
    | .tuple (.str w :: r) => if w == ("not" : Str) then decide (r.length = 1) && r.all (isTs leaf k) else ((w == ("both" : Str) || w == ("any" : Str)) && (decide (r.length = 2) && r.all (isTs leaf k)))
    | _ => false)
def formW (w : Str) (x : PyData) : Bool :=
  if w == ("from" : Str) || w == ("to" : Str) || w == ("on" : Str) then isAd x
  else if w == ("word" : Str) then isWd x
  else if w == ("about" : Str) || w == ("answer" : Str) then isTx x
  else if w == ("longer" : Str) then isIn 0 9999 x
  else if w == ("since" : Str) then isIn 0 400 x
  else isN x
/-- a pair of one of some words and what it has -/
def isForm (ws : List Str) : PyData → Bool
  | .tuple [.str w, x] => ws.any (· == w) && formW w x
  | _ => false
def isPl (ws : List Str) : PyData → Bool
  | .tuple [.str w] => w == ("auto" : Str)
  | d => isForm ws d
end
end Law

namespace Law
open DL L2 PyProof.Rows PySem PySem.Spec
local macro_rules | `(tactic| walk_at "w") => `(tactic| simp only [wDef0, wDef1, wDef2, wDef3, List.replicate, Nat.reduceSub, wSeq, wIf, wTb, wTr, wBin, wUn, wVar, wC, wCal, wCall, wCallK, wNil, wCons, wConsC, wLst, wTup, wNotT, wAndT, wOrT, wAnd, wOr, wNotE, wIfE, wChain, wNext, wSet, wSetC, wRet, wDrop, wAsg, wPar, wFor, wLc, wYes, wSl, wNoP, wPt, wRng1, wSrcA, wSrcS, wIsI, wIsI2, wCm, wMs, wRev, wPar3, wPar3k, wZipA, wZipLL, Option.bind_some, wDivm, wDget, wPNil, wPCons, wDisp, wDin, wDinS, wEqS, wEqB, wEqNS, wIsN, wInC, wOrdC, wInT, wInNT, wNinT, wNinNT, ix0, ix1,
  wOpt, tK_some, bK_some, bK_le, bK_lt, wGtI, wLtI, wLeI, wGeI, wModI, wFdivI, wMulI, wAddI, wSubI, wEqI, wNeI, wSlL, wSlN, wSlT, wSlS, wLenL, wLenT, wLenS, wIntT, wTupleN, wMin2, wAddNN, wAddLN, wAddNL, wAddLL, wAddTT, wAddSS, wMulN, wMulT, wMulS, fz_d, fz_n, fz_c, allD, put, truD, bName, bTup, bCons, bNil, wipeR,
  List.getElem?_cons_zero, List.getElem?_cons_succ, List.set_cons_zero, List.set_cons_succ, List.length_set, List.length_cons, List.length_nil, Option.map_some, Option.map_none, if_true, Bool.false_eq_true, if_false, Bool.not_true, Bool.not_false, List.map_cons, List.map_nil, true_and, and_true, Nat.reduceAdd, Nat.reduceLeDiff])
local macro_rules | `(tactic| walk_at "b") => `(tactic| simp (disch := assumption) only [ixB0, ixB1, ixB2, DL.subB0, DL.subB2, Option.bind_some, wDef0, wDef1, wDef2, wDef3, List.replicate, Nat.reduceSub, wSeq, wIf, wTb, wTr, wBin, wUn, wVar, wC, wCal, wCall, wCallK, wNil, wCons, wConsC, wLst, wTup, wNotT, wAndT, wOrT, wAnd, wOr, wNotE, wIfE, wChain, wNext, wSet, wSetC, wRet, wDrop, wAsg, wPar, wFor, wLc, wYes, wSl, wNoP, wPt, wRng1, wSrcA, wSrcS, wIsI, wIsI2, wCm, wMs, wRev, wPar3, wPar3k, wZipA, wZipLL, Option.bind_some, wDivm, wDget, wPNil, wPCons, wDisp, wDin, wDinS, wEqS, wEqB, wEqNS, wIsN, wInC, wOrdC, wInT, wInNT, wNinT, wNinNT, ix0, ix1,
  wOpt, tK_some, bK_some, bK_le, bK_lt, wGtI, wLtI, wLeI, wGeI, wModI, wFdivI, wMulI, wAddI, wSubI, wEqI, wNeI, wSlL, wSlN, wSlT, wSlS, wLenL, wLenT, wLenS, wIntT, wTupleN, wMin2, wAddNN, wAddLN, wAddNL, wAddLL, wAddTT, wAddSS, wMulN, wMulT, wMulS, fz_d, fz_n, fz_c, allD, put, truD, bName, bTup, bCons, bNil, wipeR,
  List.getElem?_cons_zero, List.getElem?_cons_succ, List.set_cons_zero, List.set_cons_succ, List.length_set, List.length_cons, List.length_nil, Option.map_some, Option.map_none, if_true, Bool.false_eq_true, if_false, Bool.not_true, Bool.not_false, List.map_cons, List.map_nil, true_and, and_true, Nat.reduceAdd, Nat.reduceLeDiff])
local macro_rules | `(tactic| walk_at "t") => `(tactic| (try walk_at "w"))
section
variable {κ : Kap} {ρ : Rho} {j N : Nat} {a b c : Int} {q Q : DV → Kap → Prop} {d : PyData} {m m1 m2 : ME} {qi : List PyData → Kap → Prop} {ma : MA}
/-- a plain text of at most n signs, all of them below 128 -/
def isA (n : Nat) : PyData → Bool
  | .str x => decide (x.length ≤ n) && x.cps.toList.all fun c => decide (c < 128)
  | _ => false
theorem isA_ex {n : Nat} (h : isA n d = true) : ∃ x : Str, d = .str x ∧ x.length ≤ n ∧ x.cps.toList.all (fun c => decide (c < 128)) = true := by
  cases d with
  | str x => rw [isA, Bool.and_eq_true] at h; exact ⟨x, rfl, of_decide_eq_true h.1, h.2⟩
  | _ => cases h
theorem isA_mk {n : Nat} {x : Str} (h : x.length ≤ n) (g : x.cps.toList.all (fun c => decide (c < 128)) = true) : isA n (.str x) = true := by
  rw [isA, decide_eq_true h, g]; rfl
theorem isA_up {n m : Nat} (h : isA n d = true) (l : n ≤ m) : isA m d = true := by
  obtain ⟨x, rfl, h1, h2⟩ := isA_ex h
  exact isA_mk (Nat.le_trans h1 l) h2
theorem isA_gd {n : Nat} (h : isA n d = true) : Gd N n 0 d := by
  obtain ⟨x, rfl, h1, h2⟩ := isA_ex h
  exact gd_str h1 h2
theorem rng_mem {lo : Int} {n : Nat} {d : PyData} (m : d ∈ rngD lo n) : ∃ i : Int, d = .int i ∧ lo ≤ i ∧ i < lo + n := by
  unfold rngD at m
  obtain ⟨i, mi, rfl⟩ := List.mem_map.mp m
  have := List.mem_range.mp mi
  exact ⟨_, rfl, by omega, by omega⟩
theorem cutD_to {xs : List PyData} {k : Int} (h : 0 ≤ k) : (DL.cutD xs none (some k)).length = min k.toNat xs.length := by
  unfold DL.cutD
  rw [List.length_take, HT.sIx_none, List.drop_zero, show HT.sIx xs.length xs.length (some k) = min k.toNat xs.length by
    show (if k < 0 then _ else _) = _
    rw [if_neg (by omega)]]
  omega
theorem cutD_from {xs : List PyData} {k : Int} (h : 0 ≤ k) : (DL.cutD xs (some k) none).length = xs.length - k.toNat := by
  unfold DL.cutD
  rw [List.length_take, List.length_drop, HT.sIx_none, show HT.sIx xs.length 0 (some k) = min k.toNat xs.length by
    show (if k < 0 then _ else _) = _
    rw [if_neg (by omega)]]
  omega
theorem wSplit {x y : Str} (h : y.length ≠ 0 ∧ x.length ≤ 16000000) : wO (opt κ (splitF κ x [.d (.str y)])) q = q (.n ((Txt.split x y).map .str)) κ := by
  have : splitF κ x [.d (.str y)] = some (newStrs (Txt.split x y)) := by unfold splitF; simp only []; rw [if_pos h]
  rw [this]; exact propext Iff.rfl
def zipO (xs : List DV) (κ1 : Kap) : Out (List PyData) := match xs with
  | [.d (.list ds), .d (.list es)] => .ok (zipD ds es) κ1
  | [.d (.tuple ds), .d (.tuple es)] => .ok (zipD ds es) κ1
  | _ => .bad
theorem wZipA : wO (mZipA ma ρ κ) qi = wO (ma ρ κ) fun xs κ1 => wO (zipO xs κ1) qi := by
  unfold mZipA; simp only [wO_bind]; rfl
theorem wZipLL {ds es : List PyData} : wO (zipO [.d (.list ds), .d (.list es)] κ) qi = qi (zipD ds es) κ := propext Iff.rfl
theorem wZipTT {ds es : List PyData} : wO (zipO [.d (.tuple ds), .d (.tuple es)] κ) qi = qi (zipD ds es) κ := propext Iff.rfl
/-- the state behind a cell of one's own -/
theorem lvS_last {κ : Kap} {ds : List PyData} {x : Cell} (hj : j < κ.length) : lvS ((κ ++ [cl ds]).set j x) (.c κ.length) = some ds := by
  unfold lvS lv
  dsimp only
  rw [get_last hj]
  exact allD_map ds
theorem slCell {κ : Kap} {ds : List PyData} {x : Cell} {lo hi : Option Int} (hj : j < κ.length) : slD ((κ ++ [cl ds]).set j x) (.c κ.length) lo hi = some (.n (DL.cutD ds lo hi)) := by
  show (lvS _ (.c κ.length)).map _ = _
  rw [lvS_last hj]; rfl
theorem ixCell {κ : Kap} {ds : List PyData} {x : Cell} {i : Int} {y : PyData} (hj : j < κ.length) (h0 : 0 ≤ i) (h1 : i < ds.length) (e : ds[i.toNat]? = some y) : ixD ((κ ++ [cl ds]).set j x) (.c κ.length) (.d (.int i)) = some (.d y) := by
  unfold ixD
  simp only [get_last hj]
  show atI (ds.map DV.d) i = _
  unfold atI ixN
  rw [if_pos h0, if_pos (by rw [List.length_map]; exact h1)]
  show (ds.map DV.d)[i.toNat]? = _
  rw [List.getElem?_map, e]; rfl
theorem setCell {κ : Kap} {ds : List PyData} {x : Cell} {i : Int} {y : PyData} {s k : Nat} {ρ : Rho} (hj : j < κ.length) (h0 : 0 ≤ i) (h1 : i < ds.length) (hs : ρ[s]? = some (some (.c κ.length))) (hk : ρ[k]? = some (some (.d (.int i)))) :
    bSub (mVar s) (mVar k) (.d y) ρ ((κ ++ [cl ds]).set j x) = some (ρ, (κ ++ [cl (ds.set i.toNat y)]).set j x) := by
  unfold bSub
  simp only [mVar, hs, hk, get_last hj]
  have : ixN (ds.map DV.d).length i = some i.toNat := by
    unfold ixN
    rw [if_pos h0, if_pos (by rw [List.length_map]; exact h1)]
  rw [this]
  dsimp only
  rw [set_last hj, ← List.map_set]
theorem bulkA_app (a b : List PyData) : PyData.bulkAll (a ++ b) = PyData.bulkAll a + PyData.bulkAll b := by
  induction a with
  | nil => simp [PyData.bulkAll]
  | cons x r ih => rw [List.cons_append, PyData.bulkAll, PyData.bulkAll, ih]; omega
theorem bulkA_cut (xs : List PyData) (lo hi : Option Int) : PyData.bulkAll (DL.cutD xs lo hi) ≤ PyData.bulkAll xs := by
  unfold DL.cutD
  have h1 : ∀ (n : Nat) (ys : List PyData), PyData.bulkAll (ys.take n) ≤ PyData.bulkAll ys := fun n ys => by
    have := bulkA_app (ys.take n) (ys.drop n)
    rw [List.take_append_drop] at this; omega
  have h2 : ∀ (n : Nat) (ys : List PyData), PyData.bulkAll (ys.drop n) ≤ PyData.bulkAll ys := fun n ys => by
    have := bulkA_app (ys.take n) (ys.drop n)
    rw [List.take_append_drop] at this; omega
  exact Nat.le_trans (h1 _ _) (h2 _ _)
theorem ixT0 {x : PyData} {r : List PyData} : ixD κ (.d (.tuple (x :: r))) (.d (.int 0)) = some (.d x) := by
  show (atI (x :: r) 0).map DV.d = _
  unfold atI ixN
  rw [if_pos (Int.le_refl 0), if_pos (by rw [List.length_cons]; omega)]; rfl
theorem cut1 {x : PyData} {r : List PyData} : DL.cutD (x :: r) (some 1) none = r := by
  unfold DL.cutD
  have h1 : HT.sIx (x :: r).length 0 (some 1) = 1 := by
    rw [show HT.sIx (x :: r).length 0 (some 1) = min 1 (x :: r).length from HT.sIx_nat _ _ 1, List.length_cons]; omega
  have h2 : HT.sIx (x :: r).length (x :: r).length none = (x :: r).length := rfl
  rw [h1, h2, List.drop_succ_cons, List.drop_zero]
  exact List.take_of_length_le (by rw [List.length_cons]; omega)
theorem any3 {a b c w : Str} : List.any [a, b, c] (· == w) = (w == a || w == b || w == c) := by
  simp only [List.any_cons, List.any_nil, Bool.or_false, Bool.or_assoc]
  rw [Bool.beq_comm (a := a), Bool.beq_comm (a := b), Bool.beq_comm (a := c)]
theorem any2 {a b w : Str} : List.any [a, b] (· == w) = (w == a || w == b) := by
  simp only [List.any_cons, List.any_nil, Bool.or_false]
  rw [Bool.beq_comm (a := a), Bool.beq_comm (a := b)]
def par3S (i j l : Nat) (ρ : Rho) (xs : List DV) (κ1 : Kap) : OutS := match xs with
  | [x, y, z] => .nx (((ρ.set i (some x)).set j (some y)).set l (some z)) κ1
  | _ => .bad
theorem wPar3 {i j l : Nat} {Z : Po} : wP (mPar3 i j l ma ρ κ) Z = wO (ma ρ κ) fun xs κ1 => wP (par3S i j l ρ xs κ1) Z := by
  unfold mPar3; simp only [wP_bind]; rfl
theorem wPar3k {i j l : Nat} {Z : Po} {x y z : DV} : wP (par3S i j l ρ [x, y, z] κ) Z = Z.nx (((ρ.set i (some x)).set j (some y)).set l (some z)) κ := propext Iff.rfl
/-- a loop that goes back with False at the first that is none -/
theorem forAllB {G : MG} {s : MS} {P : PyData → Bool} {κ : Kap} {Z : Po} (I : Rho → Prop) : ∀ (ds : List PyData) (ρ : Rho), I ρ →
    (∀ d ∈ ds, ∀ (ρ : Rho) (Z' : Po), I ρ → (P d = true → ∀ ρ', I ρ' → Z'.nx ρ' κ) → (P d = false → Z'.rt (.d (.bool false)) κ) → match G (.d d) ρ κ with
      | none => False
      | some p => wP (s p.1 p.2) Z') →
    (∀ ρ, I ρ → ds.all P = true → Z.nx ρ κ) → (ds.all P = false → Z.rt (.d (.bool false)) κ) → wP (forGo G s ds ρ κ) Z
  | [], ρ, h0, _, hn, _ => hn ρ h0 rfl
  | d :: r, ρ, h0, hs, hn, hr => by
    rw [wForCons]
    refine hs d (List.mem_cons_self ..) ρ _ h0 (fun e ρ' h1 => ?_) (fun e => ?_)
    · refine forAllB I r ρ' h1 (fun d m => hs d (List.mem_cons_of_mem _ m)) (fun ρ h2 e2 => hn ρ h2 ?_) (fun e2 => hr ?_)
      · rw [List.all_cons, e, e2]; rfl
      · rw [List.all_cons, e, e2]; rfl
    · exact hr (by rw [List.all_cons, e]; rfl)
end

end Law

namespace Law
open DL L2 PyProof.Rows PySem PySem.Spec
local macro_rules | `(tactic| walk_at "w") => `(tactic| simp only [wDef0, wDef1, wDef2, wDef3, List.replicate, Nat.reduceSub, wSeq, wIf, wTb, wTr, wBin, wUn, wVar, wC, wCal, wCall, wCallK, wNil, wCons, wConsC, wLst, wTup, wNotT, wAndT, wOrT, wAnd, wOr, wNotE, wIfE, wChain, wNext, wSet, wSetC, wRet, wDrop, wAsg, wPar, wFor, wLc, wYes, wSl, wNoP, wPt, wRng1, wSrcA, wSrcS, wIsI, wIsI2, wCm, wMs, wRev, wPar3, wPar3k, wZipA, wZipLL, Option.bind_some, wDivm, wDget, wPNil, wPCons, wDisp, wDin, wDinS, wEqS, wEqB, wEqNS, wIsN, wInC, wOrdC, wInT, wInNT, wNinT, wNinNT, ix0, ix1,
  wOpt, tK_some, bK_some, bK_le, bK_lt, wGtI, wLtI, wLeI, wGeI, wModI, wFdivI, wMulI, wAddI, wSubI, wEqI, wNeI, wSlL, wSlN, wSlT, wSlS, wLenL, wLenT, wLenS, wIntT, wTupleN, wMin2, wAddNN, wAddLN, wAddNL, wAddLL, wAddTT, wAddSS, wMulN, wMulT, wMulS, fz_d, fz_n, fz_c, allD, put, truD, bName, bTup, bCons, bNil, wipeR,
  List.getElem?_cons_zero, List.getElem?_cons_succ, List.set_cons_zero, List.set_cons_succ, List.length_set, List.length_cons, List.length_nil, Option.map_some, Option.map_none, if_true, Bool.false_eq_true, if_false, Bool.not_true, Bool.not_false, List.map_cons, List.map_nil, true_and, and_true, Nat.reduceAdd, Nat.reduceLeDiff])
local macro_rules | `(tactic| walk_at "b") => `(tactic| simp (disch := assumption) only [ixB0, ixB1, ixB2, DL.subB0, DL.subB2, Option.bind_some, wDef0, wDef1, wDef2, wDef3, List.replicate, Nat.reduceSub, wSeq, wIf, wTb, wTr, wBin, wUn, wVar, wC, wCal, wCall, wCallK, wNil, wCons, wConsC, wLst, wTup, wNotT, wAndT, wOrT, wAnd, wOr, wNotE, wIfE, wChain, wNext, wSet, wSetC, wRet, wDrop, wAsg, wPar, wFor, wLc, wYes, wSl, wNoP, wPt, wRng1, wSrcA, wSrcS, wIsI, wIsI2, wCm, wMs, wRev, wPar3, wPar3k, wZipA, wZipLL, Option.bind_some, wDivm, wDget, wPNil, wPCons, wDisp, wDin, wDinS, wEqS, wEqB, wEqNS, wIsN, wInC, wOrdC, wInT, wInNT, wNinT, wNinNT, ix0, ix1,
  wOpt, tK_some, bK_some, bK_le, bK_lt, wGtI, wLtI, wLeI, wGeI, wModI, wFdivI, wMulI, wAddI, wSubI, wEqI, wNeI, wSlL, wSlN, wSlT, wSlS, wLenL, wLenT, wLenS, wIntT, wTupleN, wMin2, wAddNN, wAddLN, wAddNL, wAddLL, wAddTT, wAddSS, wMulN, wMulT, wMulS, fz_d, fz_n, fz_c, allD, put, truD, bName, bTup, bCons, bNil, wipeR,
  List.getElem?_cons_zero, List.getElem?_cons_succ, List.set_cons_zero, List.set_cons_succ, List.length_set, List.length_cons, List.length_nil, Option.map_some, Option.map_none, if_true, Bool.false_eq_true, if_false, Bool.not_true, Bool.not_false, List.map_cons, List.map_nil, true_and, and_true, Nat.reduceAdd, Nat.reduceLeDiff])
local macro_rules | `(tactic| walk_at "t") => `(tactic| (try walk_at "w"))
section
variable {κ : Kap} {ρ : Rho} {j N : Nat} {a b c : Int} {q Q : DV → Kap → Prop} {d : PyData} {m m1 m2 : ME} {qi : List PyData → Kap → Prop} {ma : MA} {Z : Po}
def augO (i : Nat) (ρ : Rho) (x : Option (Option DV)) (y : DV) (κ : Kap) : OutS := match x, y with
  | some (some (.d x)), .d y => match augF x y with
    | some z => .nx (ρ.set i (some (.d z))) κ
    | none => .bad
  | _, _ => .bad
theorem augS {i : Nat} {x : Str} (hr : ρ[i]? = some (some (.d (.str x)))) (h : wO (m ρ κ) fun y κ1 => ∃ s : Str, y = .d (.str s) ∧ x.length + s.length ≤ 16000000 ∧ Z.nx (ρ.set i (some (.d (.str (x ++ s))))) κ1) : wP (mAug i m ρ κ) Z := by
  unfold mAug
  rw [hr]
  simp only [wP_bind]
  refine h.mono fun y κ1 ⟨s, e, l, g⟩ => ?_
  subst e
  simp only [augF]
  rw [if_pos l]
  exact g
theorem strsD_map : ∀ ks : List Str, strsD (ks.map .str) = some ks
  | [] => rfl
  | k :: ks => by rw [List.map_cons, strsD, strsD_map ks]; rfl
theorem sortSetW {ks : List Str} {x : DV} (hx : lv κ x = some (ks.map .str)) (h : ks.length < 4000) (g : q (.n ((sortedL ks).map .str)) κ) : wO (opt κ (sortSetD κ [x])) q := by
  have e : sortSetD κ [x] = some (.n ((sortedL ks).map .str)) := by
    show ((lv κ x).bind fun ys => _) = _
    rw [hx]
    simp only [Option.bind_some, strsD_map]
    exact if_pos h
  rw [e]
  exact g
theorem wCallZ {f : MF} : wO (mCallZ f ma ρ κ) q = wO (ma ρ κ) fun xs κ1 => wO (match brwA κ1 xs with
    | some ds => lentO κ1 (f (ds.map .d) [])
    | none => .bad) q := by
  unfold mCallZ; simp only [wO_bind] <;> rfl
theorem lent_w {o : Out DV} {κ1 : Kap} {x : PyData} (hp : plainD x = true) (h : wO o fun y _ => y = .d x) (g : q (.d x) κ1) : wO (lentO κ1 o) q := by
  cases o with
  | ok y κ2 =>
    have h : y = .d x := h
    subst h
    unfold lentO
    dsimp only
    rw [if_pos hp]
    exact g
  | _ => exact h.elim
/-- two clauses: each outer item gives the items of its list, as they are -/
theorem lc2Flat {G : MG} {src1 : MI} {i1 : Nat} {vs1 : List Nat} {ρ : Rho} {A : Type} {f : A → PyData} {F : A → List PyData} : ∀ (ds : List A) (acc : List PyData), (∀ d ∈ ds, ∃ ρ', G (.d (f d)) ρ κ = some (ρ', κ) ∧ i1 < ρ'.length ∧ vs1 = [i1] ∧ ∀ q : List PyData → Kap → Prop, q (F d) κ → wO (src1 ρ' κ) q) →
    acc.length + (ds.map F).flatten.length ≤ 1000000 → q (.n (acc ++ (ds.map F).flatten)) κ → wO (lcGo2 G mYes src1 vs1 (bName i1) mYes (mVar i1) ρ (ds.map f) acc κ) q
  | [], acc, _, _, h => by
    have h : q (.n (acc ++ [])) κ := h
    rw [List.append_nil] at h
    exact h
  | d :: r, acc, hs, hl, h => by
    obtain ⟨ρ', e1, e2, e3, e4⟩ := hs d List.mem_cons_self
    subst e3
    rw [List.map_cons, List.flatten_cons] at hl h
    rw [List.map_cons]
    rw [List.length_append] at hl
    simp only [lcGo2, e1, wO_bind, wO_noex, wYes, if_true]
    refine e4 _ ?_
    have inner : ∀ (es ac : List PyData), ac.length + es.length ≤ 1000000 → lcGo (bName i1) mYes (mVar i1) (wipeR ρ' [i1]) es ac κ = .ok (.n (ac ++ es)) κ := by
      intro es
      induction es with
      | nil => intro ac _; rw [List.append_nil]; rfl
      | cons x es ih =>
        intro ac hl
        rw [List.length_cons] at hl
        have hg : ((wipeR ρ' [i1]).set i1 (some (.d x)))[i1]? = some (some (DV.d x)) := by
          rw [List.getElem?_set_self]
          show i1 < (wipeR ρ' [i1]).length
          simp only [wipeR, List.length_set]
          exact e2
        unfold lcGo
        simp only [bName, mYes, noex, Out.bind, if_true, mVar, hg, fz]
        rw [if_pos (by omega), ih _ (by rw [List.length_append, List.length_singleton]; omega), List.append_assoc]
        rfl
    rw [inner (F d) acc (by omega)]
    exact lc2Flat r _ (fun d m => hs d (List.mem_cons_of_mem _ m)) (by rw [List.length_append]; omega) (by rw [List.append_assoc]; exact h)
theorem wLc2 {src : MI} {G G1 : MG} {t t1 : MT} {src1 : MI} {el : ME} {vs vs1 : List Nat} : wO (mLc2 src G t src1 vs1 G1 t1 el vs ρ κ) q = wO (src ρ κ) fun ds κ1 => wO (lcGo2 G t src1 vs1 G1 t1 el (wipeR ρ vs) ds [] κ1) q := by
  unfold mLc2; simp only [wO_bind]
/-- a comprehension of one clause with a test, reading alone -/
theorem lcFilt {G : MG} {t : MT} {el : ME} {ρ : Rho} {F : PyData → PyData} {P : PyData → Bool} : ∀ (ds acc : List PyData), (∀ d ∈ ds, ∃ ρ', G (.d d) ρ κ = some (ρ', κ) ∧ (∀ qt : Bool → Kap → Prop, qt (P d) κ → wO (t ρ' κ) qt) ∧ (P d = true → ∀ q : DV → Kap → Prop, q (.d (F d)) κ → wO (el ρ' κ) q)) →
    acc.length + ds.length ≤ 1000000 → q (.n (acc ++ (ds.filter P).map F)) κ → wO (lcGo G t el ρ ds acc κ) q
  | [], acc, _, _, h => by
    have h : q (.n (acc ++ [])) κ := h
    rw [List.append_nil] at h
    exact h
  | d :: r, acc, hs, hl, h => by
    obtain ⟨ρ', e1, e2, e3⟩ := hs d List.mem_cons_self
    rw [List.length_cons] at hl
    unfold lcGo
    simp only [e1, wO_bind, wO_noex]
    refine e2 _ ?_
    cases e : P d with
    | false =>
      simp only [Bool.false_eq_true, if_false]
      refine lcFilt r acc (fun d m => hs d (List.mem_cons_of_mem _ m)) (by omega) ?_
      rw [List.filter_cons_of_neg (by rw [e]; exact Bool.false_ne_true)] at h
      exact h
    | true =>
      simp only [if_true, wO_bind, wO_noex]
      refine e3 e _ ?_
      simp only [fz]
      rw [if_pos (by omega)]
      refine lcFilt r _ (fun d m => hs d (List.mem_cons_of_mem _ m)) (by rw [List.length_append, List.length_singleton]; omega) ?_
      rw [List.filter_cons_of_pos e, List.map_cons] at h
      rw [List.append_assoc]
      exact h
theorem get_app {κ : Kap} {x : Cell} : (κ ++ [x])[κ.length]? = some x := by simp
theorem set_app1 {κ : Kap} {x y : Cell} : (κ ++ [x]).set κ.length y = κ ++ [y] := by simp
/-- a sign of a written text whose signs stand one behind the other -/
theorem ixLit {x : Str} {base len : Nat} (hx : (decide (x.length = len) && (List.range len).all fun n => x.cps.toList[n]? == some (base + n)) = true) (hl : len ≤ 1000) {i : Int} (h0 : 0 ≤ i) (h1 : i < len) : ixD κ (.d (.str x)) (.d (.int i)) = some (.d (.str ⟨#[base + i.toNat]⟩)) := by
  rw [Bool.and_eq_true] at hx
  have e1 := of_decide_eq_true hx.1
  have e2 := List.all_eq_true.mp hx.2 i.toNat (List.mem_range.mpr (by omega))
  have e2 := eq_of_beq e2
  show (if x.length ≤ 16000000 then (atI x.cps.toList i).map fun c => DV.d (.str ⟨#[c]⟩) else none) = _
  rw [if_pos (by omega)]
  have e3 : x.cps.toList.length = len := e1
  unfold atI ixN
  rw [if_pos h0, if_pos (by omega)]
  show ((x.cps.toList[i.toNat]?).map fun c => DV.d (.str ⟨#[c]⟩)) = _
  rw [e2]
  rfl
theorem wTupleT {ds : List PyData} : wO (opt κ (tupleD κ [.d (.tuple ds)])) q = q (.d (.tuple ds)) κ := propext Iff.rfl
theorem wNeS {x y : Str} : wO (opt κ (neD κ (.d (.str x)) (.d (.str y)))) q = q (.d (.bool (!(x == y)))) κ := by
  have h : neD κ (.d (.str x)) (.d (.str y)) = some (.d (.bool (!(x == y)))) := by
    simp only [neD, eqD, lvS]; rfl
  rw [h]; rfl
theorem KOk.appC {κ : Kap} (h : KOk κ) {ds : List PyData} : KOk (κ ++ [cl ds]) := h.app ds
end

end Law

namespace Law
open DL L2 PyProof.Rows PySem PySem.Spec
def topS (i : Nat) : Stmt := PySem.Challenge.pw_letterhall_k22_known_rules.main.body.getD i (.Pass ⟨0, 0, 0, 0⟩)
noncomputable section
def lamOf (st : Stmt) : Option (Arguments × Expr × Scope) := match (defBody st).getLast? with
  | some (.Return (some (.Call _ [_, .Lambda p b sc _] _ _)) _) => some (p, b, sc)
  | _ => none
abbrev N_lam_holds : List Str := ["plain", "own"]
abbrev lamD (st : Stmt) : Arguments × Expr × Scope := (lamOf st).getD ({ posonlyargs := [], args := [], vararg := none, kwonlyargs := [], kw_defaults := [], kwarg := none, defaults := [] }, .Name "" ⟨0, 0, 0, 0⟩, defScope st)
abbrev s_writing_of : Stmt := topS 3
def N_writing_of : List Str := ["text", "sign"]
def P_writing_of : List Str := ["text"]
def m_writing_of : MF := mDef 1 2 (mRet (mCal tupleD (mCons (mLc (mSrcS (mVar 0)) (bName 1) (mYes) (mCal (cal1 ordF) (mCons (mVar 1) (mNil))) [1]) (mNil))))
abbrev s_address_text : Stmt := topS 4
def N_address_text : List Str := ["address"]
def P_address_text : List Str := ["address"]
def m_address_text : MF := mDef 1 1 (mRet (mBin addB (mBin addB (mBin ixD (mVar 0) (mC (.int 0))) (mC (.str "@"))) (mBin ixD (mVar 0) (mC (.int 1)))))
abbrev s_as_tuples : Stmt := topS 5
def N_as_tuples : List Str := ["thing", "one"]
def P_as_tuples : List Str := ["thing"]
def f_as_tuples (as_tuples_r : MF) : MF := mDef 1 2 (mSeq (mIf (mTr (mIsI2 "list" "tuple" (mVar 0))) (mRet (mCal tupleD (mCons (mLc (mSrcA (mVar 0)) (bName 1) (mYes) (mCall as_tuples_r (mCons (mVar 1) (mNil))) [1]) (mNil)))) (mNext)) (mRet (mVar 0)))
def r_as_tuples : Nat → MF
  | 0 => (fun _ _ => .bad)
  | n + 1 => f_as_tuples (r_as_tuples n)
def m_as_tuples : MF := r_as_tuples 12
abbrev s_head_of : Stmt := topS 17
def N_head_of : List Str := ["letter", "name", "heads", "body", "own", "value"]
def P_head_of : List Str := ["letter", "name"]
def m_head_of : MF := mDef 2 6 (mSeq (mAsg (bTup 2 (bCons (bName 2) (bCons (bName 3) (bNil)))) (mVar 0)) (mSeq (mFor (mSrcA (mVar 2)) (bTup 2 (bCons (bName 4) (bCons (bName 5) (bNil)))) (mIf (mTb (mBin eqD (mVar 4) (mVar 1))) (mRet (mVar 5)) (mNext))) (mRet (mC .none))))
abbrev s_writings_of : Stmt := topS 18
def N_writings_of : List Str := ["body", "word", "inner", "heads", "part", "writing"]
def P_writings_of : List Str := ["body"]
def f_writings_of (writings_of_r : MF) : MF := mDef 1 6 (mSeq (mAsg (bTup 2 (bCons (bName 1) (bCons (bName 2) (bNil)))) (mVar 0)) (mSeq (mIf (mTb (mBin eqD (mVar 1) (mC (.str "words")))) (mRet (mLst (mCons (mVar 2) (mNil)))) (mNext)) (mRet (mLc2 (mSrcA (mVar 2)) (bTup 2 (bCons (bName 3) (bCons (bName 4) (bNil)))) (mYes) (mSrcA (mCall writings_of_r (mCons (mVar 4) (mNil)))) [5] (bName 5) (mYes) (mVar 5) [3, 4, 5]))))
def r_writings_of : Nat → MF
  | 0 => (fun _ _ => .bad)
  | n + 1 => f_writings_of (r_writings_of n)
def m_writings_of : MF := r_writings_of 12
abbrev s_letter_writings : Stmt := topS 19
def N_letter_writings : List Str := ["letter", "heads", "body"]
def P_letter_writings : List Str := ["letter"]
def m_letter_writings : MF := mDef 1 3 (mSeq (mAsg (bTup 2 (bCons (bName 1) (bCons (bName 2) (bNil)))) (mVar 0)) (mRet (mCall m_writings_of (mCons (mVar 2) (mNil)))))
abbrev s_small_sign : Stmt := topS 20
def N_small_sign : List Str := ["sign", "small"]
def P_small_sign : List Str := ["sign"]
def m_small_sign : MF := mDef 1 2 (mSeq (mIf (mTb (mChain (intD leF) (intD leF) (mC (.int 48)) (mVar 0) (mC (.int 57)))) (mRet (mBin ixD (mC (.str "0123456789")) (mBin subB (mVar 0) (mC (.int 48))))) (mNext)) (mSeq (mSet 1 (mIfE (mTb (mChain (intD leF) (intD leF) (mC (.int 65)) (mVar 0) (mC (.int 90)))) (mBin addB (mVar 0) (mC (.int 32))) (mVar 0))) (mRet (mIfE (mTb (mChain (intD leF) (intD leF) (mC (.int 97)) (mVar 1) (mC (.int 122)))) (mBin ixD (mC (.str "abcdefghijklmnopqrstuvwxyz")) (mBin subB (mVar 1) (mC (.int 97)))) (mC (.str ""))))))
abbrev s_words_in : Stmt := topS 21
def N_words_in : List Str := ["writing", "found", "here", "sign", "small"]
def P_words_in : List Str := ["writing"]
def m_words_in : MF := mDef 1 5 (mSeq (mPar 1 2 true false (mLst (mNil)) (mC (.str ""))) (mSeq (mFor (mSrcA (mBin addB (mCal tupleD (mCons (mVar 0) (mNil))) (mTup (mCons (mC (.int 0)) (mNil))))) (bName 3) (mSeq (mSet 4 (mCall m_small_sign (mCons (mVar 3) (mNil)))) (mSeq (mIf (mAndT (mTb (mBin eqD (mVar 4) (mC (.str "")))) (mTb (mBin neD (mVar 2) (mC (.str ""))))) (mSeq (mDrop (mCm appF (mVar 1) (mCons (mSl slD (mVar 2) (mNoP) (mPt (mC (.int 12)))) (mNil)))) (mSet 2 (mC (.str "")))) (mNext)) (mAug 2 (mVar 4))))) (mRet (mVar 1))))
abbrev s_words_of : Stmt := topS 35
def N_words_of : List Str := ["letter", "own", "told", "found", "writing"]
def P_words_of : List Str := ["letter"]
def m_words_of : MF := mDef 1 5 (mSeq (mSet 1 (mCall m_as_tuples (mCons (mVar 0) (mNil)))) (mSeq (mSet 2 (mCall m_head_of (mCons (mVar 1) (mCons (mC (.str "about")) (mNil))))) (mSeq (mSetC 3 (mIfE (mTb (mBin isD (mVar 2) (mC .none))) (mLst (mNil)) (mCall m_words_in (mCons (mCall m_writing_of (mCons (mVar 2) (mNil))) (mNil))))) (mSeq (mFor (mSrcA (mCall m_letter_writings (mCons (mVar 1) (mNil)))) (bName 4) (mDrop (mCm extF (mVar 3) (mCons (mCall m_words_in (mCons (mVar 4) (mNil))) (mNil))))) (mRet (mCal sortSetD (mCons (mVar 3) (mNil))))))))
abbrev s_test_from : Stmt := topS 36
def N_test_from : List Str := ["what", "letter"]
def P_test_from : List Str := ["what", "letter"]
def m_test_from : MF := mDef 2 2 (mRet (mBin eqD (mCall m_head_of (mCons (mVar 1) (mCons (mC (.str "from")) (mNil)))) (mCall m_address_text (mCons (mVar 0) (mNil)))))
abbrev s_test_to : Stmt := topS 37
def N_test_to : List Str := ["what", "letter", "told"]
def P_test_to : List Str := ["what", "letter"]
def m_test_to : MF := mDef 2 3 (mSeq (mSet 2 (mCall m_head_of (mCons (mVar 1) (mCons (mC (.str "to")) (mNil))))) (mRet (mAnd (mBin isnD (mVar 2) (mC .none)) (mBin inD (mCall m_address_text (mCons (mVar 0) (mNil))) (mMs splitF (mVar 2) (mCons (mC (.str " ")) (mNil)))))))
abbrev s_test_word : Stmt := topS 38
def N_test_word : List Str := ["what", "letter"]
def P_test_word : List Str := ["what", "letter"]
def m_test_word : MF := mDef 2 2 (mRet (mBin inD (mVar 0) (mCall m_words_of (mCons (mVar 1) (mNil)))))
abbrev s_test_about : Stmt := topS 39
def N_test_about : List Str := ["what", "letter", "told"]
def P_test_about : List Str := ["what", "letter"]
def m_test_about : MF := mDef 2 3 (mSeq (mSet 2 (mCall m_head_of (mCons (mVar 1) (mCons (mC (.str "about")) (mNil))))) (mRet (mAnd (mBin isnD (mVar 2) (mC .none)) (mBin inTD (mVar 0) (mVar 2)))))
abbrev s_test_longer : Stmt := topS 40
def N_test_longer : List Str := ["what", "letter", "writing"]
def P_test_longer : List Str := ["what", "letter"]
def m_test_longer : MF := mDef 2 3 (mRet (mBin (intD gtF) (mCal (lstD sumF) (mCons (mLc (mSrcA (mCall m_letter_writings (mCons (mVar 1) (mNil)))) (bName 2) (mYes) (mCal lenD (mCons (mVar 2) (mNil))) [2]) (mNil))) (mVar 0)))
abbrev s_holds_plain : Stmt := topS 43
def N_holds_plain : List Str := ["test", "letter", "rule"]
def P_holds_plain : List Str := ["test", "letter"]
def m_holds_plain : MF := mDef 2 3 (mSeq (mIf (mTb (mBin eqD (mBin ixD (mVar 0) (mC (.int 0))) (mC (.str "auto")))) (mRet (mBin isnD (mCall m_head_of (mCons (mVar 1) (mCons (mC (.str "auto")) (mNil)))) (mC .none))) (mNext)) (mSeq (mSet 2 (mDget (mC (.dict [(.str "from", fnD "test_from"), (.str "to", fnD "test_to"), (.str "word", fnD "test_word"), (.str "about", fnD "test_about"), (.str "longer", fnD "test_longer")])) (mBin ixD (mVar 0) (mC (.int 0))))) (mRet (mCallV 2 (tblOf [("test_from", m_test_from), ("test_to", m_test_to), ("test_word", m_test_word), ("test_about", m_test_about), ("test_longer", m_test_longer)]) (mCons (mBin ixD (mVar 0) (mC (.int 1))) (mCons (mVar 1) (mNil)))))))
def mb_holds : ME := mCall m_holds_plain (mCons (mVar 0) (mCons (mVar 1) (mNil)))
abbrev s_holds_by : Stmt := topS 42
def N_holds_by : List Str := ["test", "plain", "word", "parts", "told", "part"]
def P_holds_by : List Str := ["test", "plain"]
def f_holds_by (f0 c0 a0 : Addr) (holds_by_r : MF) : MF := mDef 2 6 (mSeq (mAsg (bStar 1 (bCons (bName 2) (bCons (bName 3) (bNil)))) (mVar 0)) (mSeq (mIf (mTb (mBin eqD (mVar 2) (mC (.str "not")))) (mRet (mNot (mCall holds_by_r (mCons (mBin ixD (mVar 3) (mC (.int 0))) (mCons (mVar 1) (mNil)))))) (mNext)) (mSeq (mIf (mTb (mBin inD (mVar 2) (mTup (mCons (mC (.str "both")) (mCons (mC (.str "any")) (mNil)))))) (mSeq (mSet 4 (mLc (mSrcA (mVar 3)) (bName 5) (mYes) (mCall holds_by_r (mCons (mVar 5) (mCons (mVar 1) (mNil)))) [5])) (mRet (mIfE (mTb (mBin eqD (mVar 2) (mC (.str "both")))) (mCal (lstD allF) (mCons (mVar 4) (mNil))) (mCal (lstD anyF) (mCons (mVar 4) (mNil)))))) (mNext)) (mRet (mCallClo 1 f0 c0 a0 "holds.<locals>.<lambda>" 0 mb_holds (mCons (mVar 0) (mNil)))))))
def r_holds_by (f0 c0 a0 : Addr) : Nat → MF
  | 0 => (fun _ _ => .bad)
  | n + 1 => f_holds_by f0 c0 a0 (r_holds_by f0 c0 a0 n)
def m_holds_by (f0 c0 a0 : Addr) : MF := r_holds_by f0 c0 a0 12
abbrev s_holds : Stmt := topS 44
def N_holds : List Str := ["test", "letter", "own"]
def P_holds : List Str := ["test", "letter"]
def m_holds : MF := mDef 2 3 (mSeq (mSet 2 (mCall m_as_tuples (mCons (mVar 1) (mNil)))) (mRet (mCallLam (fun f0 c0 a0 => m_holds_by f0 c0 a0) "holds.<locals>.<lambda>" 2 (mCall m_as_tuples (mCons (mVar 0) (mNil))))))
abbrev s_deeds_due : Stmt := topS 45
def N_deeds_due : List Str := ["rules", "letter", "found", "number", "test", "deeds", "deed"]
def P_deeds_due : List Str := ["rules", "letter"]
def m_deeds_due : MF := mDef 2 7 (mSeq (mSetC 2 (mLst (mNil))) (mSeq (mFor (mEnumA (mCons (mVar 0) (mNil))) (bTup 2 (bCons (bName 3) (bCons (bTup 2 (bCons (bName 4) (bCons (bName 5) (bNil)))) (bNil)))) (mIf (mTr (mCall m_holds (mCons (mVar 4) (mCons (mVar 1) (mNil))))) (mFor (mSrcA (mVar 5)) (bName 6) (mSeq (mIf (mTb (mBin eqD (mBin ixD (mVar 6) (mC (.int 0))) (mC (.str "stop")))) (mRet (mVar 2)) (mNext)) (mDrop (mCm appF (mVar 2) (mCons (mTup (mCons (mVar 3) (mCons (mVar 6) (mNil)))) (mNil)))))) (mNext))) (mRet (mVar 2))))
abbrev s_told_once : Stmt := topS 46
def N_told_once : List Str := ["things", "place", "thing"]
def P_told_once : List Str := ["things"]
def m_told_once : MF := mDef 1 3 (mRet (mCal tupleD (mCons (mLc (mEnumA (mCons (mVar 0) (mNil))) (bTup 2 (bCons (bName 1) (bCons (bName 2) (bNil)))) (mTb (mBin ninDD (mVar 2) (mSl slD (mVar 0) (mNoP) (mPt (mVar 1))))) (mVar 2) [1, 2]) (mNil))))
abbrev s_judged : Stmt := topS 47
def N_judged : List Str := ["rules", "letter", "due", "by_word", "answers", "boxes", "word", "number", "deed"]
def P_judged : List Str := ["rules", "letter"]
def m_judged : MF := mDef 2 9 (mSeq (mSet 2 (mCall m_deeds_due (mCons (mCall m_as_tuples (mCons (mVar 0) (mNil))) (mCons (mCall m_as_tuples (mCons (mVar 1) (mNil))) (mNil))))) (mSeq (mSet 3 (mDc (mSrcA (mTup (mCons (mC (.str "file")) (mCons (mC (.str "mark")) (mCons (mC (.str "on")) (mNil)))))) (bName 6) (mYes) (mVar 6) (mLc (mSrcA (mVar 2)) (bTup 2 (bCons (bName 7) (bCons (bName 8) (bNil)))) (mTb (mBin eqD (mBin ixD (mVar 8) (mC (.int 0))) (mVar 6))) (mBin ixD (mVar 8) (mC (.int 1))) [7, 8]) [6])) (mSeq (mSet 4 (mLc (mSrcA (mVar 2)) (bTup 2 (bCons (bName 7) (bCons (bName 8) (bNil)))) (mTb (mBin eqD (mBin ixD (mVar 8) (mC (.int 0))) (mC (.str "answer")))) (mTup (mCons (mVar 7) (mCons (mBin ixD (mVar 8) (mC (.int 1))) (mNil)))) [7, 8])) (mSeq (mSet 5 (mCall m_told_once (mCons (mDget (mVar 3) (mC (.str "file"))) (mNil)))) (mSeq (mIf (mTr (mCal (lstD anyF) (mCons (mLc (mSrcA (mVar 2)) (bTup 2 (bCons (bName 7) (bCons (bName 8) (bNil)))) (mYes) (mBin eqD (mBin ixD (mVar 8) (mC (.int 0))) (mC (.str "drop"))) [7, 8]) (mNil)))) (mSet 5 (mTup (mNil))) (mIf (mAndT (mTb (mBin eqD (mVar 5) (mTup (mNil)))) (mTb (mBin eqD (mDget (mVar 3) (mC (.str "on"))) (mLst (mNil))))) (mSet 5 (mTup (mCons (mC (.str "in")) (mNil)))) (mNext))) (mRet (mTup (mCons (mVar 5) (mCons (mCall m_told_once (mCons (mDget (mVar 3) (mC (.str "mark"))) (mNil))) (mCons (mCall m_told_once (mCons (mDget (mVar 3) (mC (.str "on"))) (mNil))) (mCons (mCall m_told_once (mCons (mVar 4) (mNil))) (mNil))))))))))))
abbrev s__law_box : Stmt := topS 49
def N__law_box : List Str := ["_law_script", "_law_k", "_law_cell"]
def P__law_box : List Str := ["_law_script", "_law_k"]
def m__law_box : MF := mDef 2 3 (mSeq (mSet 2 (mIfE (mTb (mBin (intD ltF) (mVar 1) (mCal lenD (mCons (mVar 0) (mNil))))) (mBin ixD (mVar 0) (mVar 1)) (mC (.int 0)))) (mRet (mLst (mCons (mBin mulD (mCal (cal1 absF) (mCons (mVar 2) (mNil))) (mCal (cal1 intF) (mCons (mBin (intD geF) (mCal (cal1 absF) (mCons (mVar 2) (mNil))) (mBin (intD powF) (mC (.int 10)) (mC (.int 18)))) (mNil)))) (mCons (mBin addB (mBin addB (mBin (intD modF) (mVar 2) (mC (.int 2305843009213693951))) (mBin mulD (mC (.int 39373)) (mVar 1))) (mC (.int 17))) (mCons (mC (.int 0)) (mNil)))))))
abbrev s__law_take : Stmt := topS 50
def N__law_take : List Str := ["_law_box_here", "_law_many", "_law_found", "_law_once", "_law_twice"]
def P__law_take : List Str := ["_law_box_here", "_law_many"]
def m__law_take : MF := mDef 2 5 (mSeq (mIf (mTb (mBin (intD gtF) (mBin ixD (mVar 0) (mC (.int 0))) (mC (.int 0)))) (mSeq (mAsg (bTup 2 (bCons (bSub (mVar 0) (mC (.int 0))) (bCons (bName 2) (bNil)))) (mCal divmodD (mCons (mBin ixD (mVar 0) (mC (.int 0))) (mCons (mVar 1) (mNil))))) (mRet (mVar 2))) (mNext)) (mSeq (mAsg (bSub (mVar 0) (mC (.int 2))) (mBin addB (mBin ixD (mVar 0) (mC (.int 2))) (mC (.int 1)))) (mSeq (mSet 3 (mBin (intD modF) (mBin mulD (mBin addB (mBin ixD (mVar 0) (mC (.int 1))) (mBin mulD (mC (.int 48271)) (mBin ixD (mVar 0) (mC (.int 2))))) (mBin addB (mC (.int 39373)) (mBin ixD (mVar 0) (mC (.int 2))))) (mC (.int 2147483647)))) (mSeq (mSet 4 (mBin (intD modF) (mBin mulD (mBin addB (mBin addB (mVar 3) (mBin ixD (mVar 0) (mC (.int 2)))) (mBin (intD fdivF) (mBin ixD (mVar 0) (mC (.int 1))) (mC (.int 1000003)))) (mBin addB (mBin (intD modF) (mVar 3) (mC (.int 40009))) (mC (.int 7)))) (mC (.int 2147483629)))) (mRet (mBin (intD modF) (mBin (intD fdivF) (mBin (intD modF) (mBin addB (mBin mulD (mVar 4) (mC (.int 48271))) (mVar 3)) (mC (.int 2147483587))) (mC (.int 64))) (mVar 1)))))))
abbrev s__law_names : Stmt := topS 51
def N__law_names : List Str := ["_law_box_here", "_law_many", "_law_letters", "_law_start", "_law_way", "_law_words", "_law_stem", "_law_k", "_law_step", "_law_found", "_law_who", "_law_two"]
def P__law_names : List Str := ["_law_box_here", "_law_many"]
def m__law_names : MF := mDef 2 12 (mSeq (mAsg (bTup 3 (bCons (bName 2) (bCons (bName 3) (bCons (bName 4) (bNil))))) (mTup (mCons (mC (.str "abcdefghijklmnoprstuvwxyz")) (mCons (mCall m__law_take (mCons (mVar 0) (mCons (mC (.int 625)) (mNil)))) (mCons (mCall m__law_take (mCons (mVar 0) (mCons (mC (.int 4)) (mNil)))) (mNil)))))) (mSeq (mSet 5 (mMs splitF (mC (.str "house one list link from to end begin post in about auto line plan")) (mCons (mC (.str " ")) (mNil)))) (mSeq (mIf (mTb (mBin eqD (mVar 4) (mC (.int 0)))) (mRet (mSl slD (mSl slD (mBin addB (mVar 5) (mVar 5)) (mPt (mBin (intD modF) (mVar 3) (mC (.int 14)))) (mNoP)) (mNoP) (mPt (mVar 1)))) (mNext)) (mSeq (mSet 6 (mBin mulD (mBin ixD (mVar 2) (mCall m__law_take (mCons (mVar 0) (mCons (mC (.int 25)) (mNil))))) (mCall m__law_take (mCons (mVar 0) (mCons (mC (.int 7)) (mNil)))))) (mSeq (mIf (mAndT (mTb (mBin eqD (mVar 4) (mC (.int 1)))) (mTb (mBin (intD ltF) (mVar 1) (mC (.int 7))))) (mRet (mLc (mRng1 (mCons (mVar 1) (mNil))) (bName 7) (mYes) (mBin addB (mSl slD (mVar 6) (mNoP) (mPt (mC (.int 1)))) (mBin mulD (mBin ixD (mVar 2) (mBin (intD modF) (mVar 3) (mC (.int 25)))) (mBin addB (mVar 7) (mC (.int 1))))) [7])) (mNext)) (mSeq (mPar 8 9 false true (mBin ixD (mLst (mCons (mC (.int 1)) (mCons (mC (.int 26)) (mCons (mC (.int 7)) (mCons (mC (.int 251)) (mNil)))))) (mCall m__law_take (mCons (mVar 0) (mCons (mC (.int 4)) (mNil))))) (mLst (mNil))) (mSeq (mFor (mRng1 (mCons (mVar 1) (mNil))) (bName 7) (mSeq (mAsg (bTup 2 (bCons (bName 10) (bCons (bName 11) (bNil)))) (mCal divmodD (mCons (mBin (intD modF) (mBin addB (mVar 3) (mBin mulD (mVar 8) (mVar 7))) (mC (.int 625))) (mCons (mC (.int 25)) (mNil))))) (mDrop (mCm appF (mVar 9) (mCons (mBin addB (mBin addB (mSl slD (mVar 6) (mNoP) (mPt (mC (.int 6)))) (mBin ixD (mVar 2) (mVar 10))) (mBin ixD (mVar 2) (mVar 11))) (mNil)))))) (mRet (mVar 9)))))))))
abbrev s__law_same : Stmt := topS 52
def N__law_same : List Str := ["_law_found", "_law_due", "_law_one", "_law_other"]
def P__law_same : List Str := ["_law_found", "_law_due"]
def f__law_same (_law_same_r : MF) : MF := mDef 2 4 (mSeq (mIf (mTr (mIsI2 "list" "tuple" (mVar 1))) (mSeq (mIf (mOrT (mTb (mBin neD (mIsI "list" (mVar 0)) (mIsI "list" (mVar 1)))) (mTb (mBin neD (mIsI "tuple" (mVar 0)) (mIsI "tuple" (mVar 1))))) (mRet (mC (.bool false))) (mNext)) (mRet (mAnd (mBin eqD (mCal lenD (mCons (mVar 0) (mNil))) (mCal lenD (mCons (mVar 1) (mNil)))) (mCal (lstD allF) (mCons (mLc (mZipA (mCons (mVar 0) (mCons (mVar 1) (mNil)))) (bTup 2 (bCons (bName 2) (bCons (bName 3) (bNil)))) (mYes) (mCall _law_same_r (mCons (mVar 2) (mCons (mVar 3) (mNil)))) [2, 3]) (mNil)))))) (mNext)) (mSeq (mIf (mOrT (mTb (mBin isD (mVar 1) (mC .none))) (mTr (mIsI2 "bool" "str" (mVar 1)))) (mRet (mAnd (mBin eqD (mVar 0) (mVar 1)) (mAnd (mBin eqD (mIsI "bool" (mVar 0)) (mIsI "bool" (mVar 1))) (mBin eqD (mBin isD (mVar 0) (mC .none)) (mBin isD (mVar 1) (mC .none)))))) (mNext)) (mRet (mAnd (mIsI "int" (mVar 0)) (mAnd (mNot (mIsI "bool" (mVar 0))) (mBin eqD (mVar 0) (mVar 1)))))))
def r__law_same : Nat → MF
  | 0 => (fun _ _ => .bad)
  | n + 1 => f__law_same (r__law_same n)
def m__law_same : MF := r__law_same 12
abbrev s__law_signs : Stmt := topS 53
def N__law_signs : List Str := ["_law_text", "_law_sign"]
def P__law_signs : List Str := ["_law_text"]
def m__law_signs : MF := mDef 1 2 (mRet (mCal tupleD (mCons (mLc (mSrcS (mVar 0)) (bName 1) (mYes) (mCal (cal1 ordF) (mCons (mVar 1) (mNil))) [1]) (mNil))))
abbrev s__law_known : Stmt := topS 54
def N__law_known : List Str := ["_law_a", "_law_b", "_law_c", "_law_inner", "_law_heads", "_law_both"]
def P__law_known : List Str := ["_law_a", "_law_b", "_law_c"]
def m__law_known : MF := mDef 3 6 (mSeq (mSet 3 (mTup (mCons (mTup (mCons (mTup (mCons (mC (.str "about")) (mCons (mC (.str "deep")) (mNil)))) (mCons (mTup (mCons (mC (.str "auto")) (mCons (mC (.str "no")) (mNil)))) (mNil)))) (mCons (mTup (mCons (mC (.str "words")) (mCons (mCall m__law_signs (mCons (mBin addB (mC (.str "Zeta=ab\n9to5 ")) (mBin mulD (mC (.str "m")) (mC (.int 14)))) (mNil))) (mNil)))) (mNil))))) (mSeq (mSet 4 (mTup (mCons (mTup (mCons (mC (.str "from")) (mCons (mBin addB (mBin addB (mVar 0) (mC (.str "@"))) (mVar 1)) (mNil)))) (mCons (mTup (mCons (mC (.str "to")) (mCons (mBin addB (mBin addB (mBin addB (mBin addB (mBin addB (mBin addB (mVar 2) (mC (.str "@"))) (mVar 1)) (mC (.str " "))) (mVar 0)) (mC (.str "@"))) (mVar 0)) (mNil)))) (mCons (mTup (mCons (mC (.str "about")) (mCons (mC (.str "Re X-ray")) (mNil)))) (mCons (mTup (mCons (mC (.str "about")) (mCons (mC (.str "more")) (mNil)))) (mNil))))))) (mSeq (mSet 5 (mTup (mCons (mC (.str "parts")) (mCons (mTup (mCons (mVar 3) (mCons (mTup (mCons (mTup (mNil)) (mCons (mTup (mCons (mC (.str "words")) (mCons (mTup (mCons (mC (.int 353)) (mCons (mC (.int 65)) (mCons (mC (.int 8217)) (mCons (mC (.int 98)) (mCons (mC (.int 304)) (mCons (mC (.int 115)) (mCons (mC (.int 178)) (mNil))))))))) (mNil)))) (mNil)))) (mNil)))) (mNil))))) (mRet (mTup (mCons (mVar 4) (mCons (mTup (mCons (mC (.str "parts")) (mCons (mTup (mCons (mTup (mCons (mTup (mNil)) (mCons (mTup (mCons (mC (.str "words")) (mCons (mCall m__law_signs (mCons (mC (.str "one")) (mNil))) (mNil)))) (mNil)))) (mCons (mTup (mCons (mTup (mNil)) (mCons (mVar 5) (mNil)))) (mNil)))) (mNil)))) (mNil))))))))
abbrev s__law_tests_right : Stmt := topS 55
def N__law_tests_right : List Str := ["_law_letter", "_law_a", "_law_b", "_law_c", "_law_told", "_law_right_here", "_law_wrong", "_law_some", "_law_test"]
def P__law_tests_right : List Str := ["_law_letter", "_law_a", "_law_b", "_law_c"]
def m__law_tests_right : MF := mDef 4 9 (mSeq (mSet 4 (mLst (mCons (mC (.str "9to5")) (mCons (mC (.str "a")) (mCons (mC (.str "ab")) (mCons (mC (.str "b")) (mCons (mBin mulD (mC (.str "m")) (mC (.int 12))) (mCons (mC (.str "one")) (mCons (mC (.str "ray")) (mCons (mC (.str "re")) (mCons (mC (.str "s")) (mCons (mC (.str "x")) (mCons (mC (.str "zeta")) (mNil)))))))))))))) (mSeq (mIf (mNotT (mTr (mCall m__law_same (mCons (mCall m_words_of (mCons (mVar 0) (mNil))) (mCons (mVar 4) (mNil)))))) (mRet (mC (.bool false))) (mNext)) (mSeq (mSet 5 (mLst (mCons (mTup (mCons (mC (.str "from")) (mCons (mTup (mCons (mVar 1) (mCons (mVar 2) (mNil)))) (mNil)))) (mCons (mTup (mCons (mC (.str "to")) (mCons (mTup (mCons (mVar 3) (mCons (mVar 2) (mNil)))) (mNil)))) (mCons (mTup (mCons (mC (.str "to")) (mCons (mTup (mCons (mVar 1) (mCons (mVar 1) (mNil)))) (mNil)))) (mCons (mTup (mCons (mC (.str "about")) (mCons (mC (.str "X-r")) (mNil)))) (mCons (mTup (mCons (mC (.str "word")) (mCons (mC (.str "zeta")) (mNil)))) (mCons (mTup (mCons (mC (.str "longer")) (mCons (mC (.int 36)) (mNil)))) (mNil))))))))) (mSeq (mSet 6 (mLst (mCons (mTup (mCons (mC (.str "from")) (mCons (mTup (mCons (mVar 2) (mCons (mVar 1) (mNil)))) (mNil)))) (mCons (mTup (mCons (mC (.str "to")) (mCons (mTup (mCons (mVar 1) (mCons (mVar 2) (mNil)))) (mNil)))) (mCons (mTup (mCons (mC (.str "about")) (mCons (mC (.str "x-r")) (mNil)))) (mCons (mTup (mCons (mC (.str "about")) (mCons (mC (.str "more")) (mNil)))) (mCons (mTup (mCons (mC (.str "word")) (mCons (mC (.str "zet")) (mNil)))) (mCons (mTup (mCons (mC (.str "longer")) (mCons (mC (.int 37)) (mNil)))) (mNil))))))))) (mSeq (mSet 6 (mBin addB (mVar 6) (mLst (mCons (mTup (mCons (mC (.str "auto")) (mNil))) (mCons (mTup (mCons (mC (.str "word")) (mCons (mBin mulD (mC (.str "m")) (mC (.int 11))) (mNil)))) (mCons (mTup (mCons (mC (.str "about")) (mCons (mC (.str "deep")) (mNil)))) (mNil))))))) (mSeq (mIf (mNotT (mTr (mCal (lstD allF) (mCons (mLc (mSrcA (mVar 5)) (bName 8) (mYes) (mBin isD (mCall m_holds (mCons (mVar 8) (mCons (mVar 0) (mNil)))) (mC (.bool true))) [8]) (mNil))))) (mRet (mC (.bool false))) (mNext)) (mSeq (mIf (mNotT (mTr (mCal (lstD allF) (mCons (mLc (mSrcA (mVar 6)) (bName 8) (mYes) (mBin isD (mCall m_holds (mCons (mVar 8) (mCons (mVar 0) (mNil)))) (mC (.bool false))) [8]) (mNil))))) (mRet (mC (.bool false))) (mNext)) (mSeq (mIf (mTb (mBin isnD (mCall m_holds (mCons (mTup (mCons (mC (.str "auto")) (mNil))) (mCons (mTup (mCons (mTup (mCons (mTup (mCons (mC (.str "auto")) (mCons (mC (.str "")) (mNil)))) (mNil))) (mCons (mTup (mCons (mC (.str "words")) (mCons (mTup (mNil)) (mNil)))) (mNil)))) (mNil)))) (mC (.bool true)))) (mRet (mC (.bool false))) (mNext)) (mSeq (mSet 7 (mLst (mCons (mTup (mCons (mC (.str "both")) (mCons (mBin ixD (mVar 5) (mC (.int 0))) (mCons (mTup (mCons (mC (.str "not")) (mCons (mBin ixD (mVar 6) (mC (.int 0))) (mNil)))) (mNil))))) (mCons (mTup (mCons (mC (.str "any")) (mCons (mBin ixD (mVar 6) (mC (.int 0))) (mCons (mBin ixD (mVar 5) (mC (.int 4))) (mNil))))) (mCons (mTup (mCons (mC (.str "not")) (mCons (mTup (mCons (mC (.str "both")) (mCons (mBin ixD (mVar 5) (mC (.int 0))) (mCons (mBin ixD (mVar 6) (mC (.int 1))) (mNil))))) (mNil)))) (mNil)))))) (mRet (mCal (lstD allF) (mCons (mLc (mSrcA (mVar 7)) (bName 8) (mYes) (mBin isD (mCall m_holds (mCons (mVar 8) (mCons (mVar 0) (mNil)))) (mC (.bool true))) [8]) (mNil)))))))))))))
abbrev s__law_rules_right : Stmt := topS 56
def N__law_rules_right : List Str := ["_law_letter", "_law_a", "_law_b", "_law_c", "_law_yes", "_law_no", "_law_some", "_law_told", "_law_due", "_law_one"]
def P__law_rules_right : List Str := ["_law_letter", "_law_a", "_law_b", "_law_c"]
def m__law_rules_right : MF := mDef 4 10 (mSeq (mAsg (bTup 2 (bCons (bName 4) (bCons (bName 5) (bNil)))) (mTup (mCons (mTup (mCons (mC (.str "word")) (mCons (mC (.str "one")) (mNil)))) (mCons (mTup (mCons (mC (.str "auto")) (mNil))) (mNil))))) (mSeq (mSetC 6 (mLst (mCons (mTup (mCons (mTup (mCons (mVar 4) (mCons (mTup (mCons (mTup (mCons (mC (.str "file")) (mCons (mVar 1) (mNil)))) (mCons (mTup (mCons (mC (.str "stop")) (mNil))) (mCons (mTup (mCons (mC (.str "drop")) (mNil))) (mNil))))) (mNil)))) (mCons (mTup (mCons (mVar 4) (mCons (mTup (mCons (mTup (mCons (mC (.str "mark")) (mCons (mVar 2) (mNil)))) (mNil))) (mNil)))) (mNil)))) (mNil)))) (mSeq (mDrop (mCm appF (mVar 6) (mCons (mTup (mCons (mTup (mCons (mVar 4) (mCons (mTup (mCons (mTup (mCons (mC (.str "file")) (mCons (mVar 1) (mNil)))) (mCons (mTup (mCons (mC (.str "mark")) (mCons (mVar 2) (mNil)))) (mCons (mTup (mCons (mC (.str "drop")) (mNil))) (mCons (mTup (mCons (mC (.str "stop")) (mNil))) (mNil)))))) (mNil)))) (mCons (mTup (mCons (mVar 4) (mCons (mTup (mCons (mTup (mCons (mC (.str "mark")) (mCons (mVar 3) (mNil)))) (mNil))) (mNil)))) (mNil)))) (mNil)))) (mSeq (mDrop (mCm appF (mVar 6) (mCons (mTup (mCons (mTup (mCons (mVar 4) (mCons (mTup (mCons (mTup (mCons (mC (.str "file")) (mCons (mVar 1) (mNil)))) (mCons (mTup (mCons (mC (.str "file")) (mCons (mVar 3) (mNil)))) (mNil)))) (mNil)))) (mCons (mTup (mCons (mVar 5) (mCons (mTup (mCons (mTup (mCons (mC (.str "drop")) (mNil))) (mNil))) (mNil)))) (mCons (mTup (mCons (mVar 4) (mCons (mTup (mCons (mTup (mCons (mC (.str "file")) (mCons (mVar 1) (mNil)))) (mCons (mTup (mCons (mC (.str "file")) (mCons (mVar 2) (mNil)))) (mNil)))) (mNil)))) (mNil))))) (mNil)))) (mSeq (mDrop (mCm appF (mVar 6) (mCons (mTup (mCons (mTup (mCons (mVar 4) (mCons (mTup (mCons (mTup (mCons (mC (.str "answer")) (mCons (mC (.str "x")) (mNil)))) (mCons (mTup (mCons (mC (.str "answer")) (mCons (mC (.str "y")) (mNil)))) (mCons (mTup (mCons (mC (.str "answer")) (mCons (mC (.str "x")) (mNil)))) (mNil))))) (mNil)))) (mCons (mTup (mCons (mVar 4) (mCons (mTup (mCons (mTup (mCons (mC (.str "answer")) (mCons (mC (.str "x")) (mNil)))) (mNil))) (mNil)))) (mNil)))) (mNil)))) (mSeq (mDrop (mCm appF (mVar 6) (mCons (mTup (mCons (mTup (mCons (mVar 4) (mCons (mTup (mCons (mTup (mCons (mC (.str "on")) (mCons (mTup (mCons (mVar 1) (mCons (mVar 2) (mNil)))) (mNil)))) (mNil))) (mNil)))) (mCons (mTup (mCons (mVar 4) (mCons (mTup (mCons (mTup (mCons (mC (.str "on")) (mCons (mTup (mCons (mVar 1) (mCons (mVar 2) (mNil)))) (mNil)))) (mCons (mTup (mCons (mC (.str "on")) (mCons (mTup (mCons (mVar 3) (mCons (mVar 2) (mNil)))) (mNil)))) (mNil)))) (mNil)))) (mNil)))) (mNil)))) (mSeq (mDrop (mCm appF (mVar 6) (mCons (mTup (mCons (mTup (mCons (mVar 4) (mCons (mTup (mCons (mTup (mCons (mC (.str "on")) (mCons (mTup (mCons (mVar 1) (mCons (mVar 2) (mNil)))) (mNil)))) (mCons (mTup (mCons (mC (.str "file")) (mCons (mVar 3) (mNil)))) (mCons (mTup (mCons (mC (.str "drop")) (mNil))) (mNil))))) (mNil)))) (mCons (mTup (mCons (mVar 5) (mCons (mTup (mCons (mTup (mCons (mC (.str "stop")) (mNil))) (mNil))) (mNil)))) (mCons (mTup (mCons (mVar 4) (mCons (mTup (mCons (mTup (mCons (mC (.str "mark")) (mCons (mVar 3) (mNil)))) (mNil))) (mNil)))) (mNil))))) (mNil)))) (mSeq (mDrop (mCm appF (mVar 6) (mCons (mTup (mCons (mTup (mCons (mVar 4) (mCons (mTup (mCons (mTup (mCons (mC (.str "mark")) (mCons (mVar 1) (mNil)))) (mNil))) (mNil)))) (mCons (mTup (mCons (mVar 5) (mCons (mTup (mCons (mTup (mCons (mC (.str "file")) (mCons (mVar 2) (mNil)))) (mNil))) (mNil)))) (mNil)))) (mNil)))) (mSeq (mStl 6 (mSet 7 (mLc (mSrcA (mVar 6)) (bName 9) (mYes) (mCall m_judged (mCons (mVar 9) (mCons (mVar 0) (mNil)))) [9]))) (mSeq (mSetC 8 (mLst (mCons (mTup (mCons (mTup (mCons (mVar 1) (mNil))) (mCons (mTup (mNil)) (mCons (mTup (mNil)) (mCons (mTup (mNil)) (mNil)))))) (mCons (mTup (mCons (mTup (mNil)) (mCons (mTup (mCons (mVar 2) (mNil))) (mCons (mTup (mNil)) (mCons (mTup (mNil)) (mNil)))))) (mCons (mTup (mCons (mTup (mCons (mVar 1) (mCons (mVar 3) (mCons (mVar 2) (mNil))))) (mCons (mTup (mNil)) (mCons (mTup (mNil)) (mCons (mTup (mNil)) (mNil)))))) (mNil)))))) (mSeq (mDrop (mCm appF (mVar 8) (mCons (mTup (mCons (mTup (mCons (mC (.str "in")) (mNil))) (mCons (mTup (mNil)) (mCons (mTup (mNil)) (mCons (mTup (mCons (mTup (mCons (mC (.int 0)) (mCons (mC (.str "x")) (mNil)))) (mCons (mTup (mCons (mC (.int 0)) (mCons (mC (.str "y")) (mNil)))) (mCons (mTup (mCons (mC (.int 1)) (mCons (mC (.str "x")) (mNil)))) (mNil))))) (mNil)))))) (mNil)))) (mSeq (mSetC 8 (mBin addB (mVar 8) (mLst (mCons (mTup (mCons (mTup (mNil)) (mCons (mTup (mNil)) (mCons (mTup (mCons (mTup (mCons (mVar 1) (mCons (mVar 2) (mNil)))) (mCons (mTup (mCons (mVar 3) (mCons (mVar 2) (mNil)))) (mNil)))) (mCons (mTup (mNil)) (mNil)))))) (mCons (mTup (mCons (mTup (mNil)) (mCons (mTup (mCons (mVar 3) (mNil))) (mCons (mTup (mCons (mTup (mCons (mVar 1) (mCons (mVar 2) (mNil)))) (mNil))) (mCons (mTup (mNil)) (mNil)))))) (mCons (mTup (mCons (mTup (mCons (mC (.str "in")) (mNil))) (mCons (mTup (mCons (mVar 1) (mNil))) (mCons (mTup (mNil)) (mCons (mTup (mNil)) (mNil)))))) (mNil))))))) (mStl 8 (mRet (mCall m__law_same (mCons (mVar 7) (mCons (mVar 8) (mNil))))))))))))))))))
abbrev s__law_right : Stmt := topS 57
def N__law_right : List Str := ["_law_box_here", "_law_a", "_law_b", "_law_c", "_law_letter"]
def P__law_right : List Str := ["_law_box_here"]
def m__law_right : MF := mDef 1 5 (mSeq (mAsg (bUnp 3 (bCons (bName 1) (bCons (bName 2) (bCons (bName 3) (bNil))))) (mCall m__law_names (mCons (mVar 0) (mCons (mC (.int 3)) (mNil))))) (mSeq (mSet 4 (mCall m__law_known (mCons (mVar 1) (mCons (mVar 2) (mCons (mVar 3) (mNil)))))) (mRet (mAnd (mCall m__law_tests_right (mCons (mVar 4) (mCons (mVar 1) (mCons (mVar 2) (mCons (mVar 3) (mNil)))))) (mCall m__law_rules_right (mCons (mVar 4) (mCons (mVar 1) (mCons (mVar 2) (mCons (mVar 3) (mNil))))))))))
abbrev s_law : Stmt := topS 58
def N_law : List Str := ["_law_script", "_law_k"]
def P_law : List Str := ["_law_script"]
def m_law : MF := mDef 1 2 (mRet (mCal (lstD allF) (mCons (mLc (mRng1 (mCons (mBin addB (mC (.int 1)) (mCal min2D (mCons (mC (.int 4)) (mCons (mCal lenD (mCons (mVar 0) (mNil))) (mNil))))) (mNil))) (bName 1) (mYes) (mCall m__law_right (mConsC (mCall m__law_box (mCons (mVar 0) (mCons (mVar 1) (mNil)))) (mNil))) [1]) (mNil))))
section
variable {P : Program} {w : World} {K : PySem.W.Frag} {mg : Str → Option Value} {base : Heap}
theorem sc_writing_of : FnScope N_writing_of P_writing_of (defScope s_writing_of) := ⟨rfl, rfl, rfl, by decide +kernel, rfl, by decide +kernel, by decide +kernel⟩
set_option maxHeartbeats 0 in
theorem ok_writing_of {k : Nat} (z_ord : mg "ord" = none) (z_tuple : mg "tuple" = none) {f : Addr} {fd : FuncData} (Fu : Fun K "writing_of" "writing_of" s_writing_of f fd) (hm : mg "writing_of" = some (.ref f)) : Cal P w K mg base (k + 1) "writing_of" s_writing_of P_writing_of m_writing_of :=
  ⟨⟨f, fd, Fu, Fu.binds (ps := P_writing_of) (fun _ _ _ _ _ _ us hl => match us, hl with | [_], _ => rfl), ok_def (N := N_writing_of) (ps := P_writing_of) Fu sc_writing_of (fun cdv A outer s H E gu hr => by
    have hu : (A.deeper (envOfC "writing_of" (defScope s_writing_of) s.heap.objs.size f cdv)).units + 64 < cLine := hr.units
    have nd := sc_writing_of.nd
    exact jss_one (js_ret (je_callTy call_tuple_of tupleI (by rfl) z_tuple (by decide +kernel) (ja_cons (je_lc (own := [("sign", 1)]) rfl nd (ji_str (je_var 0)) (blkOk_by (N := N_writing_of) (sc := defScope s_writing_of) (by decide +kernel)) (fun _ _ _ _ _ => jg_name nd rfl (by first | exact Or.inl rfl | exact Or.inr rfl)) (fun _ _ _ _ _ => jts_nil) (fun _ _ _ _ _ => je_callB call_ord ordI (by rfl) z_ord (by decide +kernel) (ja_cons (je_var 1) (ja_nil)))) (ja_nil))))), hm⟩, nargs_def⟩
theorem sc_address_text : FnScope N_address_text P_address_text (defScope s_address_text) := ⟨rfl, rfl, rfl, by decide +kernel, rfl, by decide +kernel, by decide +kernel⟩
set_option maxHeartbeats 0 in
theorem ok_address_text {k : Nat} {t_AT : Tok} (c_AT : mg "AT" = some (.str "@" t_AT)) {f : Addr} {fd : FuncData} (Fu : Fun K "address_text" "address_text" s_address_text f fd) (hm : mg "address_text" = some (.ref f)) : Cal P w K mg base (k + 1) "address_text" s_address_text P_address_text m_address_text :=
  ⟨⟨f, fd, Fu, Fu.binds (ps := P_address_text) (fun _ _ _ _ _ _ us hl => match us, hl with | [_], _ => rfl), ok_def (N := N_address_text) (ps := P_address_text) Fu sc_address_text (fun cdv A outer s H E gu hr => by
    have hu : (A.deeper (envOfC "address_text" (defScope s_address_text) s.heap.objs.size f cdv)).units + 64 < cLine := hr.units
    have nd := sc_address_text.nd
    exact jss_one (js_ret (je_bin op_addB addBI (je_bin op_addB addBI (je_ix ix_seq ixI (je_var 0) (je_int)) ((je_gl (v := .str "@") (by rfl) c_AT ⟨_, rfl⟩ fun _ => .str _))) (je_ix ix_seq ixI (je_var 0) (je_int))))), hm⟩, nargs_def⟩
theorem sc_as_tuples : FnScope N_as_tuples P_as_tuples (defScope s_as_tuples) := ⟨rfl, rfl, rfl, by decide +kernel, rfl, by decide +kernel, by decide +kernel⟩
set_option maxHeartbeats 0 in
theorem ok_as_tuples {k : Nat} {as_tuples_r : MF} (z_isinstance : mg "isinstance" = none) (z_list : mg "list" = none) (z_tuple : mg "tuple" = none) (C_as_tuples : Cal P w K mg base k "as_tuples" s_as_tuples P_as_tuples as_tuples_r) {f : Addr} {fd : FuncData} (Fu : Fun K "as_tuples" "as_tuples" s_as_tuples f fd) (hm : mg "as_tuples" = some (.ref f)) : Cal P w K mg base (k + 1) "as_tuples" s_as_tuples P_as_tuples (f_as_tuples as_tuples_r) :=
  ⟨⟨f, fd, Fu, Fu.binds (ps := P_as_tuples) (fun _ _ _ _ _ _ us hl => match us, hl with | [_], _ => rfl), ok_def (N := N_as_tuples) (ps := P_as_tuples) Fu sc_as_tuples (fun cdv A outer s H E gu hr => by
    have hu : (A.deeper (envOfC "as_tuples" (defScope s_as_tuples) s.heap.objs.size f cdv)).units + 64 < cLine := hr.units
    have nd := sc_as_tuples.nd
    exact jss_cons (js_if (jt_val (je_isi2 (by rfl) z_isinstance (je_var 0) (pe_bltn (by rfl) z_list (by decide +kernel) rfl) (pe_bltn (by rfl) z_tuple (by decide +kernel) rfl) (by decide) (by decide))) (jss_one (js_ret (je_callTy call_tuple_of tupleI (by rfl) z_tuple (by decide +kernel) (ja_cons (je_lc (own := [("one", 1)]) rfl nd (ji_any (je_var 0)) (blkOk_by (N := N_as_tuples) (sc := defScope s_as_tuples) (by decide +kernel)) (fun _ _ _ _ _ => jg_name nd rfl (by first | exact Or.inl rfl | exact Or.inr rfl)) (fun _ _ _ _ _ => jts_nil) (fun _ _ _ _ _ => je_callC gu hr C_as_tuples (ja_cons (je_var 1) (ja_nil)))) (ja_nil))))) (jss_nil)) (jss_one (js_ret (je_var 0)))), hm⟩, nargs_def⟩
theorem sc_head_of : FnScope N_head_of P_head_of (defScope s_head_of) := ⟨rfl, rfl, rfl, by decide +kernel, rfl, by decide +kernel, by decide +kernel⟩
set_option maxHeartbeats 0 in
theorem ok_head_of {k : Nat} {f : Addr} {fd : FuncData} (Fu : Fun K "head_of" "head_of" s_head_of f fd) (hm : mg "head_of" = some (.ref f)) : Cal P w K mg base (k + 1) "head_of" s_head_of P_head_of m_head_of :=
  ⟨⟨f, fd, Fu, Fu.binds (ps := P_head_of) (fun _ _ _ _ _ _ us hl => match us, hl with | [_, _], _ => rfl), ok_def (N := N_head_of) (ps := P_head_of) Fu sc_head_of (fun cdv A outer s H E gu hr => by
    have hu : (A.deeper (envOfC "head_of" (defScope s_head_of) s.heap.objs.size f cdv)).units + 64 < cLine := hr.units
    have nd := sc_head_of.nd
    exact jss_cons (js_asg (je_var 0) (jg_tup rfl (jgs_cons (jg_name nd rfl (by first | exact Or.inl rfl | exact Or.inr rfl)) (jgs_cons (jg_name nd rfl (by first | exact Or.inl rfl | exact Or.inr rfl)) (jgs_nil))))) (jss_cons (js_for PassesOwn.never rfl (ji_any (je_var 2)) (jg_tup rfl (jgs_cons (jg_name nd rfl (by first | exact Or.inl rfl | exact Or.inr rfl)) (jgs_cons (jg_name nd rfl (by first | exact Or.inl rfl | exact Or.inr rfl)) (jgs_nil)))) (jss_one (js_if (jt_cmp (op_eqP hu) eqI (je_var 4) (je_var 1)) (jss_one (js_ret (je_var 5))) (jss_nil)))) (jss_one (js_ret (je_non))))), hm⟩, nargs_def⟩
theorem sc_writings_of : FnScope N_writings_of P_writings_of (defScope s_writings_of) := ⟨rfl, rfl, rfl, by decide +kernel, rfl, by decide +kernel, by decide +kernel⟩
set_option maxHeartbeats 0 in
theorem ok_writings_of {k : Nat} {writings_of_r : MF} {t_WORDS : Tok} (c_WORDS : mg "WORDS" = some (.str "words" t_WORDS)) (C_writings_of : Cal P w K mg base k "writings_of" s_writings_of P_writings_of writings_of_r) {f : Addr} {fd : FuncData} (Fu : Fun K "writings_of" "writings_of" s_writings_of f fd) (hm : mg "writings_of" = some (.ref f)) : Cal P w K mg base (k + 1) "writings_of" s_writings_of P_writings_of (f_writings_of writings_of_r) :=
  ⟨⟨f, fd, Fu, Fu.binds (ps := P_writings_of) (fun _ _ _ _ _ _ us hl => match us, hl with | [_], _ => rfl), ok_def (N := N_writings_of) (ps := P_writings_of) Fu sc_writings_of (fun cdv A outer s H E gu hr => by
    have hu : (A.deeper (envOfC "writings_of" (defScope s_writings_of) s.heap.objs.size f cdv)).units + 64 < cLine := hr.units
    have nd := sc_writings_of.nd
    exact jss_cons (js_asg (je_var 0) (jg_tup rfl (jgs_cons (jg_name nd rfl (by first | exact Or.inl rfl | exact Or.inr rfl)) (jgs_cons (jg_name nd rfl (by first | exact Or.inl rfl | exact Or.inr rfl)) (jgs_nil))))) (jss_cons (js_if (jt_cmp (op_eqP hu) eqI (je_var 1) ((je_gl (v := .str "words") (by rfl) c_WORDS ⟨_, rfl⟩ fun _ => .str _))) (jss_one (js_ret (je_lst (ja_cons (je_var 2) (ja_nil))))) (jss_nil)) (jss_one (js_ret (je_lc2 (own := [("heads", 3), ("part", 4), ("writing", 5)]) (vs1 := [5]) rfl nd (ji_any (je_var 2)) (blkOk_by (N := N_writings_of) (sc := defScope s_writings_of) (by decide +kernel)) (fun _ _ _ _ _ => jg_tup rfl (jgs_cons (jg_name nd rfl (by first | exact Or.inl rfl | exact Or.inr rfl)) (jgs_cons (jg_name nd rfl (by first | exact Or.inl rfl | exact Or.inr rfl)) (jgs_nil)))) (fun _ _ _ _ _ => jts_nil) (fun _ _ _ _ _ => ji_any (je_callC gu hr C_writings_of (ja_cons (je_var 4) (ja_nil)))) (fun _ _ _ _ _ => jg_name nd rfl (by first | exact Or.inl rfl | exact Or.inr rfl)) (fun _ _ _ _ _ => jts_nil) (fun _ _ _ _ _ => je_var 5)))))), hm⟩, nargs_def⟩
theorem sc_letter_writings : FnScope N_letter_writings P_letter_writings (defScope s_letter_writings) := ⟨rfl, rfl, rfl, by decide +kernel, rfl, by decide +kernel, by decide +kernel⟩
set_option maxHeartbeats 0 in
theorem ok_letter_writings {k : Nat} (C_writings_of : Cal P w K mg base k "writings_of" s_writings_of P_writings_of m_writings_of) {f : Addr} {fd : FuncData} (Fu : Fun K "letter_writings" "letter_writings" s_letter_writings f fd) (hm : mg "letter_writings" = some (.ref f)) : Cal P w K mg base (k + 1) "letter_writings" s_letter_writings P_letter_writings m_letter_writings :=
  ⟨⟨f, fd, Fu, Fu.binds (ps := P_letter_writings) (fun _ _ _ _ _ _ us hl => match us, hl with | [_], _ => rfl), ok_def (N := N_letter_writings) (ps := P_letter_writings) Fu sc_letter_writings (fun cdv A outer s H E gu hr => by
    have hu : (A.deeper (envOfC "letter_writings" (defScope s_letter_writings) s.heap.objs.size f cdv)).units + 64 < cLine := hr.units
    have nd := sc_letter_writings.nd
    exact jss_cons (js_asg (je_var 0) (jg_tup rfl (jgs_cons (jg_name nd rfl (by first | exact Or.inl rfl | exact Or.inr rfl)) (jgs_cons (jg_name nd rfl (by first | exact Or.inl rfl | exact Or.inr rfl)) (jgs_nil))))) (jss_one (js_ret (je_callC gu hr C_writings_of (ja_cons (je_var 2) (ja_nil)))))), hm⟩, nargs_def⟩
theorem sc_small_sign : FnScope N_small_sign P_small_sign (defScope s_small_sign) := ⟨rfl, rfl, rfl, by decide +kernel, rfl, by decide +kernel, by decide +kernel⟩
set_option maxHeartbeats 0 in
theorem ok_small_sign {k : Nat} {t_FIGURES : Tok} (c_FIGURES : mg "FIGURES" = some (.str "0123456789" t_FIGURES)) {t_FIGURE_0 : Tok} (c_FIGURE_0 : mg "FIGURE_0" = some (.int 48 t_FIGURE_0)) {t_FIGURE_9 : Tok} (c_FIGURE_9 : mg "FIGURE_9" = some (.int 57 t_FIGURE_9)) {t_GREAT_A : Tok} (c_GREAT_A : mg "GREAT_A" = some (.int 65 t_GREAT_A)) {t_GREAT_Z : Tok} (c_GREAT_Z : mg "GREAT_Z" = some (.int 90 t_GREAT_Z)) {t_SMALL_A : Tok} (c_SMALL_A : mg "SMALL_A" = some (.int 97 t_SMALL_A)) {t_SMALL_SIGNS : Tok} (c_SMALL_SIGNS : mg "SMALL_SIGNS" = some (.str "abcdefghijklmnopqrstuvwxyz" t_SMALL_SIGNS)) {t_SMALL_Z : Tok} (c_SMALL_Z : mg "SMALL_Z" = some (.int 122 t_SMALL_Z)) {t_TO_SMALL : Tok} (c_TO_SMALL : mg "TO_SMALL" = some (.int 32 t_TO_SMALL)) {f : Addr} {fd : FuncData} (Fu : Fun K "small_sign" "small_sign" s_small_sign f fd) (hm : mg "small_sign" = some (.ref f)) : Cal P w K mg base (k + 1) "small_sign" s_small_sign P_small_sign m_small_sign :=
  ⟨⟨f, fd, Fu, Fu.binds (ps := P_small_sign) (fun _ _ _ _ _ _ us hl => match us, hl with | [_], _ => rfl), ok_def (N := N_small_sign) (ps := P_small_sign) Fu sc_small_sign (fun cdv A outer s H E gu hr => by
    have hu : (A.deeper (envOfC "small_sign" (defScope s_small_sign) s.heap.objs.size f cdv)).units + 64 < cLine := hr.units
    have nd := sc_small_sign.nd
    exact jss_cons (js_if (jt_chain op_le leI op_le leI ((je_gl (v := .int 48) (by rfl) c_FIGURE_0 ⟨_, rfl⟩ fun _ => .int _)) (je_var 0) ((je_gl (v := .int 57) (by rfl) c_FIGURE_9 ⟨_, rfl⟩ fun _ => .int _))) (jss_one (js_ret (je_ix ix_seq ixI ((je_gl (v := .str "0123456789") (by rfl) c_FIGURES ⟨_, rfl⟩ fun _ => .str _)) (je_bin op_subB subBI (je_var 0) ((je_gl (v := .int 48) (by rfl) c_FIGURE_0 ⟨_, rfl⟩ fun _ => .int _)))))) (jss_nil)) (jss_cons (js_set nd rfl (by first | exact Or.inl rfl | exact Or.inr rfl) (je_if (jt_chain op_le leI op_le leI ((je_gl (v := .int 65) (by rfl) c_GREAT_A ⟨_, rfl⟩ fun _ => .int _)) (je_var 0) ((je_gl (v := .int 90) (by rfl) c_GREAT_Z ⟨_, rfl⟩ fun _ => .int _))) (je_bin op_addB addBI (je_var 0) ((je_gl (v := .int 32) (by rfl) c_TO_SMALL ⟨_, rfl⟩ fun _ => .int _))) (je_var 0))) (jss_one (js_ret (je_if (jt_chain op_le leI op_le leI ((je_gl (v := .int 97) (by rfl) c_SMALL_A ⟨_, rfl⟩ fun _ => .int _)) (je_var 1) ((je_gl (v := .int 122) (by rfl) c_SMALL_Z ⟨_, rfl⟩ fun _ => .int _))) (je_ix ix_seq ixI ((je_gl (v := .str "abcdefghijklmnopqrstuvwxyz") (by rfl) c_SMALL_SIGNS ⟨_, rfl⟩ fun _ => .str _)) (je_bin op_subB subBI (je_var 1) ((je_gl (v := .int 97) (by rfl) c_SMALL_A ⟨_, rfl⟩ fun _ => .int _)))) (je_str)))))), hm⟩, nargs_def⟩
theorem sc_words_in : FnScope N_words_in P_words_in (defScope s_words_in) := ⟨rfl, rfl, rfl, by decide +kernel, rfl, by decide +kernel, by decide +kernel⟩
set_option maxHeartbeats 0 in
theorem ok_words_in {k : Nat} (z_tuple : mg "tuple" = none) {t_MOST_WORD : Tok} (c_MOST_WORD : mg "MOST_WORD" = some (.int 12 t_MOST_WORD)) (C_small_sign : Cal P w K mg base k "small_sign" s_small_sign P_small_sign m_small_sign) {f : Addr} {fd : FuncData} (Fu : Fun K "words_in" "words_in" s_words_in f fd) (hm : mg "words_in" = some (.ref f)) : Cal P w K mg base (k + 1) "words_in" s_words_in P_words_in m_words_in :=
  ⟨⟨f, fd, Fu, Fu.binds (ps := P_words_in) (fun _ _ _ _ _ _ us hl => match us, hl with | [_], _ => rfl), ok_def (N := N_words_in) (ps := P_words_in) Fu sc_words_in (fun cdv A outer s H E gu hr => by
    have hu : (A.deeper (envOfC "words_in" (defScope s_words_in) s.heap.objs.size f cdv)).units + 64 < cLine := hr.units
    have nd := sc_words_in.nd
    exact jss_cons (js_par (f1 := true) (f2 := false) rfl nd rfl rfl (by decide) rfl rfl (je_lst (ja_nil)) (je_str) (by rfl)) (jss_cons (js_for PassesOwn.never rfl (ji_any (je_bin op_addB addBI (je_callTy call_tuple_of tupleI (by rfl) z_tuple (by decide +kernel) (ja_cons (je_var 0) (ja_nil))) (je_tup (ja_cons (je_int) (ja_nil))))) (jg_name nd rfl (by first | exact Or.inl rfl | exact Or.inr rfl)) (jss_cons (js_set nd rfl (by first | exact Or.inl rfl | exact Or.inr rfl) (je_callC gu hr C_small_sign (ja_cons (je_var 3) (ja_nil)))) (jss_cons (js_if (jt_w (jw_and (jt_cmp (op_eqP hu) eqI (je_var 4) (je_str)) (jw_and1 (jt_cmp (op_neP hu) neI (je_var 2) (je_str))))) (jss_cons (js_expr (je_cm PySem.F.slot_list_append PySem.F.type_list_append mt_append appI (je_var 1) (ja_cons (je_sl (je_var 2) (jo_none) (jo_some ((je_gl (v := .int 12) (by rfl) c_MOST_WORD ⟨_, rfl⟩ fun _ => .int _)))) (ja_nil)))) (jss_one (js_set nd rfl (by first | exact Or.inl rfl | exact Or.inr rfl) (je_str)))) (jss_nil)) (jss_one (js_aug nd rfl (by first | exact Or.inl rfl | exact Or.inr rfl) (je_var 4)))))) (jss_one (js_ret (je_var 1))))), hm⟩, nargs_def⟩
theorem sc_words_of : FnScope N_words_of P_words_of (defScope s_words_of) := ⟨rfl, rfl, rfl, by decide +kernel, rfl, by decide +kernel, by decide +kernel⟩
set_option maxHeartbeats 0 in
theorem ok_words_of {k : Nat} (z_set : mg "set" = none) (z_sorted : mg "sorted" = none) {t_ABOUT : Tok} (c_ABOUT : mg "ABOUT" = some (.str "about" t_ABOUT)) (C_as_tuples : Cal P w K mg base k "as_tuples" s_as_tuples P_as_tuples m_as_tuples) (C_head_of : Cal P w K mg base k "head_of" s_head_of P_head_of m_head_of) (C_letter_writings : Cal P w K mg base k "letter_writings" s_letter_writings P_letter_writings m_letter_writings) (C_words_in : Cal P w K mg base k "words_in" s_words_in P_words_in m_words_in) (C_writing_of : Cal P w K mg base k "writing_of" s_writing_of P_writing_of m_writing_of) {f : Addr} {fd : FuncData} (Fu : Fun K "words_of" "words_of" s_words_of f fd) (hm : mg "words_of" = some (.ref f)) : Cal P w K mg base (k + 1) "words_of" s_words_of P_words_of m_words_of :=
  ⟨⟨f, fd, Fu, Fu.binds (ps := P_words_of) (fun _ _ _ _ _ _ us hl => match us, hl with | [_], _ => rfl), ok_def (N := N_words_of) (ps := P_words_of) Fu sc_words_of (fun cdv A outer s H E gu hr => by
    have hu : (A.deeper (envOfC "words_of" (defScope s_words_of) s.heap.objs.size f cdv)).units + 64 < cLine := hr.units
    have nd := sc_words_of.nd
    exact jss_cons (js_set nd rfl (by first | exact Or.inl rfl | exact Or.inr rfl) (je_callC gu hr C_as_tuples (ja_cons (je_var 0) (ja_nil)))) (jss_cons (js_set nd rfl (by first | exact Or.inl rfl | exact Or.inr rfl) (je_callC gu hr C_head_of (ja_cons (je_var 1) (ja_cons ((je_gl (v := .str "about") (by rfl) c_ABOUT ⟨_, rfl⟩ fun _ => .str _)) (ja_nil))))) (jss_cons (js_setC nd rfl (by first | exact Or.inl rfl | exact Or.inr rfl) (je_if (jt_cmp op_isAll isI (je_var 2) (je_non)) (je_lst (ja_nil)) (je_callC gu hr C_words_in (ja_cons (je_callC gu hr C_writing_of (ja_cons (je_var 2) (ja_nil))) (ja_nil))))) (jss_cons (js_for PassesOwn.never rfl (ji_any (je_callC gu hr C_letter_writings (ja_cons (je_var 1) (ja_nil)))) (jg_name nd rfl (by first | exact Or.inl rfl | exact Or.inr rfl)) (jss_one (js_expr (je_cmj PySem.F.slot_list_extend PySem.F.type_list_extend mt_extend extI (je_var 3) (ja_cons (je_callC gu hr C_words_in (ja_cons (je_var 4) (ja_nil))) (ja_nil)))))) (jss_one (js_ret (je_sortset rfl hu (by rfl) z_sorted (by rfl) z_set (ja_cons (je_var 3) (ja_nil))))))))), hm⟩, nargs_def⟩
theorem sc_test_from : FnScope N_test_from P_test_from (defScope s_test_from) := ⟨rfl, rfl, rfl, by decide +kernel, rfl, by decide +kernel, by decide +kernel⟩
set_option maxHeartbeats 0 in
theorem ok_test_from {k : Nat} (C_address_text : Cal P w K mg base k "address_text" s_address_text P_address_text m_address_text) (C_head_of : Cal P w K mg base k "head_of" s_head_of P_head_of m_head_of) {f : Addr} {fd : FuncData} (Fu : Fun K "test_from" "test_from" s_test_from f fd) (hm : mg "test_from" = some (.ref f)) : Cal P w K mg base (k + 1) "test_from" s_test_from P_test_from m_test_from :=
  ⟨⟨f, fd, Fu, Fu.binds (ps := P_test_from) (fun _ _ _ _ _ _ us hl => match us, hl with | [_, _], _ => rfl), ok_def (N := N_test_from) (ps := P_test_from) Fu sc_test_from (fun cdv A outer s H E gu hr => by
    have hu : (A.deeper (envOfC "test_from" (defScope s_test_from) s.heap.objs.size f cdv)).units + 64 < cLine := hr.units
    have nd := sc_test_from.nd
    exact jss_one (js_ret (je_cmp (op_eqP hu) eqI (je_callC gu hr C_head_of (ja_cons (je_var 1) (ja_cons (je_str) (ja_nil)))) (je_callC gu hr C_address_text (ja_cons (je_var 0) (ja_nil)))))), hm⟩, nargs_def⟩
theorem sc_test_to : FnScope N_test_to P_test_to (defScope s_test_to) := ⟨rfl, rfl, rfl, by decide +kernel, rfl, by decide +kernel, by decide +kernel⟩
set_option maxHeartbeats 0 in
theorem ok_test_to {k : Nat} (C_address_text : Cal P w K mg base k "address_text" s_address_text P_address_text m_address_text) (C_head_of : Cal P w K mg base k "head_of" s_head_of P_head_of m_head_of) {f : Addr} {fd : FuncData} (Fu : Fun K "test_to" "test_to" s_test_to f fd) (hm : mg "test_to" = some (.ref f)) : Cal P w K mg base (k + 1) "test_to" s_test_to P_test_to m_test_to :=
  ⟨⟨f, fd, Fu, Fu.binds (ps := P_test_to) (fun _ _ _ _ _ _ us hl => match us, hl with | [_, _], _ => rfl), ok_def (N := N_test_to) (ps := P_test_to) Fu sc_test_to (fun cdv A outer s H E gu hr => by
    have hu : (A.deeper (envOfC "test_to" (defScope s_test_to) s.heap.objs.size f cdv)).units + 64 < cLine := hr.units
    have nd := sc_test_to.nd
    exact jss_cons (js_set nd rfl (by first | exact Or.inl rfl | exact Or.inr rfl) (je_callC gu hr C_head_of (ja_cons (je_var 1) (ja_cons (je_str) (ja_nil))))) (jss_one (js_ret (je_and (je_cmp op_isnAll isnI (je_var 2) (je_non)) (je_one (je_cmp op_inAll inI (je_callC gu hr C_address_text (ja_cons (je_var 0) (ja_nil))) (je_ms PySem.F.slot_str_split PySem.F.type_str_split mt_split splitI (je_var 2) (ja_cons (je_str) (ja_nil))))))))), hm⟩, nargs_def⟩
theorem sc_test_word : FnScope N_test_word P_test_word (defScope s_test_word) := ⟨rfl, rfl, rfl, by decide +kernel, rfl, by decide +kernel, by decide +kernel⟩
set_option maxHeartbeats 0 in
theorem ok_test_word {k : Nat} (C_words_of : Cal P w K mg base k "words_of" s_words_of P_words_of m_words_of) {f : Addr} {fd : FuncData} (Fu : Fun K "test_word" "test_word" s_test_word f fd) (hm : mg "test_word" = some (.ref f)) : Cal P w K mg base (k + 1) "test_word" s_test_word P_test_word m_test_word :=
  ⟨⟨f, fd, Fu, Fu.binds (ps := P_test_word) (fun _ _ _ _ _ _ us hl => match us, hl with | [_, _], _ => rfl), ok_def (N := N_test_word) (ps := P_test_word) Fu sc_test_word (fun cdv A outer s H E gu hr => by
    have hu : (A.deeper (envOfC "test_word" (defScope s_test_word) s.heap.objs.size f cdv)).units + 64 < cLine := hr.units
    have nd := sc_test_word.nd
    exact jss_one (js_ret (je_cmp op_inAll inI (je_var 0) (je_callC gu hr C_words_of (ja_cons (je_var 1) (ja_nil)))))), hm⟩, nargs_def⟩
theorem sc_test_about : FnScope N_test_about P_test_about (defScope s_test_about) := ⟨rfl, rfl, rfl, by decide +kernel, rfl, by decide +kernel, by decide +kernel⟩
set_option maxHeartbeats 0 in
theorem ok_test_about {k : Nat} {t_ABOUT : Tok} (c_ABOUT : mg "ABOUT" = some (.str "about" t_ABOUT)) (C_head_of : Cal P w K mg base k "head_of" s_head_of P_head_of m_head_of) {f : Addr} {fd : FuncData} (Fu : Fun K "test_about" "test_about" s_test_about f fd) (hm : mg "test_about" = some (.ref f)) : Cal P w K mg base (k + 1) "test_about" s_test_about P_test_about m_test_about :=
  ⟨⟨f, fd, Fu, Fu.binds (ps := P_test_about) (fun _ _ _ _ _ _ us hl => match us, hl with | [_, _], _ => rfl), ok_def (N := N_test_about) (ps := P_test_about) Fu sc_test_about (fun cdv A outer s H E gu hr => by
    have hu : (A.deeper (envOfC "test_about" (defScope s_test_about) s.heap.objs.size f cdv)).units + 64 < cLine := hr.units
    have nd := sc_test_about.nd
    exact jss_cons (js_set nd rfl (by first | exact Or.inl rfl | exact Or.inr rfl) (je_callC gu hr C_head_of (ja_cons (je_var 1) (ja_cons ((je_gl (v := .str "about") (by rfl) c_ABOUT ⟨_, rfl⟩ fun _ => .str _)) (ja_nil))))) (jss_one (js_ret (je_and (je_cmp op_isnAll isnI (je_var 2) (je_non)) (je_one (je_cmp op_in_str inTI (je_var 0) (je_var 2))))))), hm⟩, nargs_def⟩
theorem sc_test_longer : FnScope N_test_longer P_test_longer (defScope s_test_longer) := ⟨rfl, rfl, rfl, by decide +kernel, rfl, by decide +kernel, by decide +kernel⟩
set_option maxHeartbeats 0 in
theorem ok_test_longer {k : Nat} (z_len : mg "len" = none) (z_sum : mg "sum" = none) (C_letter_writings : Cal P w K mg base k "letter_writings" s_letter_writings P_letter_writings m_letter_writings) {f : Addr} {fd : FuncData} (Fu : Fun K "test_longer" "test_longer" s_test_longer f fd) (hm : mg "test_longer" = some (.ref f)) : Cal P w K mg base (k + 1) "test_longer" s_test_longer P_test_longer m_test_longer :=
  ⟨⟨f, fd, Fu, Fu.binds (ps := P_test_longer) (fun _ _ _ _ _ _ us hl => match us, hl with | [_, _], _ => rfl), ok_def (N := N_test_longer) (ps := P_test_longer) Fu sc_test_longer (fun cdv A outer s H E gu hr => by
    have hu : (A.deeper (envOfC "test_longer" (defScope s_test_longer) s.heap.objs.size f cdv)).units + 64 < cLine := hr.units
    have nd := sc_test_longer.nd
    exact jss_one (js_ret (je_cmp op_gt gtI (je_callB (cr_sum rfl) sumI (by rfl) z_sum (by decide +kernel) (ja_cons (je_lc (own := [("writing", 2)]) rfl nd (ji_any (je_callC gu hr C_letter_writings (ja_cons (je_var 1) (ja_nil)))) (blkOk_by (N := N_test_longer) (sc := defScope s_test_longer) (by decide +kernel)) (fun _ _ _ _ _ => jg_name nd rfl (by first | exact Or.inl rfl | exact Or.inr rfl)) (fun _ _ _ _ _ => jts_nil) (fun _ _ _ _ _ => je_callB call_len lenI (by rfl) z_len (by decide +kernel) (ja_cons (je_var 2) (ja_nil)))) (ja_nil))) (je_var 0)))), hm⟩, nargs_def⟩
theorem sc_holds_plain : FnScope N_holds_plain P_holds_plain (defScope s_holds_plain) := ⟨rfl, rfl, rfl, by decide +kernel, rfl, by decide +kernel, by decide +kernel⟩
set_option maxHeartbeats 0 in
theorem ok_holds_plain {k : Nat} {t_AUTO : Tok} (c_AUTO : mg "AUTO" = some (.str "auto" t_AUTO)) (C_head_of : Cal P w K mg base k "head_of" s_head_of P_head_of m_head_of) (C_test_about : Cal P w K mg base k "test_about" s_test_about P_test_about m_test_about) (C_test_from : Cal P w K mg base k "test_from" s_test_from P_test_from m_test_from) (C_test_longer : Cal P w K mg base k "test_longer" s_test_longer P_test_longer m_test_longer) (C_test_to : Cal P w K mg base k "test_to" s_test_to P_test_to m_test_to) (C_test_word : Cal P w K mg base k "test_word" s_test_word P_test_word m_test_word) (D_PLAIN_TESTS : MDict K w mg "PLAIN_TESTS" [(.str "from", fnD "test_from"), (.str "to", fnD "test_to"), (.str "word", fnD "test_word"), (.str "about", fnD "test_about"), (.str "longer", fnD "test_longer")]) {f : Addr} {fd : FuncData} (Fu : Fun K "holds_plain" "holds_plain" s_holds_plain f fd) (hm : mg "holds_plain" = some (.ref f)) : Cal P w K mg base (k + 1) "holds_plain" s_holds_plain P_holds_plain m_holds_plain :=
  ⟨⟨f, fd, Fu, Fu.binds (ps := P_holds_plain) (fun _ _ _ _ _ _ us hl => match us, hl with | [_, _], _ => rfl), ok_def (N := N_holds_plain) (ps := P_holds_plain) Fu sc_holds_plain (fun cdv A outer s H E gu hr => by
    have hu : (A.deeper (envOfC "holds_plain" (defScope s_holds_plain) s.heap.objs.size f cdv)).units + 64 < cLine := hr.units
    have nd := sc_holds_plain.nd
    exact jss_cons (js_if (jt_cmp (op_eqP hu) eqI (je_ix ix_seq ixI (je_var 0) (je_int)) ((je_gl (v := .str "auto") (by rfl) c_AUTO ⟨_, rfl⟩ fun _ => .str _))) (jss_one (js_ret (je_cmp op_isnAll isnI (je_callC gu hr C_head_of (ja_cons (je_var 1) (ja_cons ((je_gl (v := .str "auto") (by rfl) c_AUTO ⟨_, rfl⟩ fun _ => .str _)) (ja_nil)))) (je_non)))) (jss_nil)) (jss_cons (js_set nd rfl (by first | exact Or.inl rfl | exact Or.inr rfl) (je_mdsub D_PLAIN_TESTS (by rfl) (je_ix ix_seq ixI (je_var 0) (je_int)) (by exact fun _ _ => rfl))) (jss_one (js_ret (je_callV gu hr rfl (tb_cons C_test_from (tb_cons C_test_to (tb_cons C_test_word (tb_cons C_test_about (tb_cons C_test_longer (tb_nil)))))) (ja_cons (je_ix ix_seq ixI (je_var 0) (je_int)) (ja_cons (je_var 1) (ja_nil)))))))), hm⟩, nargs_def⟩
theorem sc_holds_by : FnScope N_holds_by P_holds_by (defScope s_holds_by) := ⟨rfl, rfl, rfl, by decide +kernel, rfl, by decide +kernel, by decide +kernel⟩
set_option maxHeartbeats 0 in
theorem ok_holds_by {k : Nat} {holds_by_r : MF} (z_all : mg "all" = none) (z_any : mg "any" = none) {t_ANY : Tok} (c_ANY : mg "ANY" = some (.str "any" t_ANY)) {t_BOTH : Tok} (c_BOTH : mg "BOTH" = some (.str "both" t_BOTH)) {t_NOT : Tok} (c_NOT : mg "NOT" = some (.str "not" t_NOT)) (C_holds_by : Cal P w K mg base k "holds_by" s_holds_by P_holds_by holds_by_r) {f0 c0 a0 : Addr} {kL : Nat} {lp : Arguments} {lb : Expr} {ls : Scope} (hkL : kL + 1 ≤ k) (L : LamM P w K mg base kL "holds.<locals>.<lambda>" lp lb ls N_lam_holds "plain" "own" mb_holds) (LB : LamB base f0 c0 a0 "holds.<locals>.<lambda>" lp lb ls "own") {f : Addr} {fd : FuncData} (Fu : Fun K "holds_by" "holds_by" s_holds_by f fd) (hm : mg "holds_by" = some (.ref f)) : Cal P w K mg base (k + 1) "holds_by" s_holds_by P_holds_by (f_holds_by f0 c0 a0 holds_by_r) :=
  ⟨⟨f, fd, Fu, Fu.binds (ps := P_holds_by) (fun _ _ _ _ _ _ us hl => match us, hl with | [_, _], _ => rfl), ok_def (N := N_holds_by) (ps := P_holds_by) Fu sc_holds_by (fun cdv A outer s H E gu hr => by
    have hu : (A.deeper (envOfC "holds_by" (defScope s_holds_by) s.heap.objs.size f cdv)).units + 64 < cLine := hr.units
    have nd := sc_holds_by.nd
    exact jss_cons (js_asg (je_var 0) (jg_star rfl (jgs_cons (jg_name nd rfl (by first | exact Or.inl rfl | exact Or.inr rfl)) (jgs_star (jg_name nd rfl (by first | exact Or.inl rfl | exact Or.inr rfl)) (jgs_nil))))) (jss_cons (js_if (jt_cmp (op_eqP hu) eqI (je_var 2) ((je_gl (v := .str "not") (by rfl) c_NOT ⟨_, rfl⟩ fun _ => .str _))) (jss_one (js_ret (je_not (je_callC gu hr C_holds_by (ja_cons (je_ix ix_seq ixI (je_var 3) (je_int)) (ja_cons (je_var 1) (ja_nil))))))) (jss_nil)) (jss_cons (js_if (jt_cmp op_inAll inI (je_var 2) (je_tup (ja_cons ((je_gl (v := .str "both") (by rfl) c_BOTH ⟨_, rfl⟩ fun _ => .str _)) (ja_cons ((je_gl (v := .str "any") (by rfl) c_ANY ⟨_, rfl⟩ fun _ => .str _)) (ja_nil))))) (jss_cons (js_setLc (own := [("part", 5)]) rfl nd rfl rfl (sw_true rfl rfl rfl (by decide +kernel)) (ji_any (je_var 3)) (blkOk_by (N := N_holds_by) (sc := defScope s_holds_by) (by decide +kernel)) (fun _ _ _ _ _ => jg_name nd rfl (by first | exact Or.inl rfl | exact Or.inr rfl)) (fun _ _ _ _ _ => jts_nil) (fun _ _ _ _ _ => je_callC gu hr C_holds_by (ja_cons (je_var 5) (ja_cons (je_var 1) (ja_nil))))) (jss_one (js_ret (je_if (jt_cmp (op_eqP hu) eqI (je_var 2) ((je_gl (v := .str "both") (by rfl) c_BOTH ⟨_, rfl⟩ fun _ => .str _))) (je_callB (cr_all rfl) allI (by rfl) z_all (by decide +kernel) (ja_cons (je_var 4) (ja_nil))) (je_callB (cr_any rfl) anyI (by rfl) z_any (by decide +kernel) (ja_cons (je_var 4) (ja_nil))))))) (jss_nil)) (jss_one (js_ret (je_callClo gu hr hkL L (by rfl) LB (by rfl) (ja_cons (je_var 0) (ja_nil)))))))), hm⟩, nargs_def⟩
theorem ns_holds : NdefX.NScope N_lam_holds ["plain"] ["own"] (lamD s_holds).2.2 := NdefX.nscope_by (by decide +kernel)
theorem lam_holds {k : Nat} (C_holds_plain : Cal P w K mg base k "holds_plain" s_holds_plain P_holds_plain m_holds_plain) : LamM P w K mg base k "holds.<locals>.<lambda>" (lamD s_holds).1 (lamD s_holds).2.1 (lamD s_holds).2.2 N_lam_holds "plain" "own" mb_holds :=
  ⟨ns_holds, fun _ _ _ _ _ => rfl, fun f c cl A outer s H gu hr => by
    exact je_callC gu hr C_holds_plain (ja_cons (je_var 0) (ja_cons (je_var 1) (ja_nil)))⟩
theorem sc_holds : FnScope N_holds P_holds (defScope s_holds) := ⟨rfl, rfl, rfl, by decide +kernel, rfl, by decide +kernel, by decide +kernel⟩
set_option maxHeartbeats 0 in
theorem ok_holds {k : Nat} (C_as_tuples : Cal P w K mg base k "as_tuples" s_as_tuples P_as_tuples m_as_tuples) {f : Addr} {fd : FuncData} (Fu : Fun K "holds" "holds" s_holds f fd) (hm : mg "holds" = some (.ref f)) {cH PH fG : Addr} {dG : FuncData} (CA : CodeAt K f (.ref cH)) (TB : LamX.TabB base mg cH PH) (hmT : (PH, ("holds.<locals>.<lambda>" : Str)) ∈ tabsOf K) (huT : ∀ p ∈ tabsOf K, p.1 = PH → p.2 = "holds.<locals>.<lambda>") (FG : Fun K "holds_by" "holds_by" s_holds_by fG dG) (hG : mg "holds_by" = some (.ref fG)) (CL : ∀ (base' : Heap) (f0 c0 a0 : Addr), LamB base' f0 c0 a0 "holds.<locals>.<lambda>" (lamD s_holds).1 (lamD s_holds).2.1 (lamD s_holds).2.2 "own" → Cal P w K mg base' k "holds_by" s_holds_by P_holds_by (m_holds_by f0 c0 a0)) : Cal P w K mg base (k + 1) "holds" s_holds P_holds m_holds :=
  ⟨⟨f, fd, Fu, Fu.binds (ps := P_holds) (fun _ _ _ _ _ _ us hl => match us, hl with | [_, _], _ => rfl), ok_defC (N := N_holds) (ps := P_holds) Fu sc_holds CA (fun A outer s H E gu hr => by
    have hu : (A.deeper (envOfC "holds" (defScope s_holds) s.heap.objs.size f (.ref cH))).units + 64 < cLine := hr.units
    have nd := sc_holds.nd
    exact jss_cons (js_set nd rfl (by first | exact Or.inl rfl | exact Or.inr rfl) (je_callC gu hr C_as_tuples (ja_cons (je_var 1) (ja_nil)))) (jss_one (js_ret (je_callLam gu hr TB (by rfl) (by rfl) hmT huT FG (FG.binds (ps := P_holds_by) (fun _ _ _ _ _ _ us hl => match us, hl with | [_, _], _ => rfl)) hG CL rfl ns_holds (by first | exact Or.inl rfl | exact Or.inr rfl) rfl rfl (je_callC gu hr C_as_tuples (ja_cons (je_var 0) (ja_nil))) (.tail _ (.head _)))))), hm⟩, nargs_def⟩
theorem sc_deeds_due : FnScope N_deeds_due P_deeds_due (defScope s_deeds_due) := ⟨rfl, rfl, rfl, by decide +kernel, rfl, by decide +kernel, by decide +kernel⟩
set_option maxHeartbeats 0 in
theorem ok_deeds_due {k : Nat} (z_enumerate : mg "enumerate" = none) {t_STOP : Tok} (c_STOP : mg "STOP" = some (.str "stop" t_STOP)) (C_holds : Cal P w K mg base k "holds" s_holds P_holds m_holds) {f : Addr} {fd : FuncData} (Fu : Fun K "deeds_due" "deeds_due" s_deeds_due f fd) (hm : mg "deeds_due" = some (.ref f)) : Cal P w K mg base (k + 1) "deeds_due" s_deeds_due P_deeds_due m_deeds_due :=
  ⟨⟨f, fd, Fu, Fu.binds (ps := P_deeds_due) (fun _ _ _ _ _ _ us hl => match us, hl with | [_, _], _ => rfl), ok_def (N := N_deeds_due) (ps := P_deeds_due) Fu sc_deeds_due (fun cdv A outer s H E gu hr => by
    have hu : (A.deeper (envOfC "deeds_due" (defScope s_deeds_due) s.heap.objs.size f cdv)).units + 64 < cLine := hr.units
    have nd := sc_deeds_due.nd
    exact jss_cons (js_setC nd rfl (by first | exact Or.inl rfl | exact Or.inr rfl) (je_lst (ja_nil))) (jss_cons (js_for PassesOwn.never rfl (ji_enumA (by rfl) z_enumerate (ja_cons (je_var 0) (ja_nil))) (jg_tup rfl (jgs_cons (jg_name nd rfl (by first | exact Or.inl rfl | exact Or.inr rfl)) (jgs_cons (jg_tup rfl (jgs_cons (jg_name nd rfl (by first | exact Or.inl rfl | exact Or.inr rfl)) (jgs_cons (jg_name nd rfl (by first | exact Or.inl rfl | exact Or.inr rfl)) (jgs_nil)))) (jgs_nil)))) (jss_one (js_if (jt_val (je_callC gu hr C_holds (ja_cons (je_var 4) (ja_cons (je_var 1) (ja_nil))))) (jss_one (js_for PassesOwn.never rfl (ji_any (je_var 5)) (jg_name nd rfl (by first | exact Or.inl rfl | exact Or.inr rfl)) (jss_cons (js_if (jt_cmp (op_eqP hu) eqI (je_ix ix_seq ixI (je_var 6) (je_int)) ((je_gl (v := .str "stop") (by rfl) c_STOP ⟨_, rfl⟩ fun _ => .str _))) (jss_one (js_ret (je_var 2))) (jss_nil)) (jss_one (js_expr (je_cm PySem.F.slot_list_append PySem.F.type_list_append mt_append appI (je_var 2) (ja_cons (je_tup (ja_cons (je_var 3) (ja_cons (je_var 6) (ja_nil)))) (ja_nil)))))))) (jss_nil)))) (jss_one (js_ret (je_var 2))))), hm⟩, nargs_def⟩
theorem sc_told_once : FnScope N_told_once P_told_once (defScope s_told_once) := ⟨rfl, rfl, rfl, by decide +kernel, rfl, by decide +kernel, by decide +kernel⟩
set_option maxHeartbeats 0 in
theorem ok_told_once {k : Nat} (z_enumerate : mg "enumerate" = none) (z_tuple : mg "tuple" = none) {f : Addr} {fd : FuncData} (Fu : Fun K "told_once" "told_once" s_told_once f fd) (hm : mg "told_once" = some (.ref f)) : Cal P w K mg base (k + 1) "told_once" s_told_once P_told_once m_told_once :=
  ⟨⟨f, fd, Fu, Fu.binds (ps := P_told_once) (fun _ _ _ _ _ _ us hl => match us, hl with | [_], _ => rfl), ok_def (N := N_told_once) (ps := P_told_once) Fu sc_told_once (fun cdv A outer s H E gu hr => by
    have hu : (A.deeper (envOfC "told_once" (defScope s_told_once) s.heap.objs.size f cdv)).units + 64 < cLine := hr.units
    have nd := sc_told_once.nd
    exact jss_one (js_ret (je_callTy call_tuple_of tupleI (by rfl) z_tuple (by decide +kernel) (ja_cons (je_lc (own := [("place", 1), ("thing", 2)]) rfl nd (ji_enumA (by rfl) z_enumerate (ja_cons (je_var 0) (ja_nil))) (blkOk_by (N := N_told_once) (sc := defScope s_told_once) (by decide +kernel)) (fun _ _ _ _ _ => jg_tup rfl (jgs_cons (jg_name nd rfl (by first | exact Or.inl rfl | exact Or.inr rfl)) (jgs_cons (jg_name nd rfl (by first | exact Or.inl rfl | exact Or.inr rfl)) (jgs_nil)))) (fun _ _ _ _ _ => jts_one (jt_cmp (op_notInD (room65 hr)) ninDDI (je_var 2) (je_sl (je_var 0) (jo_none) (jo_some (je_var 1))))) (fun _ _ _ _ _ => je_var 2)) (ja_nil))))), hm⟩, nargs_def⟩
theorem sc_judged : FnScope N_judged P_judged (defScope s_judged) := ⟨rfl, rfl, rfl, by decide +kernel, rfl, by decide +kernel, by decide +kernel⟩
set_option maxHeartbeats 0 in
theorem ok_judged {k : Nat} (z_any : mg "any" = none) {t_ANSWER : Tok} (c_ANSWER : mg "ANSWER" = some (.str "answer" t_ANSWER)) {t_DROP : Tok} (c_DROP : mg "DROP" = some (.str "drop" t_DROP)) {t_FILE : Tok} (c_FILE : mg "FILE" = some (.str "file" t_FILE)) {t_IN_BOX : Tok} (c_IN_BOX : mg "IN_BOX" = some (.str "in" t_IN_BOX)) {t_MARK : Tok} (c_MARK : mg "MARK" = some (.str "mark" t_MARK)) {t_ON : Tok} (c_ON : mg "ON" = some (.str "on" t_ON)) (C_as_tuples : Cal P w K mg base k "as_tuples" s_as_tuples P_as_tuples m_as_tuples) (C_deeds_due : Cal P w K mg base k "deeds_due" s_deeds_due P_deeds_due m_deeds_due) (C_told_once : Cal P w K mg base k "told_once" s_told_once P_told_once m_told_once) {f : Addr} {fd : FuncData} (Fu : Fun K "judged" "judged" s_judged f fd) (hm : mg "judged" = some (.ref f)) : Cal P w K mg base (k + 1) "judged" s_judged P_judged m_judged :=
  ⟨⟨f, fd, Fu, Fu.binds (ps := P_judged) (fun _ _ _ _ _ _ us hl => match us, hl with | [_, _], _ => rfl), ok_def (N := N_judged) (ps := P_judged) Fu sc_judged (fun cdv A outer s H E gu hr => by
    have hu : (A.deeper (envOfC "judged" (defScope s_judged) s.heap.objs.size f cdv)).units + 64 < cLine := hr.units
    have nd := sc_judged.nd
    exact jss_cons (js_set nd rfl (by first | exact Or.inl rfl | exact Or.inr rfl) (je_callC gu hr C_deeds_due (ja_cons (je_callC gu hr C_as_tuples (ja_cons (je_var 0) (ja_nil))) (ja_cons (je_callC gu hr C_as_tuples (ja_cons (je_var 1) (ja_nil))) (ja_nil))))) (jss_cons (js_setDc (own := [("word", 6)]) rfl nd rfl rfl (sw_trueD rfl rfl rfl (by decide +kernel)) (ji_any (je_tup (ja_cons ((je_gl (v := .str "file") (by rfl) c_FILE ⟨_, rfl⟩ fun _ => .str _)) (ja_cons ((je_gl (v := .str "mark") (by rfl) c_MARK ⟨_, rfl⟩ fun _ => .str _)) (ja_cons ((je_gl (v := .str "on") (by rfl) c_ON ⟨_, rfl⟩ fun _ => .str _)) (ja_nil)))))) (blkOk_by (N := N_judged) (sc := defScope s_judged) (by decide +kernel)) (fun _ _ _ _ _ => jg_name nd rfl (by first | exact Or.inl rfl | exact Or.inr rfl)) (fun _ _ _ _ _ => jts_nil) (fun _ _ _ _ _ => je_var 6) (fun _ _ _ _ _ => je_lc (own := [("number", 7), ("deed", 8)]) rfl nd (ji_any (je_var 2)) (blkOk_by (N := N_judged) (sc := { kind := PySem.ScopeKind.function, names := [(".0", PySem.NameKind.local), ("word", PySem.NameKind.cell), ("due", PySem.NameKind.cell)], isGenerator := false, isCoroutine := false, more := [] }) (by decide +kernel)) (fun _ _ _ _ _ => jg_tup rfl (jgs_cons (jg_name nd rfl (by first | exact Or.inl rfl | exact Or.inr rfl)) (jgs_cons (jg_name nd rfl (by first | exact Or.inl rfl | exact Or.inr rfl)) (jgs_nil)))) (fun _ _ _ _ _ => jts_one (jt_cmp (op_eqP hu) eqI (je_ix ix_seq ixI (je_var 8) (je_int)) (je_var 6))) (fun _ _ _ _ _ => je_ix ix_seq ixI (je_var 8) (je_int)))) (jss_cons (js_setLc (own := [("number", 7), ("deed", 8)]) rfl nd rfl rfl (sw_true rfl rfl rfl (by decide +kernel)) (ji_any (je_var 2)) (blkOk_by (N := N_judged) (sc := defScope s_judged) (by decide +kernel)) (fun _ _ _ _ _ => jg_tup rfl (jgs_cons (jg_name nd rfl (by first | exact Or.inl rfl | exact Or.inr rfl)) (jgs_cons (jg_name nd rfl (by first | exact Or.inl rfl | exact Or.inr rfl)) (jgs_nil)))) (fun _ _ _ _ _ => jts_one (jt_cmp (op_eqP hu) eqI (je_ix ix_seq ixI (je_var 8) (je_int)) ((je_gl (v := .str "answer") (by rfl) c_ANSWER ⟨_, rfl⟩ fun _ => .str _)))) (fun _ _ _ _ _ => je_tup (ja_cons (je_var 7) (ja_cons (je_ix ix_seq ixI (je_var 8) (je_int)) (ja_nil))))) (jss_cons (js_set nd rfl (by first | exact Or.inl rfl | exact Or.inr rfl) (je_callC gu hr C_told_once (ja_cons (je_dget hu (je_var 3) ((je_gl (v := .str "file") (by rfl) c_FILE ⟨_, rfl⟩ fun _ => .str _)) (by exact fun _ _ => rfl)) (ja_nil)))) (jss_cons (js_if (jt_val (je_callB (cr_any rfl) anyI (by rfl) z_any (by decide +kernel) (ja_cons (je_lc (own := [("number", 7), ("deed", 8)]) rfl nd (ji_any (je_var 2)) (blkOk_by (N := N_judged) (sc := defScope s_judged) (by decide +kernel)) (fun _ _ _ _ _ => jg_tup rfl (jgs_cons (jg_name nd rfl (by first | exact Or.inl rfl | exact Or.inr rfl)) (jgs_cons (jg_name nd rfl (by first | exact Or.inl rfl | exact Or.inr rfl)) (jgs_nil)))) (fun _ _ _ _ _ => jts_nil) (fun _ _ _ _ _ => je_cmp (op_eqP hu) eqI (je_ix ix_seq ixI (je_var 8) (je_int)) ((je_gl (v := .str "drop") (by rfl) c_DROP ⟨_, rfl⟩ fun _ => .str _)))) (ja_nil)))) (jss_one (js_set nd rfl (by first | exact Or.inl rfl | exact Or.inr rfl) (je_tup (ja_nil)))) (jss_one (js_if (jt_w (jw_and (jt_cmp (op_eqP hu) eqI (je_var 5) (je_tup (ja_nil))) (jw_and1 (jt_cmp (op_eqP hu) eqI (je_dget hu (je_var 3) ((je_gl (v := .str "on") (by rfl) c_ON ⟨_, rfl⟩ fun _ => .str _)) (by exact fun _ _ => rfl)) (je_lst (ja_nil)))))) (jss_one (js_set nd rfl (by first | exact Or.inl rfl | exact Or.inr rfl) (je_tup (ja_cons ((je_gl (v := .str "in") (by rfl) c_IN_BOX ⟨_, rfl⟩ fun _ => .str _)) (ja_nil))))) (jss_nil)))) (jss_one (js_ret (je_tup (ja_cons (je_var 5) (ja_cons (je_callC gu hr C_told_once (ja_cons (je_dget hu (je_var 3) ((je_gl (v := .str "mark") (by rfl) c_MARK ⟨_, rfl⟩ fun _ => .str _)) (by exact fun _ _ => rfl)) (ja_nil))) (ja_cons (je_callC gu hr C_told_once (ja_cons (je_dget hu (je_var 3) ((je_gl (v := .str "on") (by rfl) c_ON ⟨_, rfl⟩ fun _ => .str _)) (by exact fun _ _ => rfl)) (ja_nil))) (ja_cons (je_callC gu hr C_told_once (ja_cons (je_var 4) (ja_nil))) (ja_nil))))))))))))), hm⟩, nargs_def⟩
theorem sc__law_box : FnScope N__law_box P__law_box (defScope s__law_box) := ⟨rfl, rfl, rfl, by decide +kernel, rfl, by decide +kernel, by decide +kernel⟩
set_option maxHeartbeats 0 in
theorem ok__law_box {k : Nat} (z_abs : mg "abs" = none) (z_int : mg "int" = none) (z_len : mg "len" = none) {f : Addr} {fd : FuncData} (Fu : Fun K "_law_box" "_law_box" s__law_box f fd) (hm : mg "_law_box" = some (.ref f)) : Cal P w K mg base (k + 1) "_law_box" s__law_box P__law_box m__law_box :=
  ⟨⟨f, fd, Fu, Fu.binds (ps := P__law_box) (fun _ _ _ _ _ _ us hl => match us, hl with | [_, _], _ => rfl), ok_def (N := N__law_box) (ps := P__law_box) Fu sc__law_box (fun cdv A outer s H E gu hr => by
    have hu : (A.deeper (envOfC "_law_box" (defScope s__law_box) s.heap.objs.size f cdv)).units + 64 < cLine := hr.units
    have nd := sc__law_box.nd
    exact jss_cons (js_set nd rfl (by first | exact Or.inl rfl | exact Or.inr rfl) (je_if (jt_cmp op_lt ltI (je_var 1) (je_callB call_len lenI (by rfl) z_len (by decide +kernel) (ja_cons (je_var 0) (ja_nil)))) (je_ix ix_seq ixI (je_var 0) (je_var 1)) (je_int))) (jss_one (js_ret (je_lst (ja_cons (je_bin op_mulAll mulI (je_callB call_abs absI (by rfl) z_abs (by decide +kernel) (ja_cons (je_var 2) (ja_nil))) (je_callTy call_int1 intCI (by rfl) z_int (by decide +kernel) (ja_cons (je_cmp op_ge geI (je_callB call_abs absI (by rfl) z_abs (by decide +kernel) (ja_cons (je_var 2) (ja_nil))) (je_bin op_pow powI (je_int) (je_int))) (ja_nil)))) (ja_cons (je_bin op_addB addBI (je_bin op_addB addBI (je_bin op_mod modI (je_var 2) (je_int)) (je_bin op_mulAll mulI (je_int) (je_var 1))) (je_int)) (ja_cons (je_int) (ja_nil)))))))), hm⟩, nargs_def⟩
theorem sc__law_take : FnScope N__law_take P__law_take (defScope s__law_take) := ⟨rfl, rfl, rfl, by decide +kernel, rfl, by decide +kernel, by decide +kernel⟩
set_option maxHeartbeats 0 in
theorem ok__law_take {k : Nat} (z_divmod : mg "divmod" = none) {f : Addr} {fd : FuncData} (Fu : Fun K "_law_take" "_law_take" s__law_take f fd) (hm : mg "_law_take" = some (.ref f)) : Cal P w K mg base (k + 1) "_law_take" s__law_take P__law_take m__law_take :=
  ⟨⟨f, fd, Fu, Fu.binds (ps := P__law_take) (fun _ _ _ _ _ _ us hl => match us, hl with | [_, _], _ => rfl), ok_def (N := N__law_take) (ps := P__law_take) Fu sc__law_take (fun cdv A outer s H E gu hr => by
    have hu : (A.deeper (envOfC "_law_take" (defScope s__law_take) s.heap.objs.size f cdv)).units + 64 < cLine := hr.units
    have nd := sc__law_take.nd
    exact jss_cons (js_if (jt_cmp op_gt gtI (je_ix ix_seq ixI (je_var 0) (je_int)) (je_int)) (jss_cons (js_asg (je_callB call_divmod divmodI (by rfl) z_divmod (by decide +kernel) (ja_cons (je_ix ix_seq ixI (je_var 0) (je_int)) (ja_cons (je_var 1) (ja_nil)))) (jg_tup rfl (jgs_cons (jg_sub (je_var 0) (je_int)) (jgs_cons (jg_name nd rfl (by first | exact Or.inl rfl | exact Or.inr rfl)) (jgs_nil))))) (jss_one (js_ret (je_var 2)))) (jss_nil)) (jss_cons (js_asg (je_bin op_addB addBI (je_ix ix_seq ixI (je_var 0) (je_int)) (je_int)) (jg_sub (je_var 0) (je_int))) (jss_cons (js_set nd rfl (by first | exact Or.inl rfl | exact Or.inr rfl) (je_bin op_mod modI (je_bin op_mulAll mulI (je_bin op_addB addBI (je_ix ix_seq ixI (je_var 0) (je_int)) (je_bin op_mulAll mulI (je_int) (je_ix ix_seq ixI (je_var 0) (je_int)))) (je_bin op_addB addBI (je_int) (je_ix ix_seq ixI (je_var 0) (je_int)))) (je_int))) (jss_cons (js_set nd rfl (by first | exact Or.inl rfl | exact Or.inr rfl) (je_bin op_mod modI (je_bin op_mulAll mulI (je_bin op_addB addBI (je_bin op_addB addBI (je_var 3) (je_ix ix_seq ixI (je_var 0) (je_int))) (je_bin op_fdiv fdivI (je_ix ix_seq ixI (je_var 0) (je_int)) (je_int))) (je_bin op_addB addBI (je_bin op_mod modI (je_var 3) (je_int)) (je_int))) (je_int))) (jss_one (js_ret (je_bin op_mod modI (je_bin op_fdiv fdivI (je_bin op_mod modI (je_bin op_addB addBI (je_bin op_mulAll mulI (je_var 4) (je_int)) (je_var 3)) (je_int)) (je_int)) (je_var 1)))))))), hm⟩, nargs_def⟩
theorem sc__law_names : FnScope N__law_names P__law_names (defScope s__law_names) := ⟨rfl, rfl, rfl, by decide +kernel, rfl, by decide +kernel, by decide +kernel⟩
set_option maxHeartbeats 0 in
theorem ok__law_names {k : Nat} (z_divmod : mg "divmod" = none) (z_range : mg "range" = none) (C__law_take : Cal P w K mg base k "_law_take" s__law_take P__law_take m__law_take) {f : Addr} {fd : FuncData} (Fu : Fun K "_law_names" "_law_names" s__law_names f fd) (hm : mg "_law_names" = some (.ref f)) : Cal P w K mg base (k + 1) "_law_names" s__law_names P__law_names m__law_names :=
  ⟨⟨f, fd, Fu, Fu.binds (ps := P__law_names) (fun _ _ _ _ _ _ us hl => match us, hl with | [_, _], _ => rfl), ok_def (N := N__law_names) (ps := P__law_names) Fu sc__law_names (fun cdv A outer s H E gu hr => by
    have hu : (A.deeper (envOfC "_law_names" (defScope s__law_names) s.heap.objs.size f cdv)).units + 64 < cLine := hr.units
    have nd := sc__law_names.nd
    exact jss_cons (js_asg (je_tup (ja_cons (je_str) (ja_cons (je_callC gu hr C__law_take (ja_cons (je_var 0) (ja_cons (je_int) (ja_nil)))) (ja_cons (je_callC gu hr C__law_take (ja_cons (je_var 0) (ja_cons (je_int) (ja_nil)))) (ja_nil))))) (jg_tup rfl (jgs_cons (jg_name nd rfl (by first | exact Or.inl rfl | exact Or.inr rfl)) (jgs_cons (jg_name nd rfl (by first | exact Or.inl rfl | exact Or.inr rfl)) (jgs_cons (jg_name nd rfl (by first | exact Or.inl rfl | exact Or.inr rfl)) (jgs_nil)))))) (jss_cons (js_set nd rfl (by first | exact Or.inl rfl | exact Or.inr rfl) (je_ms PySem.F.slot_str_split PySem.F.type_str_split mt_split splitI (je_str) (ja_cons (je_str) (ja_nil)))) (jss_cons (js_if (jt_cmp (op_eqP hu) eqI (je_var 4) (je_int)) (jss_one (js_ret (je_sl (je_sl (je_bin op_addB addBI (je_var 5) (je_var 5)) (jo_some (je_bin op_mod modI (je_var 3) (je_int))) (jo_none)) (jo_none) (jo_some (je_var 1))))) (jss_nil)) (jss_cons (js_set nd rfl (by first | exact Or.inl rfl | exact Or.inr rfl) (je_bin op_mulAll mulI (je_ix ix_seq ixI (je_var 2) (je_callC gu hr C__law_take (ja_cons (je_var 0) (ja_cons (je_int) (ja_nil))))) (je_callC gu hr C__law_take (ja_cons (je_var 0) (ja_cons (je_int) (ja_nil)))))) (jss_cons (js_if (jt_w (jw_and (jt_cmp (op_eqP hu) eqI (je_var 4) (je_int)) (jw_and1 (jt_cmp op_lt ltI (je_var 1) (je_int))))) (jss_one (js_ret (je_lc (own := [("_law_k", 7)]) rfl nd (ji_rng1 (by rfl) z_range (ja_cons (je_var 1) (ja_nil))) (blkOk_by (N := N__law_names) (sc := defScope s__law_names) (by decide +kernel)) (fun _ _ _ _ _ => jg_name nd rfl (by first | exact Or.inl rfl | exact Or.inr rfl)) (fun _ _ _ _ _ => jts_nil) (fun _ _ _ _ _ => je_bin op_addB addBI (je_sl (je_var 6) (jo_none) (jo_some (je_int))) (je_bin op_mulAll mulI (je_ix ix_seq ixI (je_var 2) (je_bin op_mod modI (je_var 3) (je_int))) (je_bin op_addB addBI (je_var 7) (je_int))))))) (jss_nil)) (jss_cons (js_par (f1 := false) (f2 := true) rfl nd rfl rfl (by decide) rfl rfl (je_ix ix_seq ixI (je_lst (ja_cons (je_int) (ja_cons (je_int) (ja_cons (je_int) (ja_cons (je_int) (ja_nil)))))) (je_callC gu hr C__law_take (ja_cons (je_var 0) (ja_cons (je_int) (ja_nil))))) (je_lst (ja_nil)) (by rfl)) (jss_cons (js_for PassesOwn.never rfl (ji_rng1 (by rfl) z_range (ja_cons (je_var 1) (ja_nil))) (jg_name nd rfl (by first | exact Or.inl rfl | exact Or.inr rfl)) (jss_cons (js_asg (je_callB call_divmod divmodI (by rfl) z_divmod (by decide +kernel) (ja_cons (je_bin op_mod modI (je_bin op_addB addBI (je_var 3) (je_bin op_mulAll mulI (je_var 8) (je_var 7))) (je_int)) (ja_cons (je_int) (ja_nil)))) (jg_tup rfl (jgs_cons (jg_name nd rfl (by first | exact Or.inl rfl | exact Or.inr rfl)) (jgs_cons (jg_name nd rfl (by first | exact Or.inl rfl | exact Or.inr rfl)) (jgs_nil))))) (jss_one (js_expr (je_cm PySem.F.slot_list_append PySem.F.type_list_append mt_append appI (je_var 9) (ja_cons (je_bin op_addB addBI (je_bin op_addB addBI (je_sl (je_var 6) (jo_none) (jo_some (je_int))) (je_ix ix_seq ixI (je_var 2) (je_var 10))) (je_ix ix_seq ixI (je_var 2) (je_var 11))) (ja_nil))))))) (jss_one (js_ret (je_var 9)))))))))), hm⟩, nargs_def⟩
theorem sc__law_same : FnScope N__law_same P__law_same (defScope s__law_same) := ⟨rfl, rfl, rfl, by decide +kernel, rfl, by decide +kernel, by decide +kernel⟩
set_option maxHeartbeats 0 in
theorem ok__law_same {k : Nat} {_law_same_r : MF} (z_all : mg "all" = none) (z_bool : mg "bool" = none) (z_int : mg "int" = none) (z_isinstance : mg "isinstance" = none) (z_len : mg "len" = none) (z_list : mg "list" = none) (z_str : mg "str" = none) (z_tuple : mg "tuple" = none) (z_zip : mg "zip" = none) (C__law_same : Cal P w K mg base k "_law_same" s__law_same P__law_same _law_same_r) {f : Addr} {fd : FuncData} (Fu : Fun K "_law_same" "_law_same" s__law_same f fd) (hm : mg "_law_same" = some (.ref f)) : Cal P w K mg base (k + 1) "_law_same" s__law_same P__law_same (f__law_same _law_same_r) :=
  ⟨⟨f, fd, Fu, Fu.binds (ps := P__law_same) (fun _ _ _ _ _ _ us hl => match us, hl with | [_, _], _ => rfl), ok_def (N := N__law_same) (ps := P__law_same) Fu sc__law_same (fun cdv A outer s H E gu hr => by
    have hu : (A.deeper (envOfC "_law_same" (defScope s__law_same) s.heap.objs.size f cdv)).units + 64 < cLine := hr.units
    have nd := sc__law_same.nd
    exact jss_cons (js_if (jt_val (je_isi2 (by rfl) z_isinstance (je_var 1) (pe_bltn (by rfl) z_list (by decide +kernel) rfl) (pe_bltn (by rfl) z_tuple (by decide +kernel) rfl) (by decide) (by decide))) (jss_cons (js_if (jt_w (jw_or (jt_cmp (op_neP hu) neI (je_isi (by rfl) z_isinstance (je_var 0) (pe_bltn (by rfl) z_list (by decide +kernel) rfl) (by decide)) (je_isi (by rfl) z_isinstance (je_var 1) (pe_bltn (by rfl) z_list (by decide +kernel) rfl) (by decide))) (jw_or1 (jt_cmp (op_neP hu) neI (je_isi (by rfl) z_isinstance (je_var 0) (pe_bltn (by rfl) z_tuple (by decide +kernel) rfl) (by decide)) (je_isi (by rfl) z_isinstance (je_var 1) (pe_bltn (by rfl) z_tuple (by decide +kernel) rfl) (by decide)))))) (jss_one (js_ret (je_bl))) (jss_nil)) (jss_one (js_ret (je_and (je_cmp (op_eqP hu) eqI (je_callB call_len lenI (by rfl) z_len (by decide +kernel) (ja_cons (je_var 0) (ja_nil))) (je_callB call_len lenI (by rfl) z_len (by decide +kernel) (ja_cons (je_var 1) (ja_nil)))) (je_one (je_callB (cr_all rfl) allI (by rfl) z_all (by decide +kernel) (ja_cons (je_lc (own := [("_law_one", 2), ("_law_other", 3)]) rfl nd (ji_zipA (by rfl) z_zip (ja_cons (je_var 0) (ja_cons (je_var 1) (ja_nil)))) (blkOk_by (N := N__law_same) (sc := defScope s__law_same) (by decide +kernel)) (fun _ _ _ _ _ => jg_tup rfl (jgs_cons (jg_name nd rfl (by first | exact Or.inl rfl | exact Or.inr rfl)) (jgs_cons (jg_name nd rfl (by first | exact Or.inl rfl | exact Or.inr rfl)) (jgs_nil)))) (fun _ _ _ _ _ => jts_nil) (fun _ _ _ _ _ => je_callC gu hr C__law_same (ja_cons (je_var 2) (ja_cons (je_var 3) (ja_nil))))) (ja_nil)))))))) (jss_nil)) (jss_cons (js_if (jt_w (jw_or (jt_cmp op_isAll isI (je_var 1) (je_non)) (jw_or1 (jt_val (je_isi2 (by rfl) z_isinstance (je_var 1) (pe_bltn (by rfl) z_bool (by decide +kernel) rfl) (pe_bltn (by rfl) z_str (by decide +kernel) rfl) (by decide) (by decide)))))) (jss_one (js_ret (je_and (je_cmp (op_eqP hu) eqI (je_var 0) (je_var 1)) (je_and (je_cmp (op_eqP hu) eqI (je_isi (by rfl) z_isinstance (je_var 0) (pe_bltn (by rfl) z_bool (by decide +kernel) rfl) (by decide)) (je_isi (by rfl) z_isinstance (je_var 1) (pe_bltn (by rfl) z_bool (by decide +kernel) rfl) (by decide))) (je_one (je_cmp (op_eqP hu) eqI (je_cmp op_isAll isI (je_var 0) (je_non)) (je_cmp op_isAll isI (je_var 1) (je_non)))))))) (jss_nil)) (jss_one (js_ret (je_and (je_isi (by rfl) z_isinstance (je_var 0) (pe_bltn (by rfl) z_int (by decide +kernel) rfl) (by decide)) (je_and (je_not (je_isi (by rfl) z_isinstance (je_var 0) (pe_bltn (by rfl) z_bool (by decide +kernel) rfl) (by decide))) (je_one (je_cmp (op_eqP hu) eqI (je_var 0) (je_var 1))))))))), hm⟩, nargs_def⟩
theorem sc__law_signs : FnScope N__law_signs P__law_signs (defScope s__law_signs) := ⟨rfl, rfl, rfl, by decide +kernel, rfl, by decide +kernel, by decide +kernel⟩
set_option maxHeartbeats 0 in
theorem ok__law_signs {k : Nat} (z_ord : mg "ord" = none) (z_tuple : mg "tuple" = none) {f : Addr} {fd : FuncData} (Fu : Fun K "_law_signs" "_law_signs" s__law_signs f fd) (hm : mg "_law_signs" = some (.ref f)) : Cal P w K mg base (k + 1) "_law_signs" s__law_signs P__law_signs m__law_signs :=
  ⟨⟨f, fd, Fu, Fu.binds (ps := P__law_signs) (fun _ _ _ _ _ _ us hl => match us, hl with | [_], _ => rfl), ok_def (N := N__law_signs) (ps := P__law_signs) Fu sc__law_signs (fun cdv A outer s H E gu hr => by
    have hu : (A.deeper (envOfC "_law_signs" (defScope s__law_signs) s.heap.objs.size f cdv)).units + 64 < cLine := hr.units
    have nd := sc__law_signs.nd
    exact jss_one (js_ret (je_callTy call_tuple_of tupleI (by rfl) z_tuple (by decide +kernel) (ja_cons (je_lc (own := [("_law_sign", 1)]) rfl nd (ji_str (je_var 0)) (blkOk_by (N := N__law_signs) (sc := defScope s__law_signs) (by decide +kernel)) (fun _ _ _ _ _ => jg_name nd rfl (by first | exact Or.inl rfl | exact Or.inr rfl)) (fun _ _ _ _ _ => jts_nil) (fun _ _ _ _ _ => je_callB call_ord ordI (by rfl) z_ord (by decide +kernel) (ja_cons (je_var 1) (ja_nil)))) (ja_nil))))), hm⟩, nargs_def⟩
theorem sc__law_known : FnScope N__law_known P__law_known (defScope s__law_known) := ⟨rfl, rfl, rfl, by decide +kernel, rfl, by decide +kernel, by decide +kernel⟩
set_option maxHeartbeats 0 in
theorem ok__law_known {k : Nat} (C__law_signs : Cal P w K mg base k "_law_signs" s__law_signs P__law_signs m__law_signs) {f : Addr} {fd : FuncData} (Fu : Fun K "_law_known" "_law_known" s__law_known f fd) (hm : mg "_law_known" = some (.ref f)) : Cal P w K mg base (k + 1) "_law_known" s__law_known P__law_known m__law_known :=
  ⟨⟨f, fd, Fu, Fu.binds (ps := P__law_known) (fun _ _ _ _ _ _ us hl => match us, hl with | [_, _, _], _ => rfl), ok_def (N := N__law_known) (ps := P__law_known) Fu sc__law_known (fun cdv A outer s H E gu hr => by
    have hu : (A.deeper (envOfC "_law_known" (defScope s__law_known) s.heap.objs.size f cdv)).units + 64 < cLine := hr.units
    have nd := sc__law_known.nd
    exact jss_cons (js_set nd rfl (by first | exact Or.inl rfl | exact Or.inr rfl) (je_tup (ja_cons (je_tup (ja_cons (je_tup (ja_cons (je_str) (ja_cons (je_str) (ja_nil)))) (ja_cons (je_tup (ja_cons (je_str) (ja_cons (je_str) (ja_nil)))) (ja_nil)))) (ja_cons (je_tup (ja_cons (je_str) (ja_cons (je_callC gu hr C__law_signs (ja_cons (je_bin op_addB addBI (je_str) (je_bin op_mulAll mulI (je_str) (je_int))) (ja_nil))) (ja_nil)))) (ja_nil))))) (jss_cons (js_set nd rfl (by first | exact Or.inl rfl | exact Or.inr rfl) (je_tup (ja_cons (je_tup (ja_cons (je_str) (ja_cons (je_bin op_addB addBI (je_bin op_addB addBI (je_var 0) (je_str)) (je_var 1)) (ja_nil)))) (ja_cons (je_tup (ja_cons (je_str) (ja_cons (je_bin op_addB addBI (je_bin op_addB addBI (je_bin op_addB addBI (je_bin op_addB addBI (je_bin op_addB addBI (je_bin op_addB addBI (je_var 2) (je_str)) (je_var 1)) (je_str)) (je_var 0)) (je_str)) (je_var 0)) (ja_nil)))) (ja_cons (je_tup (ja_cons (je_str) (ja_cons (je_str) (ja_nil)))) (ja_cons (je_tup (ja_cons (je_str) (ja_cons (je_str) (ja_nil)))) (ja_nil))))))) (jss_cons (js_set nd rfl (by first | exact Or.inl rfl | exact Or.inr rfl) (je_tup (ja_cons (je_str) (ja_cons (je_tup (ja_cons (je_var 3) (ja_cons (je_tup (ja_cons (je_tup (ja_nil)) (ja_cons (je_tup (ja_cons (je_str) (ja_cons (je_tup (ja_cons (je_int) (ja_cons (je_int) (ja_cons (je_int) (ja_cons (je_int) (ja_cons (je_int) (ja_cons (je_int) (ja_cons (je_int) (ja_nil))))))))) (ja_nil)))) (ja_nil)))) (ja_nil)))) (ja_nil))))) (jss_one (js_ret (je_tup (ja_cons (je_var 4) (ja_cons (je_tup (ja_cons (je_str) (ja_cons (je_tup (ja_cons (je_tup (ja_cons (je_tup (ja_nil)) (ja_cons (je_tup (ja_cons (je_str) (ja_cons (je_callC gu hr C__law_signs (ja_cons (je_str) (ja_nil))) (ja_nil)))) (ja_nil)))) (ja_cons (je_tup (ja_cons (je_tup (ja_nil)) (ja_cons (je_var 5) (ja_nil)))) (ja_nil)))) (ja_nil)))) (ja_nil))))))))), hm⟩, nargs_def⟩
theorem sc__law_tests_right : FnScope N__law_tests_right P__law_tests_right (defScope s__law_tests_right) := ⟨rfl, rfl, rfl, by decide +kernel, rfl, by decide +kernel, by decide +kernel⟩
set_option maxHeartbeats 0 in
theorem ok__law_tests_right {k : Nat} (z_all : mg "all" = none) (C__law_same : Cal P w K mg base k "_law_same" s__law_same P__law_same m__law_same) (C_holds : Cal P w K mg base k "holds" s_holds P_holds m_holds) (C_words_of : Cal P w K mg base k "words_of" s_words_of P_words_of m_words_of) {f : Addr} {fd : FuncData} (Fu : Fun K "_law_tests_right" "_law_tests_right" s__law_tests_right f fd) (hm : mg "_law_tests_right" = some (.ref f)) : Cal P w K mg base (k + 1) "_law_tests_right" s__law_tests_right P__law_tests_right m__law_tests_right :=
  ⟨⟨f, fd, Fu, Fu.binds (ps := P__law_tests_right) (fun _ _ _ _ _ _ us hl => match us, hl with | [_, _, _, _], _ => rfl), ok_def (N := N__law_tests_right) (ps := P__law_tests_right) Fu sc__law_tests_right (fun cdv A outer s H E gu hr => by
    have hu : (A.deeper (envOfC "_law_tests_right" (defScope s__law_tests_right) s.heap.objs.size f cdv)).units + 64 < cLine := hr.units
    have nd := sc__law_tests_right.nd
    exact jss_cons (js_set nd rfl (by first | exact Or.inl rfl | exact Or.inr rfl) (je_lst (ja_cons (je_str) (ja_cons (je_str) (ja_cons (je_str) (ja_cons (je_str) (ja_cons (je_bin op_mulAll mulI (je_str) (je_int)) (ja_cons (je_str) (ja_cons (je_str) (ja_cons (je_str) (ja_cons (je_str) (ja_cons (je_str) (ja_cons (je_str) (ja_nil)))))))))))))) (jss_cons (js_if (jt_not (jt_val (je_callC gu hr C__law_same (ja_cons (je_callC gu hr C_words_of (ja_cons (je_var 0) (ja_nil))) (ja_cons (je_var 4) (ja_nil)))))) (jss_one (js_ret (je_bl))) (jss_nil)) (jss_cons (js_set nd rfl (by first | exact Or.inl rfl | exact Or.inr rfl) (je_lst (ja_cons (je_tup (ja_cons (je_str) (ja_cons (je_tup (ja_cons (je_var 1) (ja_cons (je_var 2) (ja_nil)))) (ja_nil)))) (ja_cons (je_tup (ja_cons (je_str) (ja_cons (je_tup (ja_cons (je_var 3) (ja_cons (je_var 2) (ja_nil)))) (ja_nil)))) (ja_cons (je_tup (ja_cons (je_str) (ja_cons (je_tup (ja_cons (je_var 1) (ja_cons (je_var 1) (ja_nil)))) (ja_nil)))) (ja_cons (je_tup (ja_cons (je_str) (ja_cons (je_str) (ja_nil)))) (ja_cons (je_tup (ja_cons (je_str) (ja_cons (je_str) (ja_nil)))) (ja_cons (je_tup (ja_cons (je_str) (ja_cons (je_int) (ja_nil)))) (ja_nil))))))))) (jss_cons (js_set nd rfl (by first | exact Or.inl rfl | exact Or.inr rfl) (je_lst (ja_cons (je_tup (ja_cons (je_str) (ja_cons (je_tup (ja_cons (je_var 2) (ja_cons (je_var 1) (ja_nil)))) (ja_nil)))) (ja_cons (je_tup (ja_cons (je_str) (ja_cons (je_tup (ja_cons (je_var 1) (ja_cons (je_var 2) (ja_nil)))) (ja_nil)))) (ja_cons (je_tup (ja_cons (je_str) (ja_cons (je_str) (ja_nil)))) (ja_cons (je_tup (ja_cons (je_str) (ja_cons (je_str) (ja_nil)))) (ja_cons (je_tup (ja_cons (je_str) (ja_cons (je_str) (ja_nil)))) (ja_cons (je_tup (ja_cons (je_str) (ja_cons (je_int) (ja_nil)))) (ja_nil))))))))) (jss_cons (js_set nd rfl (by first | exact Or.inl rfl | exact Or.inr rfl) (je_bin op_addB addBI (je_var 6) (je_lst (ja_cons (je_tup (ja_cons (je_str) (ja_nil))) (ja_cons (je_tup (ja_cons (je_str) (ja_cons (je_bin op_mulAll mulI (je_str) (je_int)) (ja_nil)))) (ja_cons (je_tup (ja_cons (je_str) (ja_cons (je_str) (ja_nil)))) (ja_nil))))))) (jss_cons (js_if (jt_not (jt_val (je_callB (cr_all rfl) allI (by rfl) z_all (by decide +kernel) (ja_cons (je_lc (own := [("_law_test", 8)]) rfl nd (ji_any (je_var 5)) (blkOk_by (N := N__law_tests_right) (sc := defScope s__law_tests_right) (by decide +kernel)) (fun _ _ _ _ _ => jg_name nd rfl (by first | exact Or.inl rfl | exact Or.inr rfl)) (fun _ _ _ _ _ => jts_nil) (fun _ _ _ _ _ => je_cmp op_isAll isI (je_callC gu hr C_holds (ja_cons (je_var 8) (ja_cons (je_var 0) (ja_nil)))) (je_bl))) (ja_nil))))) (jss_one (js_ret (je_bl))) (jss_nil)) (jss_cons (js_if (jt_not (jt_val (je_callB (cr_all rfl) allI (by rfl) z_all (by decide +kernel) (ja_cons (je_lc (own := [("_law_test", 8)]) rfl nd (ji_any (je_var 6)) (blkOk_by (N := N__law_tests_right) (sc := defScope s__law_tests_right) (by decide +kernel)) (fun _ _ _ _ _ => jg_name nd rfl (by first | exact Or.inl rfl | exact Or.inr rfl)) (fun _ _ _ _ _ => jts_nil) (fun _ _ _ _ _ => je_cmp op_isAll isI (je_callC gu hr C_holds (ja_cons (je_var 8) (ja_cons (je_var 0) (ja_nil)))) (je_bl))) (ja_nil))))) (jss_one (js_ret (je_bl))) (jss_nil)) (jss_cons (js_if (jt_cmp op_isnAll isnI (je_callC gu hr C_holds (ja_cons (je_tup (ja_cons (je_str) (ja_nil))) (ja_cons (je_tup (ja_cons (je_tup (ja_cons (je_tup (ja_cons (je_str) (ja_cons (je_str) (ja_nil)))) (ja_nil))) (ja_cons (je_tup (ja_cons (je_str) (ja_cons (je_tup (ja_nil)) (ja_nil)))) (ja_nil)))) (ja_nil)))) (je_bl)) (jss_one (js_ret (je_bl))) (jss_nil)) (jss_cons (js_set nd rfl (by first | exact Or.inl rfl | exact Or.inr rfl) (je_lst (ja_cons (je_tup (ja_cons (je_str) (ja_cons (je_ix ix_seq ixI (je_var 5) (je_int)) (ja_cons (je_tup (ja_cons (je_str) (ja_cons (je_ix ix_seq ixI (je_var 6) (je_int)) (ja_nil)))) (ja_nil))))) (ja_cons (je_tup (ja_cons (je_str) (ja_cons (je_ix ix_seq ixI (je_var 6) (je_int)) (ja_cons (je_ix ix_seq ixI (je_var 5) (je_int)) (ja_nil))))) (ja_cons (je_tup (ja_cons (je_str) (ja_cons (je_tup (ja_cons (je_str) (ja_cons (je_ix ix_seq ixI (je_var 5) (je_int)) (ja_cons (je_ix ix_seq ixI (je_var 6) (je_int)) (ja_nil))))) (ja_nil)))) (ja_nil)))))) (jss_one (js_ret (je_callB (cr_all rfl) allI (by rfl) z_all (by decide +kernel) (ja_cons (je_lc (own := [("_law_test", 8)]) rfl nd (ji_any (je_var 7)) (blkOk_by (N := N__law_tests_right) (sc := defScope s__law_tests_right) (by decide +kernel)) (fun _ _ _ _ _ => jg_name nd rfl (by first | exact Or.inl rfl | exact Or.inr rfl)) (fun _ _ _ _ _ => jts_nil) (fun _ _ _ _ _ => je_cmp op_isAll isI (je_callC gu hr C_holds (ja_cons (je_var 8) (ja_cons (je_var 0) (ja_nil)))) (je_bl))) (ja_nil)))))))))))))), hm⟩, nargs_def⟩
theorem sc__law_rules_right : FnScope N__law_rules_right P__law_rules_right (defScope s__law_rules_right) := ⟨rfl, rfl, rfl, by decide +kernel, rfl, by decide +kernel, by decide +kernel⟩
set_option maxHeartbeats 0 in
theorem ok__law_rules_right {k : Nat} (C__law_same : Cal P w K mg base k "_law_same" s__law_same P__law_same m__law_same) (C_judged : Cal P w K mg base k "judged" s_judged P_judged m_judged) {f : Addr} {fd : FuncData} (Fu : Fun K "_law_rules_right" "_law_rules_right" s__law_rules_right f fd) (hm : mg "_law_rules_right" = some (.ref f)) : Cal P w K mg base (k + 1) "_law_rules_right" s__law_rules_right P__law_rules_right m__law_rules_right :=
  ⟨⟨f, fd, Fu, Fu.binds (ps := P__law_rules_right) (fun _ _ _ _ _ _ us hl => match us, hl with | [_, _, _, _], _ => rfl), ok_def (N := N__law_rules_right) (ps := P__law_rules_right) Fu sc__law_rules_right (fun cdv A outer s H E gu hr => by
    have hu : (A.deeper (envOfC "_law_rules_right" (defScope s__law_rules_right) s.heap.objs.size f cdv)).units + 64 < cLine := hr.units
    have nd := sc__law_rules_right.nd
    exact jss_cons (js_asg (je_tup (ja_cons (je_tup (ja_cons (je_str) (ja_cons (je_str) (ja_nil)))) (ja_cons (je_tup (ja_cons (je_str) (ja_nil))) (ja_nil)))) (jg_tup rfl (jgs_cons (jg_name nd rfl (by first | exact Or.inl rfl | exact Or.inr rfl)) (jgs_cons (jg_name nd rfl (by first | exact Or.inl rfl | exact Or.inr rfl)) (jgs_nil))))) (jss_cons (js_setC nd rfl (by first | exact Or.inl rfl | exact Or.inr rfl) (je_lst (ja_cons (je_tup (ja_cons (je_tup (ja_cons (je_var 4) (ja_cons (je_tup (ja_cons (je_tup (ja_cons (je_str) (ja_cons (je_var 1) (ja_nil)))) (ja_cons (je_tup (ja_cons (je_str) (ja_nil))) (ja_cons (je_tup (ja_cons (je_str) (ja_nil))) (ja_nil))))) (ja_nil)))) (ja_cons (je_tup (ja_cons (je_var 4) (ja_cons (je_tup (ja_cons (je_tup (ja_cons (je_str) (ja_cons (je_var 2) (ja_nil)))) (ja_nil))) (ja_nil)))) (ja_nil)))) (ja_nil)))) (jss_cons (js_expr (je_cm PySem.F.slot_list_append PySem.F.type_list_append mt_append appI (je_var 6) (ja_cons (je_tup (ja_cons (je_tup (ja_cons (je_var 4) (ja_cons (je_tup (ja_cons (je_tup (ja_cons (je_str) (ja_cons (je_var 1) (ja_nil)))) (ja_cons (je_tup (ja_cons (je_str) (ja_cons (je_var 2) (ja_nil)))) (ja_cons (je_tup (ja_cons (je_str) (ja_nil))) (ja_cons (je_tup (ja_cons (je_str) (ja_nil))) (ja_nil)))))) (ja_nil)))) (ja_cons (je_tup (ja_cons (je_var 4) (ja_cons (je_tup (ja_cons (je_tup (ja_cons (je_str) (ja_cons (je_var 3) (ja_nil)))) (ja_nil))) (ja_nil)))) (ja_nil)))) (ja_nil)))) (jss_cons (js_expr (je_cm PySem.F.slot_list_append PySem.F.type_list_append mt_append appI (je_var 6) (ja_cons (je_tup (ja_cons (je_tup (ja_cons (je_var 4) (ja_cons (je_tup (ja_cons (je_tup (ja_cons (je_str) (ja_cons (je_var 1) (ja_nil)))) (ja_cons (je_tup (ja_cons (je_str) (ja_cons (je_var 3) (ja_nil)))) (ja_nil)))) (ja_nil)))) (ja_cons (je_tup (ja_cons (je_var 5) (ja_cons (je_tup (ja_cons (je_tup (ja_cons (je_str) (ja_nil))) (ja_nil))) (ja_nil)))) (ja_cons (je_tup (ja_cons (je_var 4) (ja_cons (je_tup (ja_cons (je_tup (ja_cons (je_str) (ja_cons (je_var 1) (ja_nil)))) (ja_cons (je_tup (ja_cons (je_str) (ja_cons (je_var 2) (ja_nil)))) (ja_nil)))) (ja_nil)))) (ja_nil))))) (ja_nil)))) (jss_cons (js_expr (je_cm PySem.F.slot_list_append PySem.F.type_list_append mt_append appI (je_var 6) (ja_cons (je_tup (ja_cons (je_tup (ja_cons (je_var 4) (ja_cons (je_tup (ja_cons (je_tup (ja_cons (je_str) (ja_cons (je_str) (ja_nil)))) (ja_cons (je_tup (ja_cons (je_str) (ja_cons (je_str) (ja_nil)))) (ja_cons (je_tup (ja_cons (je_str) (ja_cons (je_str) (ja_nil)))) (ja_nil))))) (ja_nil)))) (ja_cons (je_tup (ja_cons (je_var 4) (ja_cons (je_tup (ja_cons (je_tup (ja_cons (je_str) (ja_cons (je_str) (ja_nil)))) (ja_nil))) (ja_nil)))) (ja_nil)))) (ja_nil)))) (jss_cons (js_expr (je_cm PySem.F.slot_list_append PySem.F.type_list_append mt_append appI (je_var 6) (ja_cons (je_tup (ja_cons (je_tup (ja_cons (je_var 4) (ja_cons (je_tup (ja_cons (je_tup (ja_cons (je_str) (ja_cons (je_tup (ja_cons (je_var 1) (ja_cons (je_var 2) (ja_nil)))) (ja_nil)))) (ja_nil))) (ja_nil)))) (ja_cons (je_tup (ja_cons (je_var 4) (ja_cons (je_tup (ja_cons (je_tup (ja_cons (je_str) (ja_cons (je_tup (ja_cons (je_var 1) (ja_cons (je_var 2) (ja_nil)))) (ja_nil)))) (ja_cons (je_tup (ja_cons (je_str) (ja_cons (je_tup (ja_cons (je_var 3) (ja_cons (je_var 2) (ja_nil)))) (ja_nil)))) (ja_nil)))) (ja_nil)))) (ja_nil)))) (ja_nil)))) (jss_cons (js_expr (je_cm PySem.F.slot_list_append PySem.F.type_list_append mt_append appI (je_var 6) (ja_cons (je_tup (ja_cons (je_tup (ja_cons (je_var 4) (ja_cons (je_tup (ja_cons (je_tup (ja_cons (je_str) (ja_cons (je_tup (ja_cons (je_var 1) (ja_cons (je_var 2) (ja_nil)))) (ja_nil)))) (ja_cons (je_tup (ja_cons (je_str) (ja_cons (je_var 3) (ja_nil)))) (ja_cons (je_tup (ja_cons (je_str) (ja_nil))) (ja_nil))))) (ja_nil)))) (ja_cons (je_tup (ja_cons (je_var 5) (ja_cons (je_tup (ja_cons (je_tup (ja_cons (je_str) (ja_nil))) (ja_nil))) (ja_nil)))) (ja_cons (je_tup (ja_cons (je_var 4) (ja_cons (je_tup (ja_cons (je_tup (ja_cons (je_str) (ja_cons (je_var 3) (ja_nil)))) (ja_nil))) (ja_nil)))) (ja_nil))))) (ja_nil)))) (jss_cons (js_expr (je_cm PySem.F.slot_list_append PySem.F.type_list_append mt_append appI (je_var 6) (ja_cons (je_tup (ja_cons (je_tup (ja_cons (je_var 4) (ja_cons (je_tup (ja_cons (je_tup (ja_cons (je_str) (ja_cons (je_var 1) (ja_nil)))) (ja_nil))) (ja_nil)))) (ja_cons (je_tup (ja_cons (je_var 5) (ja_cons (je_tup (ja_cons (je_tup (ja_cons (je_str) (ja_cons (je_var 2) (ja_nil)))) (ja_nil))) (ja_nil)))) (ja_nil)))) (ja_nil)))) (jss_cons (js_stl (i := 6) (js_setLc (own := [("_law_one", 9)]) rfl nd rfl rfl (sw_true rfl rfl rfl (by decide +kernel)) (ji_any (je_var 6)) (blkOk_by (N := N__law_rules_right) (sc := defScope s__law_rules_right) (by decide +kernel)) (fun _ _ _ _ _ => jg_name nd rfl (by first | exact Or.inl rfl | exact Or.inr rfl)) (fun _ _ _ _ _ => jts_nil) (fun _ _ _ _ _ => je_callC gu hr C_judged (ja_cons (je_var 9) (ja_cons (je_var 0) (ja_nil)))))) (jss_cons (js_setC nd rfl (by first | exact Or.inl rfl | exact Or.inr rfl) (je_lst (ja_cons (je_tup (ja_cons (je_tup (ja_cons (je_var 1) (ja_nil))) (ja_cons (je_tup (ja_nil)) (ja_cons (je_tup (ja_nil)) (ja_cons (je_tup (ja_nil)) (ja_nil)))))) (ja_cons (je_tup (ja_cons (je_tup (ja_nil)) (ja_cons (je_tup (ja_cons (je_var 2) (ja_nil))) (ja_cons (je_tup (ja_nil)) (ja_cons (je_tup (ja_nil)) (ja_nil)))))) (ja_cons (je_tup (ja_cons (je_tup (ja_cons (je_var 1) (ja_cons (je_var 3) (ja_cons (je_var 2) (ja_nil))))) (ja_cons (je_tup (ja_nil)) (ja_cons (je_tup (ja_nil)) (ja_cons (je_tup (ja_nil)) (ja_nil)))))) (ja_nil)))))) (jss_cons (js_expr (je_cm PySem.F.slot_list_append PySem.F.type_list_append mt_append appI (je_var 8) (ja_cons (je_tup (ja_cons (je_tup (ja_cons (je_str) (ja_nil))) (ja_cons (je_tup (ja_nil)) (ja_cons (je_tup (ja_nil)) (ja_cons (je_tup (ja_cons (je_tup (ja_cons (je_int) (ja_cons (je_str) (ja_nil)))) (ja_cons (je_tup (ja_cons (je_int) (ja_cons (je_str) (ja_nil)))) (ja_cons (je_tup (ja_cons (je_int) (ja_cons (je_str) (ja_nil)))) (ja_nil))))) (ja_nil)))))) (ja_nil)))) (jss_cons (js_setC nd rfl (by first | exact Or.inl rfl | exact Or.inr rfl) (je_bin op_addB addBI (je_var 8) (je_lst (ja_cons (je_tup (ja_cons (je_tup (ja_nil)) (ja_cons (je_tup (ja_nil)) (ja_cons (je_tup (ja_cons (je_tup (ja_cons (je_var 1) (ja_cons (je_var 2) (ja_nil)))) (ja_cons (je_tup (ja_cons (je_var 3) (ja_cons (je_var 2) (ja_nil)))) (ja_nil)))) (ja_cons (je_tup (ja_nil)) (ja_nil)))))) (ja_cons (je_tup (ja_cons (je_tup (ja_nil)) (ja_cons (je_tup (ja_cons (je_var 3) (ja_nil))) (ja_cons (je_tup (ja_cons (je_tup (ja_cons (je_var 1) (ja_cons (je_var 2) (ja_nil)))) (ja_nil))) (ja_cons (je_tup (ja_nil)) (ja_nil)))))) (ja_cons (je_tup (ja_cons (je_tup (ja_cons (je_str) (ja_nil))) (ja_cons (je_tup (ja_cons (je_var 1) (ja_nil))) (ja_cons (je_tup (ja_nil)) (ja_cons (je_tup (ja_nil)) (ja_nil)))))) (ja_nil))))))) (jss_one (js_stl (i := 8) (js_ret (je_callC gu hr C__law_same (ja_cons (je_var 7) (ja_cons (je_var 8) (ja_nil))))))))))))))))))), hm⟩, nargs_def⟩
theorem sc__law_right : FnScope N__law_right P__law_right (defScope s__law_right) := ⟨rfl, rfl, rfl, by decide +kernel, rfl, by decide +kernel, by decide +kernel⟩
set_option maxHeartbeats 0 in
theorem ok__law_right {k : Nat} (C__law_known : Cal P w K mg base k "_law_known" s__law_known P__law_known m__law_known) (C__law_names : Cal P w K mg base k "_law_names" s__law_names P__law_names m__law_names) (C__law_rules_right : Cal P w K mg base k "_law_rules_right" s__law_rules_right P__law_rules_right m__law_rules_right) (C__law_tests_right : Cal P w K mg base k "_law_tests_right" s__law_tests_right P__law_tests_right m__law_tests_right) {f : Addr} {fd : FuncData} (Fu : Fun K "_law_right" "_law_right" s__law_right f fd) (hm : mg "_law_right" = some (.ref f)) : Cal P w K mg base (k + 1) "_law_right" s__law_right P__law_right m__law_right :=
  ⟨⟨f, fd, Fu, Fu.binds (ps := P__law_right) (fun _ _ _ _ _ _ us hl => match us, hl with | [_], _ => rfl), ok_def (N := N__law_right) (ps := P__law_right) Fu sc__law_right (fun cdv A outer s H E gu hr => by
    have hu : (A.deeper (envOfC "_law_right" (defScope s__law_right) s.heap.objs.size f cdv)).units + 64 < cLine := hr.units
    have nd := sc__law_right.nd
    exact jss_cons (js_asg (je_callC gu hr C__law_names (ja_cons (je_var 0) (ja_cons (je_int) (ja_nil)))) (jg_unp rfl (jgs_cons (jg_name nd rfl (by first | exact Or.inl rfl | exact Or.inr rfl)) (jgs_cons (jg_name nd rfl (by first | exact Or.inl rfl | exact Or.inr rfl)) (jgs_cons (jg_name nd rfl (by first | exact Or.inl rfl | exact Or.inr rfl)) (jgs_nil)))))) (jss_cons (js_set nd rfl (by first | exact Or.inl rfl | exact Or.inr rfl) (je_callC gu hr C__law_known (ja_cons (je_var 1) (ja_cons (je_var 2) (ja_cons (je_var 3) (ja_nil)))))) (jss_one (js_ret (je_and (je_callC gu hr C__law_tests_right (ja_cons (je_var 4) (ja_cons (je_var 1) (ja_cons (je_var 2) (ja_cons (je_var 3) (ja_nil)))))) (je_one (je_callC gu hr C__law_rules_right (ja_cons (je_var 4) (ja_cons (je_var 1) (ja_cons (je_var 2) (ja_cons (je_var 3) (ja_nil)))))))))))), hm⟩, nargs_def⟩
theorem sc_law : FnScope N_law P_law (defScope s_law) := ⟨rfl, rfl, rfl, by decide +kernel, rfl, by decide +kernel, by decide +kernel⟩
set_option maxHeartbeats 0 in
theorem ok_law {k : Nat} (z_all : mg "all" = none) (z_len : mg "len" = none) (z_min : mg "min" = none) (z_range : mg "range" = none) (C__law_box : Cal P w K mg base k "_law_box" s__law_box P__law_box m__law_box) (C__law_right : Cal P w K mg base k "_law_right" s__law_right P__law_right m__law_right) {f : Addr} {fd : FuncData} (Fu : Fun K "law" "law" s_law f fd) (hm : mg "law" = some (.ref f)) : Cal P w K mg base (k + 1) "law" s_law P_law m_law :=
  ⟨⟨f, fd, Fu, Fu.binds (ps := P_law) (fun _ _ _ _ _ _ us hl => match us, hl with | [_], _ => rfl), ok_def (N := N_law) (ps := P_law) Fu sc_law (fun cdv A outer s H E gu hr => by
    have hu : (A.deeper (envOfC "law" (defScope s_law) s.heap.objs.size f cdv)).units + 64 < cLine := hr.units
    have nd := sc_law.nd
    exact jss_one (js_ret (je_callB (cr_all rfl) allI (by rfl) z_all (by decide +kernel) (ja_cons (je_lc (own := [("_law_k", 1)]) rfl nd (ji_rng1 (by rfl) z_range (ja_cons (je_bin op_addB addBI (je_int) (je_callB (call_min2 rfl) min2I (by rfl) z_min (by decide +kernel) (ja_cons (je_int) (ja_cons (je_callB call_len lenI (by rfl) z_len (by decide +kernel) (ja_cons (je_var 0) (ja_nil))) (ja_nil))))) (ja_nil))) (blkOk_by (N := N_law) (sc := defScope s_law) (by decide +kernel)) (fun _ _ _ _ _ => jg_name nd rfl (by first | exact Or.inl rfl | exact Or.inr rfl)) (fun _ _ _ _ _ => jts_nil) (fun _ _ _ _ _ => je_callC gu hr C__law_right (ja_consC (je_callC gu hr C__law_box (ja_cons (je_var 0) (ja_cons (je_var 1) (ja_nil)))) (ja_nil)))) (ja_nil))))), hm⟩, nargs_def⟩
theorem rec_as_tuples {k : Nat} (z_isinstance : mg "isinstance" = none) (z_list : mg "list" = none) (z_tuple : mg "tuple" = none) {f_as_tuples : Addr} {d_as_tuples : FuncData} (F_as_tuples : Fun K "as_tuples" "as_tuples" s_as_tuples f_as_tuples d_as_tuples) (h_as_tuples : mg "as_tuples" = some (.ref f_as_tuples)) : ∀ n : Nat, Cal P w K mg base (k + n) "as_tuples" s_as_tuples P_as_tuples (r_as_tuples n)
  | 0 => Cal.bad F_as_tuples (F_as_tuples.binds (ps := P_as_tuples) (fun _ _ _ _ _ _ us hl => match us, hl with | [_], _ => rfl)) h_as_tuples
  | n + 1 => match rec_as_tuples (k := k) z_isinstance z_list z_tuple F_as_tuples h_as_tuples n with
    | h0 => ok_as_tuples (k := k + n) (as_tuples_r := r_as_tuples n) z_isinstance z_list z_tuple h0 F_as_tuples h_as_tuples
theorem rec_writings_of {k : Nat} {t_WORDS : Tok} (c_WORDS : mg "WORDS" = some (.str "words" t_WORDS)) {f_writings_of : Addr} {d_writings_of : FuncData} (F_writings_of : Fun K "writings_of" "writings_of" s_writings_of f_writings_of d_writings_of) (h_writings_of : mg "writings_of" = some (.ref f_writings_of)) : ∀ n : Nat, Cal P w K mg base (k + n) "writings_of" s_writings_of P_writings_of (r_writings_of n)
  | 0 => Cal.bad F_writings_of (F_writings_of.binds (ps := P_writings_of) (fun _ _ _ _ _ _ us hl => match us, hl with | [_], _ => rfl)) h_writings_of
  | n + 1 => match rec_writings_of (k := k) c_WORDS F_writings_of h_writings_of n with
    | h0 => ok_writings_of (k := k + n) (writings_of_r := r_writings_of n) c_WORDS h0 F_writings_of h_writings_of
theorem rec_holds_by {k : Nat} (z_all : mg "all" = none) (z_any : mg "any" = none) {t_ANY : Tok} (c_ANY : mg "ANY" = some (.str "any" t_ANY)) {t_BOTH : Tok} (c_BOTH : mg "BOTH" = some (.str "both" t_BOTH)) {t_NOT : Tok} (c_NOT : mg "NOT" = some (.str "not" t_NOT)) {f0 c0 a0 : Addr} {kL : Nat} {lp : Arguments} {lb : Expr} {ls : Scope} (hkL : kL + 1 ≤ k) (L : LamM P w K mg base kL "holds.<locals>.<lambda>" lp lb ls N_lam_holds "plain" "own" mb_holds) (LB : LamB base f0 c0 a0 "holds.<locals>.<lambda>" lp lb ls "own") {f_holds_by : Addr} {d_holds_by : FuncData} (F_holds_by : Fun K "holds_by" "holds_by" s_holds_by f_holds_by d_holds_by) (h_holds_by : mg "holds_by" = some (.ref f_holds_by)) : ∀ n : Nat, Cal P w K mg base (k + n) "holds_by" s_holds_by P_holds_by (r_holds_by f0 c0 a0 n)
  | 0 => Cal.bad F_holds_by (F_holds_by.binds (ps := P_holds_by) (fun _ _ _ _ _ _ us hl => match us, hl with | [_, _], _ => rfl)) h_holds_by
  | n + 1 => match rec_holds_by (k := k) z_all z_any c_ANY c_BOTH c_NOT hkL L LB F_holds_by h_holds_by n with
    | h0 => ok_holds_by (k := k + n) (holds_by_r := r_holds_by f0 c0 a0 n) z_all z_any c_ANY c_BOTH c_NOT h0 (Nat.le_trans hkL (Nat.le_add_right _ _)) L LB F_holds_by h_holds_by
theorem rec__law_same {k : Nat} (z_all : mg "all" = none) (z_bool : mg "bool" = none) (z_int : mg "int" = none) (z_isinstance : mg "isinstance" = none) (z_len : mg "len" = none) (z_list : mg "list" = none) (z_str : mg "str" = none) (z_tuple : mg "tuple" = none) (z_zip : mg "zip" = none) {f__law_same : Addr} {d__law_same : FuncData} (F__law_same : Fun K "_law_same" "_law_same" s__law_same f__law_same d__law_same) (h__law_same : mg "_law_same" = some (.ref f__law_same)) : ∀ n : Nat, Cal P w K mg base (k + n) "_law_same" s__law_same P__law_same (r__law_same n)
  | 0 => Cal.bad F__law_same (F__law_same.binds (ps := P__law_same) (fun _ _ _ _ _ _ us hl => match us, hl with | [_, _], _ => rfl)) h__law_same
  | n + 1 => match rec__law_same (k := k) z_all z_bool z_int z_isinstance z_len z_list z_str z_tuple z_zip F__law_same h__law_same n with
    | h0 => ok__law_same (k := k + n) (_law_same_r := r__law_same n) z_all z_bool z_int z_isinstance z_len z_list z_str z_tuple z_zip h0 F__law_same h__law_same
theorem all_mk {h : Heap} {fa : Addr} (X : K.In h) (G : h.Ns mainGlobals mg) (hfa : mg "law" = some (.ref fa)) (own : OwnT K ["holds"] h)
    {f_writing_of : Addr} {oc0 kV0 dc0 pm0 cd0 ct0 : Value} {od0 an0 : Option Addr} {sl0 : Array (Option Value)} (a0 : PySem.W.nsIn K mainGlobals "writing_of" = some (some (.ref f_writing_of))) (l0 : K.lookup f_writing_of = some ⟨oc0, od0, .func (PySem.W.fnOf "writing_of" "writing_of" (defArgs s_writing_of) (defBody s_writing_of) (defScope s_writing_of) .none kV0 dc0 pm0 an0 cd0 ct0), sl0⟩) (e0 : PySem.W.codeIn K cd0 "writing_of" = true) (k0 : PySem.W.keepIn K (.ref f_writing_of) = true)
    {f_address_text : Addr} {oc1 kV1 dc1 pm1 cd1 ct1 : Value} {od1 an1 : Option Addr} {sl1 : Array (Option Value)} (a1 : PySem.W.nsIn K mainGlobals "address_text" = some (some (.ref f_address_text))) (l1 : K.lookup f_address_text = some ⟨oc1, od1, .func (PySem.W.fnOf "address_text" "address_text" (defArgs s_address_text) (defBody s_address_text) (defScope s_address_text) .none kV1 dc1 pm1 an1 cd1 ct1), sl1⟩) (e1 : PySem.W.codeIn K cd1 "address_text" = true) (k1 : PySem.W.keepIn K (.ref f_address_text) = true)
    {f_as_tuples : Addr} {oc2 kV2 dc2 pm2 cd2 ct2 : Value} {od2 an2 : Option Addr} {sl2 : Array (Option Value)} (a2 : PySem.W.nsIn K mainGlobals "as_tuples" = some (some (.ref f_as_tuples))) (l2 : K.lookup f_as_tuples = some ⟨oc2, od2, .func (PySem.W.fnOf "as_tuples" "as_tuples" (defArgs s_as_tuples) (defBody s_as_tuples) (defScope s_as_tuples) .none kV2 dc2 pm2 an2 cd2 ct2), sl2⟩) (e2 : PySem.W.codeIn K cd2 "as_tuples" = true) (k2 : PySem.W.keepIn K (.ref f_as_tuples) = true)
    {f_head_of : Addr} {oc3 kV3 dc3 pm3 cd3 ct3 : Value} {od3 an3 : Option Addr} {sl3 : Array (Option Value)} (a3 : PySem.W.nsIn K mainGlobals "head_of" = some (some (.ref f_head_of))) (l3 : K.lookup f_head_of = some ⟨oc3, od3, .func (PySem.W.fnOf "head_of" "head_of" (defArgs s_head_of) (defBody s_head_of) (defScope s_head_of) .none kV3 dc3 pm3 an3 cd3 ct3), sl3⟩) (e3 : PySem.W.codeIn K cd3 "head_of" = true) (k3 : PySem.W.keepIn K (.ref f_head_of) = true)
    {f_writings_of : Addr} {oc4 kV4 dc4 pm4 cd4 ct4 : Value} {od4 an4 : Option Addr} {sl4 : Array (Option Value)} (a4 : PySem.W.nsIn K mainGlobals "writings_of" = some (some (.ref f_writings_of))) (l4 : K.lookup f_writings_of = some ⟨oc4, od4, .func (PySem.W.fnOf "writings_of" "writings_of" (defArgs s_writings_of) (defBody s_writings_of) (defScope s_writings_of) .none kV4 dc4 pm4 an4 cd4 ct4), sl4⟩) (e4 : PySem.W.codeIn K cd4 "writings_of" = true) (k4 : PySem.W.keepIn K (.ref f_writings_of) = true)
    {f_letter_writings : Addr} {oc5 kV5 dc5 pm5 cd5 ct5 : Value} {od5 an5 : Option Addr} {sl5 : Array (Option Value)} (a5 : PySem.W.nsIn K mainGlobals "letter_writings" = some (some (.ref f_letter_writings))) (l5 : K.lookup f_letter_writings = some ⟨oc5, od5, .func (PySem.W.fnOf "letter_writings" "letter_writings" (defArgs s_letter_writings) (defBody s_letter_writings) (defScope s_letter_writings) .none kV5 dc5 pm5 an5 cd5 ct5), sl5⟩) (e5 : PySem.W.codeIn K cd5 "letter_writings" = true) (k5 : PySem.W.keepIn K (.ref f_letter_writings) = true)
    {f_small_sign : Addr} {oc6 kV6 dc6 pm6 cd6 ct6 : Value} {od6 an6 : Option Addr} {sl6 : Array (Option Value)} (a6 : PySem.W.nsIn K mainGlobals "small_sign" = some (some (.ref f_small_sign))) (l6 : K.lookup f_small_sign = some ⟨oc6, od6, .func (PySem.W.fnOf "small_sign" "small_sign" (defArgs s_small_sign) (defBody s_small_sign) (defScope s_small_sign) .none kV6 dc6 pm6 an6 cd6 ct6), sl6⟩) (e6 : PySem.W.codeIn K cd6 "small_sign" = true) (k6 : PySem.W.keepIn K (.ref f_small_sign) = true)
    {f_words_in : Addr} {oc7 kV7 dc7 pm7 cd7 ct7 : Value} {od7 an7 : Option Addr} {sl7 : Array (Option Value)} (a7 : PySem.W.nsIn K mainGlobals "words_in" = some (some (.ref f_words_in))) (l7 : K.lookup f_words_in = some ⟨oc7, od7, .func (PySem.W.fnOf "words_in" "words_in" (defArgs s_words_in) (defBody s_words_in) (defScope s_words_in) .none kV7 dc7 pm7 an7 cd7 ct7), sl7⟩) (e7 : PySem.W.codeIn K cd7 "words_in" = true) (k7 : PySem.W.keepIn K (.ref f_words_in) = true)
    {f_words_of : Addr} {oc8 kV8 dc8 pm8 cd8 ct8 : Value} {od8 an8 : Option Addr} {sl8 : Array (Option Value)} (a8 : PySem.W.nsIn K mainGlobals "words_of" = some (some (.ref f_words_of))) (l8 : K.lookup f_words_of = some ⟨oc8, od8, .func (PySem.W.fnOf "words_of" "words_of" (defArgs s_words_of) (defBody s_words_of) (defScope s_words_of) .none kV8 dc8 pm8 an8 cd8 ct8), sl8⟩) (e8 : PySem.W.codeIn K cd8 "words_of" = true) (k8 : PySem.W.keepIn K (.ref f_words_of) = true)
    {f_test_from : Addr} {oc9 kV9 dc9 pm9 cd9 ct9 : Value} {od9 an9 : Option Addr} {sl9 : Array (Option Value)} (a9 : PySem.W.nsIn K mainGlobals "test_from" = some (some (.ref f_test_from))) (l9 : K.lookup f_test_from = some ⟨oc9, od9, .func (PySem.W.fnOf "test_from" "test_from" (defArgs s_test_from) (defBody s_test_from) (defScope s_test_from) .none kV9 dc9 pm9 an9 cd9 ct9), sl9⟩) (e9 : PySem.W.codeIn K cd9 "test_from" = true) (k9 : PySem.W.keepIn K (.ref f_test_from) = true)
    {f_test_to : Addr} {oc10 kV10 dc10 pm10 cd10 ct10 : Value} {od10 an10 : Option Addr} {sl10 : Array (Option Value)} (a10 : PySem.W.nsIn K mainGlobals "test_to" = some (some (.ref f_test_to))) (l10 : K.lookup f_test_to = some ⟨oc10, od10, .func (PySem.W.fnOf "test_to" "test_to" (defArgs s_test_to) (defBody s_test_to) (defScope s_test_to) .none kV10 dc10 pm10 an10 cd10 ct10), sl10⟩) (e10 : PySem.W.codeIn K cd10 "test_to" = true) (k10 : PySem.W.keepIn K (.ref f_test_to) = true)
    {f_test_word : Addr} {oc11 kV11 dc11 pm11 cd11 ct11 : Value} {od11 an11 : Option Addr} {sl11 : Array (Option Value)} (a11 : PySem.W.nsIn K mainGlobals "test_word" = some (some (.ref f_test_word))) (l11 : K.lookup f_test_word = some ⟨oc11, od11, .func (PySem.W.fnOf "test_word" "test_word" (defArgs s_test_word) (defBody s_test_word) (defScope s_test_word) .none kV11 dc11 pm11 an11 cd11 ct11), sl11⟩) (e11 : PySem.W.codeIn K cd11 "test_word" = true) (k11 : PySem.W.keepIn K (.ref f_test_word) = true)
    {f_test_about : Addr} {oc12 kV12 dc12 pm12 cd12 ct12 : Value} {od12 an12 : Option Addr} {sl12 : Array (Option Value)} (a12 : PySem.W.nsIn K mainGlobals "test_about" = some (some (.ref f_test_about))) (l12 : K.lookup f_test_about = some ⟨oc12, od12, .func (PySem.W.fnOf "test_about" "test_about" (defArgs s_test_about) (defBody s_test_about) (defScope s_test_about) .none kV12 dc12 pm12 an12 cd12 ct12), sl12⟩) (e12 : PySem.W.codeIn K cd12 "test_about" = true) (k12 : PySem.W.keepIn K (.ref f_test_about) = true)
    {f_test_longer : Addr} {oc13 kV13 dc13 pm13 cd13 ct13 : Value} {od13 an13 : Option Addr} {sl13 : Array (Option Value)} (a13 : PySem.W.nsIn K mainGlobals "test_longer" = some (some (.ref f_test_longer))) (l13 : K.lookup f_test_longer = some ⟨oc13, od13, .func (PySem.W.fnOf "test_longer" "test_longer" (defArgs s_test_longer) (defBody s_test_longer) (defScope s_test_longer) .none kV13 dc13 pm13 an13 cd13 ct13), sl13⟩) (e13 : PySem.W.codeIn K cd13 "test_longer" = true) (k13 : PySem.W.keepIn K (.ref f_test_longer) = true)
    {f_holds_plain : Addr} {oc14 kV14 dc14 pm14 cd14 ct14 : Value} {od14 an14 : Option Addr} {sl14 : Array (Option Value)} (a14 : PySem.W.nsIn K mainGlobals "holds_plain" = some (some (.ref f_holds_plain))) (l14 : K.lookup f_holds_plain = some ⟨oc14, od14, .func (PySem.W.fnOf "holds_plain" "holds_plain" (defArgs s_holds_plain) (defBody s_holds_plain) (defScope s_holds_plain) .none kV14 dc14 pm14 an14 cd14 ct14), sl14⟩) (e14 : PySem.W.codeIn K cd14 "holds_plain" = true) (k14 : PySem.W.keepIn K (.ref f_holds_plain) = true)
    {f_holds_by : Addr} {oc15 kV15 dc15 pm15 cd15 ct15 : Value} {od15 an15 : Option Addr} {sl15 : Array (Option Value)} (a15 : PySem.W.nsIn K mainGlobals "holds_by" = some (some (.ref f_holds_by))) (l15 : K.lookup f_holds_by = some ⟨oc15, od15, .func (PySem.W.fnOf "holds_by" "holds_by" (defArgs s_holds_by) (defBody s_holds_by) (defScope s_holds_by) .none kV15 dc15 pm15 an15 cd15 ct15), sl15⟩) (e15 : PySem.W.codeIn K cd15 "holds_by" = true) (k15 : PySem.W.keepIn K (.ref f_holds_by) = true)
    {cH PH : Addr} {eH : Value} {ddH : Option Addr} {vsH : Array Value} {slH : Array (Option Value)}
    {f_holds : Addr} {oc16 kV16 dc16 pm16 ct16 : Value} {od16 an16 : Option Addr} {sl16 : Array (Option Value)} (a16 : PySem.W.nsIn K mainGlobals "holds" = some (some (.ref f_holds))) (l16 : K.lookup f_holds = some ⟨oc16, od16, .func (PySem.W.fnOf "holds" "holds" (defArgs s_holds) (defBody s_holds) (defScope s_holds) .none kV16 dc16 pm16 an16 (.ref cH) ct16), sl16⟩) (e16 : PySem.W.codeIn K (.ref cH) "holds" = true) (k16 : PySem.W.keepIn K (.ref f_holds) = true)
    (lcH : K.lookup cH = some ⟨eH, ddH, .fields vsH, slH⟩) (tH : (vsH[11]? : Option Value) = some (.ref PH)) (nH : K.lookup PH = none) (hH : PySem.W.codeHdIn K cH PH = true)
    {f_deeds_due : Addr} {oc17 kV17 dc17 pm17 cd17 ct17 : Value} {od17 an17 : Option Addr} {sl17 : Array (Option Value)} (a17 : PySem.W.nsIn K mainGlobals "deeds_due" = some (some (.ref f_deeds_due))) (l17 : K.lookup f_deeds_due = some ⟨oc17, od17, .func (PySem.W.fnOf "deeds_due" "deeds_due" (defArgs s_deeds_due) (defBody s_deeds_due) (defScope s_deeds_due) .none kV17 dc17 pm17 an17 cd17 ct17), sl17⟩) (e17 : PySem.W.codeIn K cd17 "deeds_due" = true) (k17 : PySem.W.keepIn K (.ref f_deeds_due) = true)
    {f_told_once : Addr} {oc18 kV18 dc18 pm18 cd18 ct18 : Value} {od18 an18 : Option Addr} {sl18 : Array (Option Value)} (a18 : PySem.W.nsIn K mainGlobals "told_once" = some (some (.ref f_told_once))) (l18 : K.lookup f_told_once = some ⟨oc18, od18, .func (PySem.W.fnOf "told_once" "told_once" (defArgs s_told_once) (defBody s_told_once) (defScope s_told_once) .none kV18 dc18 pm18 an18 cd18 ct18), sl18⟩) (e18 : PySem.W.codeIn K cd18 "told_once" = true) (k18 : PySem.W.keepIn K (.ref f_told_once) = true)
    {f_judged : Addr} {oc19 kV19 dc19 pm19 cd19 ct19 : Value} {od19 an19 : Option Addr} {sl19 : Array (Option Value)} (a19 : PySem.W.nsIn K mainGlobals "judged" = some (some (.ref f_judged))) (l19 : K.lookup f_judged = some ⟨oc19, od19, .func (PySem.W.fnOf "judged" "judged" (defArgs s_judged) (defBody s_judged) (defScope s_judged) .none kV19 dc19 pm19 an19 cd19 ct19), sl19⟩) (e19 : PySem.W.codeIn K cd19 "judged" = true) (k19 : PySem.W.keepIn K (.ref f_judged) = true)
    {f__law_box : Addr} {oc20 kV20 dc20 pm20 cd20 ct20 : Value} {od20 an20 : Option Addr} {sl20 : Array (Option Value)} (a20 : PySem.W.nsIn K mainGlobals "_law_box" = some (some (.ref f__law_box))) (l20 : K.lookup f__law_box = some ⟨oc20, od20, .func (PySem.W.fnOf "_law_box" "_law_box" (defArgs s__law_box) (defBody s__law_box) (defScope s__law_box) .none kV20 dc20 pm20 an20 cd20 ct20), sl20⟩) (e20 : PySem.W.codeIn K cd20 "_law_box" = true) (k20 : PySem.W.keepIn K (.ref f__law_box) = true)
    {f__law_take : Addr} {oc21 kV21 dc21 pm21 cd21 ct21 : Value} {od21 an21 : Option Addr} {sl21 : Array (Option Value)} (a21 : PySem.W.nsIn K mainGlobals "_law_take" = some (some (.ref f__law_take))) (l21 : K.lookup f__law_take = some ⟨oc21, od21, .func (PySem.W.fnOf "_law_take" "_law_take" (defArgs s__law_take) (defBody s__law_take) (defScope s__law_take) .none kV21 dc21 pm21 an21 cd21 ct21), sl21⟩) (e21 : PySem.W.codeIn K cd21 "_law_take" = true) (k21 : PySem.W.keepIn K (.ref f__law_take) = true)
    {f__law_names : Addr} {oc22 kV22 dc22 pm22 cd22 ct22 : Value} {od22 an22 : Option Addr} {sl22 : Array (Option Value)} (a22 : PySem.W.nsIn K mainGlobals "_law_names" = some (some (.ref f__law_names))) (l22 : K.lookup f__law_names = some ⟨oc22, od22, .func (PySem.W.fnOf "_law_names" "_law_names" (defArgs s__law_names) (defBody s__law_names) (defScope s__law_names) .none kV22 dc22 pm22 an22 cd22 ct22), sl22⟩) (e22 : PySem.W.codeIn K cd22 "_law_names" = true) (k22 : PySem.W.keepIn K (.ref f__law_names) = true)
    {f__law_same : Addr} {oc23 kV23 dc23 pm23 cd23 ct23 : Value} {od23 an23 : Option Addr} {sl23 : Array (Option Value)} (a23 : PySem.W.nsIn K mainGlobals "_law_same" = some (some (.ref f__law_same))) (l23 : K.lookup f__law_same = some ⟨oc23, od23, .func (PySem.W.fnOf "_law_same" "_law_same" (defArgs s__law_same) (defBody s__law_same) (defScope s__law_same) .none kV23 dc23 pm23 an23 cd23 ct23), sl23⟩) (e23 : PySem.W.codeIn K cd23 "_law_same" = true) (k23 : PySem.W.keepIn K (.ref f__law_same) = true)
    {f__law_signs : Addr} {oc24 kV24 dc24 pm24 cd24 ct24 : Value} {od24 an24 : Option Addr} {sl24 : Array (Option Value)} (a24 : PySem.W.nsIn K mainGlobals "_law_signs" = some (some (.ref f__law_signs))) (l24 : K.lookup f__law_signs = some ⟨oc24, od24, .func (PySem.W.fnOf "_law_signs" "_law_signs" (defArgs s__law_signs) (defBody s__law_signs) (defScope s__law_signs) .none kV24 dc24 pm24 an24 cd24 ct24), sl24⟩) (e24 : PySem.W.codeIn K cd24 "_law_signs" = true) (k24 : PySem.W.keepIn K (.ref f__law_signs) = true)
    {f__law_known : Addr} {oc25 kV25 dc25 pm25 cd25 ct25 : Value} {od25 an25 : Option Addr} {sl25 : Array (Option Value)} (a25 : PySem.W.nsIn K mainGlobals "_law_known" = some (some (.ref f__law_known))) (l25 : K.lookup f__law_known = some ⟨oc25, od25, .func (PySem.W.fnOf "_law_known" "_law_known" (defArgs s__law_known) (defBody s__law_known) (defScope s__law_known) .none kV25 dc25 pm25 an25 cd25 ct25), sl25⟩) (e25 : PySem.W.codeIn K cd25 "_law_known" = true) (k25 : PySem.W.keepIn K (.ref f__law_known) = true)
    {f__law_tests_right : Addr} {oc26 kV26 dc26 pm26 cd26 ct26 : Value} {od26 an26 : Option Addr} {sl26 : Array (Option Value)} (a26 : PySem.W.nsIn K mainGlobals "_law_tests_right" = some (some (.ref f__law_tests_right))) (l26 : K.lookup f__law_tests_right = some ⟨oc26, od26, .func (PySem.W.fnOf "_law_tests_right" "_law_tests_right" (defArgs s__law_tests_right) (defBody s__law_tests_right) (defScope s__law_tests_right) .none kV26 dc26 pm26 an26 cd26 ct26), sl26⟩) (e26 : PySem.W.codeIn K cd26 "_law_tests_right" = true) (k26 : PySem.W.keepIn K (.ref f__law_tests_right) = true)
    {f__law_rules_right : Addr} {oc27 kV27 dc27 pm27 cd27 ct27 : Value} {od27 an27 : Option Addr} {sl27 : Array (Option Value)} (a27 : PySem.W.nsIn K mainGlobals "_law_rules_right" = some (some (.ref f__law_rules_right))) (l27 : K.lookup f__law_rules_right = some ⟨oc27, od27, .func (PySem.W.fnOf "_law_rules_right" "_law_rules_right" (defArgs s__law_rules_right) (defBody s__law_rules_right) (defScope s__law_rules_right) .none kV27 dc27 pm27 an27 cd27 ct27), sl27⟩) (e27 : PySem.W.codeIn K cd27 "_law_rules_right" = true) (k27 : PySem.W.keepIn K (.ref f__law_rules_right) = true)
    {f__law_right : Addr} {oc28 kV28 dc28 pm28 cd28 ct28 : Value} {od28 an28 : Option Addr} {sl28 : Array (Option Value)} (a28 : PySem.W.nsIn K mainGlobals "_law_right" = some (some (.ref f__law_right))) (l28 : K.lookup f__law_right = some ⟨oc28, od28, .func (PySem.W.fnOf "_law_right" "_law_right" (defArgs s__law_right) (defBody s__law_right) (defScope s__law_right) .none kV28 dc28 pm28 an28 cd28 ct28), sl28⟩) (e28 : PySem.W.codeIn K cd28 "_law_right" = true) (k28 : PySem.W.keepIn K (.ref f__law_right) = true)
    {f_law : Addr} {oc29 kV29 dc29 pm29 cd29 ct29 : Value} {od29 an29 : Option Addr} {sl29 : Array (Option Value)} (a29 : PySem.W.nsIn K mainGlobals "law" = some (some (.ref f_law))) (l29 : K.lookup f_law = some ⟨oc29, od29, .func (PySem.W.fnOf "law" "law" (defArgs s_law) (defBody s_law) (defScope s_law) .none kV29 dc29 pm29 an29 cd29 ct29), sl29⟩) (e29 : PySem.W.codeIn K cd29 "law" = true) (k29 : PySem.W.keepIn K (.ref f_law) = true)
    (nn_holds_of : PySem.W.nsIn K mainGlobals "holds_of" = some none)
    (nn_best_way : PySem.W.nsIn K mainGlobals "best_way" = some none)
    {t_ABOUT : Tok} (cABOUT : PySem.W.nsIn K mainGlobals "ABOUT" = some (some (.str "about" t_ABOUT)))
    {t_ANSWER : Tok} (cANSWER : PySem.W.nsIn K mainGlobals "ANSWER" = some (some (.str "answer" t_ANSWER)))
    {t_ANY : Tok} (cANY : PySem.W.nsIn K mainGlobals "ANY" = some (some (.str "any" t_ANY)))
    {t_AT : Tok} (cAT : PySem.W.nsIn K mainGlobals "AT" = some (some (.str "@" t_AT)))
    {t_AUTO : Tok} (cAUTO : PySem.W.nsIn K mainGlobals "AUTO" = some (some (.str "auto" t_AUTO)))
    {t_BOTH : Tok} (cBOTH : PySem.W.nsIn K mainGlobals "BOTH" = some (some (.str "both" t_BOTH)))
    {t_DROP : Tok} (cDROP : PySem.W.nsIn K mainGlobals "DROP" = some (some (.str "drop" t_DROP)))
    {t_FIGURES : Tok} (cFIGURES : PySem.W.nsIn K mainGlobals "FIGURES" = some (some (.str "0123456789" t_FIGURES)))
    {t_FIGURE_0 : Tok} (cFIGURE_0 : PySem.W.nsIn K mainGlobals "FIGURE_0" = some (some (.int 48 t_FIGURE_0)))
    {t_FIGURE_9 : Tok} (cFIGURE_9 : PySem.W.nsIn K mainGlobals "FIGURE_9" = some (some (.int 57 t_FIGURE_9)))
    {t_FILE : Tok} (cFILE : PySem.W.nsIn K mainGlobals "FILE" = some (some (.str "file" t_FILE)))
    {t_GREAT_A : Tok} (cGREAT_A : PySem.W.nsIn K mainGlobals "GREAT_A" = some (some (.int 65 t_GREAT_A)))
    {t_GREAT_Z : Tok} (cGREAT_Z : PySem.W.nsIn K mainGlobals "GREAT_Z" = some (some (.int 90 t_GREAT_Z)))
    {t_IN_BOX : Tok} (cIN_BOX : PySem.W.nsIn K mainGlobals "IN_BOX" = some (some (.str "in" t_IN_BOX)))
    {t_MARK : Tok} (cMARK : PySem.W.nsIn K mainGlobals "MARK" = some (some (.str "mark" t_MARK)))
    {t_MOST_WORD : Tok} (cMOST_WORD : PySem.W.nsIn K mainGlobals "MOST_WORD" = some (some (.int 12 t_MOST_WORD)))
    {t_NOT : Tok} (cNOT : PySem.W.nsIn K mainGlobals "NOT" = some (some (.str "not" t_NOT)))
    {t_ON : Tok} (cON : PySem.W.nsIn K mainGlobals "ON" = some (some (.str "on" t_ON)))
    {t_SMALL_A : Tok} (cSMALL_A : PySem.W.nsIn K mainGlobals "SMALL_A" = some (some (.int 97 t_SMALL_A)))
    {t_SMALL_SIGNS : Tok} (cSMALL_SIGNS : PySem.W.nsIn K mainGlobals "SMALL_SIGNS" = some (some (.str "abcdefghijklmnopqrstuvwxyz" t_SMALL_SIGNS)))
    {t_SMALL_Z : Tok} (cSMALL_Z : PySem.W.nsIn K mainGlobals "SMALL_Z" = some (some (.int 122 t_SMALL_Z)))
    {t_STOP : Tok} (cSTOP : PySem.W.nsIn K mainGlobals "STOP" = some (some (.str "stop" t_STOP)))
    {t_TO_SMALL : Tok} (cTO_SMALL : PySem.W.nsIn K mainGlobals "TO_SMALL" = some (some (.int 32 t_TO_SMALL)))
    {t_WORDS : Tok} (cWORDS : PySem.W.nsIn K mainGlobals "WORDS" = some (some (.str "words" t_WORDS)))
    (zabs : PySem.W.nsIn K mainGlobals "abs" = some none)
    (zall : PySem.W.nsIn K mainGlobals "all" = some none)
    (zany : PySem.W.nsIn K mainGlobals "any" = some none)
    (zbool : PySem.W.nsIn K mainGlobals "bool" = some none)
    (zdivmod : PySem.W.nsIn K mainGlobals "divmod" = some none)
    (zenumerate : PySem.W.nsIn K mainGlobals "enumerate" = some none)
    (zint : PySem.W.nsIn K mainGlobals "int" = some none)
    (zisinstance : PySem.W.nsIn K mainGlobals "isinstance" = some none)
    (zlen : PySem.W.nsIn K mainGlobals "len" = some none)
    (zlist : PySem.W.nsIn K mainGlobals "list" = some none)
    (zmin : PySem.W.nsIn K mainGlobals "min" = some none)
    (zord : PySem.W.nsIn K mainGlobals "ord" = some none)
    (zrange : PySem.W.nsIn K mainGlobals "range" = some none)
    (zset : PySem.W.nsIn K mainGlobals "set" = some none)
    (zsorted : PySem.W.nsIn K mainGlobals "sorted" = some none)
    (zstr : PySem.W.nsIn K mainGlobals "str" = some none)
    (zsum : PySem.W.nsIn K mainGlobals "sum" = some none)
    (ztuple : PySem.W.nsIn K mainGlobals "tuple" = some none)
    (zzip : PySem.W.nsIn K mainGlobals "zip" = some none)
    {dPLAIN_TESTS : Addr} {esPLAIN_TESTS : Array DictEntry} {nPLAIN_TESTS : Nat} (aPLAIN_TESTS : PySem.W.nsIn K mainGlobals "PLAIN_TESTS" = some (some (.ref dPLAIN_TESTS))) (lPLAIN_TESTS : K.lookup dPLAIN_TESTS = some ⟨.type "dict", none, .dict esPLAIN_TESTS nPLAIN_TESTS, #[]⟩) (kPLAIN_TESTS : PySem.W.KeysLit w.params esPLAIN_TESTS.toList) (oPLAIN_TESTS : (dPLAIN_TESTS == sysModules) = false) (ePLAIN_TESTS : Ents esPLAIN_TESTS.toList [("from", .ref f_test_from), ("to", .ref f_test_to), ("word", .ref f_test_word), ("about", .ref f_test_about), ("longer", .ref f_test_longer)]) :
    LamLaw P w K mg 35 fa "_law_script" m_law h := by
  have e := hfa.symm.trans (PySem.W.mg_of X G a29)
  cases e
  have F_writing_of := fun_mk (st := s_writing_of) l0 e0 k0
  have h_writing_of := PySem.W.mg_of X G a0
  have F_address_text := fun_mk (st := s_address_text) l1 e1 k1
  have h_address_text := PySem.W.mg_of X G a1
  have F_as_tuples := fun_mk (st := s_as_tuples) l2 e2 k2
  have h_as_tuples := PySem.W.mg_of X G a2
  have F_head_of := fun_mk (st := s_head_of) l3 e3 k3
  have h_head_of := PySem.W.mg_of X G a3
  have F_writings_of := fun_mk (st := s_writings_of) l4 e4 k4
  have h_writings_of := PySem.W.mg_of X G a4
  have F_letter_writings := fun_mk (st := s_letter_writings) l5 e5 k5
  have h_letter_writings := PySem.W.mg_of X G a5
  have F_small_sign := fun_mk (st := s_small_sign) l6 e6 k6
  have h_small_sign := PySem.W.mg_of X G a6
  have F_words_in := fun_mk (st := s_words_in) l7 e7 k7
  have h_words_in := PySem.W.mg_of X G a7
  have F_words_of := fun_mk (st := s_words_of) l8 e8 k8
  have h_words_of := PySem.W.mg_of X G a8
  have F_test_from := fun_mk (st := s_test_from) l9 e9 k9
  have h_test_from := PySem.W.mg_of X G a9
  have F_test_to := fun_mk (st := s_test_to) l10 e10 k10
  have h_test_to := PySem.W.mg_of X G a10
  have F_test_word := fun_mk (st := s_test_word) l11 e11 k11
  have h_test_word := PySem.W.mg_of X G a11
  have F_test_about := fun_mk (st := s_test_about) l12 e12 k12
  have h_test_about := PySem.W.mg_of X G a12
  have F_test_longer := fun_mk (st := s_test_longer) l13 e13 k13
  have h_test_longer := PySem.W.mg_of X G a13
  have F_holds_plain := fun_mk (st := s_holds_plain) l14 e14 k14
  have h_holds_plain := PySem.W.mg_of X G a14
  have F_holds_by := fun_mk (st := s_holds_by) l15 e15 k15
  have h_holds_by := PySem.W.mg_of X G a15
  have F_holds := fun_mk (st := s_holds) l16 e16 k16
  have h_holds := PySem.W.mg_of X G a16
  have F_deeds_due := fun_mk (st := s_deeds_due) l17 e17 k17
  have h_deeds_due := PySem.W.mg_of X G a17
  have F_told_once := fun_mk (st := s_told_once) l18 e18 k18
  have h_told_once := PySem.W.mg_of X G a18
  have F_judged := fun_mk (st := s_judged) l19 e19 k19
  have h_judged := PySem.W.mg_of X G a19
  have F__law_box := fun_mk (st := s__law_box) l20 e20 k20
  have h__law_box := PySem.W.mg_of X G a20
  have F__law_take := fun_mk (st := s__law_take) l21 e21 k21
  have h__law_take := PySem.W.mg_of X G a21
  have F__law_names := fun_mk (st := s__law_names) l22 e22 k22
  have h__law_names := PySem.W.mg_of X G a22
  have F__law_same := fun_mk (st := s__law_same) l23 e23 k23
  have h__law_same := PySem.W.mg_of X G a23
  have F__law_signs := fun_mk (st := s__law_signs) l24 e24 k24
  have h__law_signs := PySem.W.mg_of X G a24
  have F__law_known := fun_mk (st := s__law_known) l25 e25 k25
  have h__law_known := PySem.W.mg_of X G a25
  have F__law_tests_right := fun_mk (st := s__law_tests_right) l26 e26 k26
  have h__law_tests_right := PySem.W.mg_of X G a26
  have F__law_rules_right := fun_mk (st := s__law_rules_right) l27 e27 k27
  have h__law_rules_right := PySem.W.mg_of X G a27
  have F__law_right := fun_mk (st := s__law_right) l28 e28 k28
  have h__law_right := PySem.W.mg_of X G a28
  have F_law := fun_mk (st := s_law) l29 e29 k29
  have h_law := PySem.W.mg_of X G a29
  have c_ABOUT := PySem.W.mg_of X G cABOUT
  have c_ANSWER := PySem.W.mg_of X G cANSWER
  have c_ANY := PySem.W.mg_of X G cANY
  have c_AT := PySem.W.mg_of X G cAT
  have c_AUTO := PySem.W.mg_of X G cAUTO
  have c_BOTH := PySem.W.mg_of X G cBOTH
  have c_DROP := PySem.W.mg_of X G cDROP
  have c_FIGURES := PySem.W.mg_of X G cFIGURES
  have c_FIGURE_0 := PySem.W.mg_of X G cFIGURE_0
  have c_FIGURE_9 := PySem.W.mg_of X G cFIGURE_9
  have c_FILE := PySem.W.mg_of X G cFILE
  have c_GREAT_A := PySem.W.mg_of X G cGREAT_A
  have c_GREAT_Z := PySem.W.mg_of X G cGREAT_Z
  have c_IN_BOX := PySem.W.mg_of X G cIN_BOX
  have c_MARK := PySem.W.mg_of X G cMARK
  have c_MOST_WORD := PySem.W.mg_of X G cMOST_WORD
  have c_NOT := PySem.W.mg_of X G cNOT
  have c_ON := PySem.W.mg_of X G cON
  have c_SMALL_A := PySem.W.mg_of X G cSMALL_A
  have c_SMALL_SIGNS := PySem.W.mg_of X G cSMALL_SIGNS
  have c_SMALL_Z := PySem.W.mg_of X G cSMALL_Z
  have c_STOP := PySem.W.mg_of X G cSTOP
  have c_TO_SMALL := PySem.W.mg_of X G cTO_SMALL
  have c_WORDS := PySem.W.mg_of X G cWORDS
  have z_abs := PySem.W.mg_none_of X G zabs
  have z_all := PySem.W.mg_none_of X G zall
  have z_any := PySem.W.mg_none_of X G zany
  have z_bool := PySem.W.mg_none_of X G zbool
  have z_divmod := PySem.W.mg_none_of X G zdivmod
  have z_enumerate := PySem.W.mg_none_of X G zenumerate
  have z_int := PySem.W.mg_none_of X G zint
  have z_isinstance := PySem.W.mg_none_of X G zisinstance
  have z_len := PySem.W.mg_none_of X G zlen
  have z_list := PySem.W.mg_none_of X G zlist
  have z_min := PySem.W.mg_none_of X G zmin
  have z_ord := PySem.W.mg_none_of X G zord
  have z_range := PySem.W.mg_none_of X G zrange
  have z_set := PySem.W.mg_none_of X G zset
  have z_sorted := PySem.W.mg_none_of X G zsorted
  have z_str := PySem.W.mg_none_of X G zstr
  have z_sum := PySem.W.mg_none_of X G zsum
  have z_tuple := PySem.W.mg_none_of X G ztuple
  have z_zip := PySem.W.mg_none_of X G zzip
  have D_PLAIN_TESTS : MDict K w mg "PLAIN_TESTS" [(.str "from", fnD "test_from"), (.str "to", fnD "test_to"), (.str "word", fnD "test_word"), (.str "about", fnD "test_about"), (.str "longer", fnD "test_longer")] := ⟨_, _, _, _, PySem.W.mg_of X G aPLAIN_TESTS, lPLAIN_TESTS, kPLAIN_TESTS, oPLAIN_TESTS, ePLAIN_TESTS, fun B => .consS (.fnc a9 k9) (.consS (.fnc a10 k10) (.consS (.fnc a11 k11) (.consS (.fnc a12 k12) (.consS (.fnc a13 k13) (.nil))))), by simp only [List.map_cons, List.map_nil]; decide +kernel, by simp only [List.length_cons, List.length_nil]; decide⟩
  have LA : LamAt K "holds" f_holds cH PH := ⟨a16, ⟨_, _, _, _, l16, rfl⟩, ⟨_, _, _, _, lcH, tH⟩, hH, nH⟩
  have tabE : tabsOf K = [(PH, ("holds.<locals>.<lambda>" : Str))] := tabs_holds LA nn_holds_of nn_best_way
  refine ⟨PySem.W.fnOf "law" "law" (defArgs s_law) (defBody s_law) (defScope s_law) .none kV29 dc29 pm29 an29 cd29 ct29, [(cH, PH)], fun p hp => ?_, fun p hp => ?_, fun p hp => ?_, fun s v => .of_eq rfl, fun H hH p hp => ?_, fun base _ _ TB => ?_⟩
  · rw [List.mem_singleton.mp hp]; exact own _ _ _ _ (List.mem_singleton_self _) LA
  · rw [List.mem_singleton.mp hp]; exact nH
  · rw [List.mem_singleton.mp hp]; exact hH
  · rw [tabE] at hp; rw [List.mem_singleton.mp hp]; exact hH _ (List.mem_singleton_self _)
  have C_writing_of : ∀ base : Heap, Cal P w K mg base 1 "writing_of" s_writing_of P_writing_of m_writing_of := fun base => ok_writing_of (base := base) (k := 0) z_ord z_tuple F_writing_of h_writing_of
  have C_address_text : ∀ base : Heap, Cal P w K mg base 1 "address_text" s_address_text P_address_text m_address_text := fun base => ok_address_text (base := base) (k := 0) c_AT F_address_text h_address_text
  have R_as_tuples : ∀ base : Heap, Cal P w K mg base 12 "as_tuples" s_as_tuples P_as_tuples m_as_tuples := fun base => rec_as_tuples (P := P) (w := w) (base := base) (k := 0) z_isinstance z_list z_tuple F_as_tuples h_as_tuples 12
  have C_as_tuples : ∀ base : Heap, Cal P w K mg base 12 "as_tuples" s_as_tuples P_as_tuples m_as_tuples := fun base => (R_as_tuples base)
  have C_head_of : ∀ base : Heap, Cal P w K mg base 1 "head_of" s_head_of P_head_of m_head_of := fun base => ok_head_of (base := base) (k := 0)  F_head_of h_head_of
  have R_writings_of : ∀ base : Heap, Cal P w K mg base 12 "writings_of" s_writings_of P_writings_of m_writings_of := fun base => rec_writings_of (P := P) (w := w) (base := base) (k := 0) c_WORDS F_writings_of h_writings_of 12
  have C_writings_of : ∀ base : Heap, Cal P w K mg base 12 "writings_of" s_writings_of P_writings_of m_writings_of := fun base => (R_writings_of base)
  have C_letter_writings : ∀ base : Heap, Cal P w K mg base 13 "letter_writings" s_letter_writings P_letter_writings m_letter_writings := fun base => ok_letter_writings (base := base) (k := 12) ((C_writings_of base).more (by decide)) F_letter_writings h_letter_writings
  have C_small_sign : ∀ base : Heap, Cal P w K mg base 1 "small_sign" s_small_sign P_small_sign m_small_sign := fun base => ok_small_sign (base := base) (k := 0) c_FIGURES c_FIGURE_0 c_FIGURE_9 c_GREAT_A c_GREAT_Z c_SMALL_A c_SMALL_SIGNS c_SMALL_Z c_TO_SMALL F_small_sign h_small_sign
  have C_words_in : ∀ base : Heap, Cal P w K mg base 2 "words_in" s_words_in P_words_in m_words_in := fun base => ok_words_in (base := base) (k := 1) z_tuple c_MOST_WORD ((C_small_sign base).more (by decide)) F_words_in h_words_in
  have C_words_of : ∀ base : Heap, Cal P w K mg base 14 "words_of" s_words_of P_words_of m_words_of := fun base => ok_words_of (base := base) (k := 13) z_set z_sorted c_ABOUT ((C_as_tuples base).more (by decide)) ((C_head_of base).more (by decide)) ((C_letter_writings base).more (by decide)) ((C_words_in base).more (by decide)) ((C_writing_of base).more (by decide)) F_words_of h_words_of
  have C_test_from : ∀ base : Heap, Cal P w K mg base 2 "test_from" s_test_from P_test_from m_test_from := fun base => ok_test_from (base := base) (k := 1) ((C_address_text base).more (by decide)) ((C_head_of base).more (by decide)) F_test_from h_test_from
  have C_test_to : ∀ base : Heap, Cal P w K mg base 2 "test_to" s_test_to P_test_to m_test_to := fun base => ok_test_to (base := base) (k := 1) ((C_address_text base).more (by decide)) ((C_head_of base).more (by decide)) F_test_to h_test_to
  have C_test_word : ∀ base : Heap, Cal P w K mg base 15 "test_word" s_test_word P_test_word m_test_word := fun base => ok_test_word (base := base) (k := 14) ((C_words_of base).more (by decide)) F_test_word h_test_word
  have C_test_about : ∀ base : Heap, Cal P w K mg base 2 "test_about" s_test_about P_test_about m_test_about := fun base => ok_test_about (base := base) (k := 1) c_ABOUT ((C_head_of base).more (by decide)) F_test_about h_test_about
  have C_test_longer : ∀ base : Heap, Cal P w K mg base 14 "test_longer" s_test_longer P_test_longer m_test_longer := fun base => ok_test_longer (base := base) (k := 13) z_len z_sum ((C_letter_writings base).more (by decide)) F_test_longer h_test_longer
  have C_holds_plain : ∀ base : Heap, Cal P w K mg base 16 "holds_plain" s_holds_plain P_holds_plain m_holds_plain := fun base => ok_holds_plain (base := base) (k := 15) c_AUTO ((C_head_of base).more (by decide)) ((C_test_about base).more (by decide)) ((C_test_from base).more (by decide)) ((C_test_longer base).more (by decide)) ((C_test_to base).more (by decide)) ((C_test_word base).more (by decide)) D_PLAIN_TESTS F_holds_plain h_holds_plain
  have R_holds_by : ∀ (base : Heap) (f0 c0 a0 : Addr), LamB base f0 c0 a0 "holds.<locals>.<lambda>" (lamD s_holds).1 (lamD s_holds).2.1 (lamD s_holds).2.2 "own" → Cal P w K mg base 29 "holds_by" s_holds_by P_holds_by (m_holds_by f0 c0 a0) := fun base f0 c0 a0 LB => rec_holds_by (P := P) (w := w) (base := base) (k := 17) z_all z_any c_ANY c_BOTH c_NOT (kL := 16) (by decide) (lam_holds (k := 16) ((C_holds_plain base).more (by decide))) LB F_holds_by h_holds_by 12
  have C_holds : Cal P w K mg base 30 "holds" s_holds P_holds m_holds := ok_holds (base := base) (k := 29) ((C_as_tuples base).more (by decide)) F_holds h_holds ⟨_, _, _, _, l16, rfl⟩ (TB _ (List.mem_singleton_self _)) (by rw [tabE]; exact List.mem_singleton_self _) (fun p hp _ => by rw [tabE] at hp; rw [List.mem_singleton.mp hp]) F_holds_by h_holds_by (fun base f0 c0 a0 LB => (R_holds_by base f0 c0 a0 LB).more (by decide))
  have C_deeds_due : Cal P w K mg base 31 "deeds_due" s_deeds_due P_deeds_due m_deeds_due := ok_deeds_due (base := base) (k := 30) z_enumerate c_STOP (C_holds.more (by decide)) F_deeds_due h_deeds_due
  have C_told_once : ∀ base : Heap, Cal P w K mg base 1 "told_once" s_told_once P_told_once m_told_once := fun base => ok_told_once (base := base) (k := 0) z_enumerate z_tuple F_told_once h_told_once
  have C_judged : Cal P w K mg base 32 "judged" s_judged P_judged m_judged := ok_judged (base := base) (k := 31) z_any c_ANSWER c_DROP c_FILE c_IN_BOX c_MARK c_ON ((C_as_tuples base).more (by decide)) (C_deeds_due.more (by decide)) ((C_told_once base).more (by decide)) F_judged h_judged
  have C__law_box : ∀ base : Heap, Cal P w K mg base 1 "_law_box" s__law_box P__law_box m__law_box := fun base => ok__law_box (base := base) (k := 0) z_abs z_int z_len F__law_box h__law_box
  have C__law_take : ∀ base : Heap, Cal P w K mg base 1 "_law_take" s__law_take P__law_take m__law_take := fun base => ok__law_take (base := base) (k := 0) z_divmod F__law_take h__law_take
  have C__law_names : ∀ base : Heap, Cal P w K mg base 2 "_law_names" s__law_names P__law_names m__law_names := fun base => ok__law_names (base := base) (k := 1) z_divmod z_range ((C__law_take base).more (by decide)) F__law_names h__law_names
  have R__law_same : ∀ base : Heap, Cal P w K mg base 12 "_law_same" s__law_same P__law_same m__law_same := fun base => rec__law_same (P := P) (w := w) (base := base) (k := 0) z_all z_bool z_int z_isinstance z_len z_list z_str z_tuple z_zip F__law_same h__law_same 12
  have C__law_same : ∀ base : Heap, Cal P w K mg base 12 "_law_same" s__law_same P__law_same m__law_same := fun base => (R__law_same base)
  have C__law_signs : ∀ base : Heap, Cal P w K mg base 1 "_law_signs" s__law_signs P__law_signs m__law_signs := fun base => ok__law_signs (base := base) (k := 0) z_ord z_tuple F__law_signs h__law_signs
  have C__law_known : ∀ base : Heap, Cal P w K mg base 2 "_law_known" s__law_known P__law_known m__law_known := fun base => ok__law_known (base := base) (k := 1) ((C__law_signs base).more (by decide)) F__law_known h__law_known
  have C__law_tests_right : Cal P w K mg base 31 "_law_tests_right" s__law_tests_right P__law_tests_right m__law_tests_right := ok__law_tests_right (base := base) (k := 30) z_all ((C__law_same base).more (by decide)) (C_holds.more (by decide)) ((C_words_of base).more (by decide)) F__law_tests_right h__law_tests_right
  have C__law_rules_right : Cal P w K mg base 33 "_law_rules_right" s__law_rules_right P__law_rules_right m__law_rules_right := ok__law_rules_right (base := base) (k := 32) ((C__law_same base).more (by decide)) (C_judged.more (by decide)) F__law_rules_right h__law_rules_right
  have C__law_right : Cal P w K mg base 34 "_law_right" s__law_right P__law_right m__law_right := ok__law_right (base := base) (k := 33) ((C__law_known base).more (by decide)) ((C__law_names base).more (by decide)) (C__law_rules_right.more (by decide)) (C__law_tests_right.more (by decide)) F__law_right h__law_right
  have C_law : Cal P w K mg base 35 "law" s_law P_law m_law := ok_law (base := base) (k := 34) z_all z_len z_min z_range ((C__law_box base).more (by decide)) (C__law_right.more (by decide)) F_law h_law
  exact (C_law).fn F_law h_law
end
end
end Law

namespace Law
open DL L2 PyProof.Rows PySem PySem.Spec
local macro_rules | `(tactic| walk_at "w") => `(tactic| simp only [wDef0, wDef1, wDef2, wDef3, List.replicate, Nat.reduceSub, wSeq, wIf, wTb, wTr, wBin, wUn, wVar, wC, wCal, wCall, wCallK, wNil, wCons, wConsC, wLst, wTup, wNotT, wAndT, wOrT, wAnd, wOr, wNotE, wIfE, wChain, wNext, wSet, wSetC, wRet, wDrop, wAsg, wPar, wFor, wLc, wYes, wSl, wNoP, wPt, wRng1, wSrcA, wSrcS, wIsI, wIsI2, wCm, wMs, wRev, wPar3, wPar3k, wZipA, wZipLL, Option.bind_some, wDivm, wDget, wPNil, wPCons, wDisp, wDin, wDinS, wEqS, wEqB, wEqNS, wIsN, wInC, wOrdC, wInT, wInNT, wNinT, wNinNT, ix0, ix1,
  wOpt, tK_some, bK_some, bK_le, bK_lt, wGtI, wLtI, wLeI, wGeI, wModI, wFdivI, wMulI, wAddI, wSubI, wEqI, wNeI, wSlL, wSlN, wSlT, wSlS, wLenL, wLenT, wLenS, wIntT, wTupleN, wMin2, wAddNN, wAddLN, wAddNL, wAddLL, wAddTT, wAddSS, wMulN, wMulT, wMulS, fz_d, fz_n, fz_c, allD, put, truD, bName, bTup, bCons, bNil, wipeR,
  List.getElem?_cons_zero, List.getElem?_cons_succ, List.set_cons_zero, List.set_cons_succ, List.length_set, List.length_cons, List.length_nil, Option.map_some, Option.map_none, if_true, Bool.false_eq_true, if_false, Bool.not_true, Bool.not_false, List.map_cons, List.map_nil, true_and, and_true, Nat.reduceAdd, Nat.reduceLeDiff])
local macro_rules | `(tactic| walk_at "b") => `(tactic| simp (disch := assumption) only [ixB0, ixB1, ixB2, DL.subB0, DL.subB2, Option.bind_some, wDef0, wDef1, wDef2, wDef3, List.replicate, Nat.reduceSub, wSeq, wIf, wTb, wTr, wBin, wUn, wVar, wC, wCal, wCall, wCallK, wNil, wCons, wConsC, wLst, wTup, wNotT, wAndT, wOrT, wAnd, wOr, wNotE, wIfE, wChain, wNext, wSet, wSetC, wRet, wDrop, wAsg, wPar, wFor, wLc, wYes, wSl, wNoP, wPt, wRng1, wSrcA, wSrcS, wIsI, wIsI2, wCm, wMs, wRev, wPar3, wPar3k, wZipA, wZipLL, Option.bind_some, wDivm, wDget, wPNil, wPCons, wDisp, wDin, wDinS, wEqS, wEqB, wEqNS, wIsN, wInC, wOrdC, wInT, wInNT, wNinT, wNinNT, ix0, ix1,
  wOpt, tK_some, bK_some, bK_le, bK_lt, wGtI, wLtI, wLeI, wGeI, wModI, wFdivI, wMulI, wAddI, wSubI, wEqI, wNeI, wSlL, wSlN, wSlT, wSlS, wLenL, wLenT, wLenS, wIntT, wTupleN, wMin2, wAddNN, wAddLN, wAddNL, wAddLL, wAddTT, wAddSS, wMulN, wMulT, wMulS, fz_d, fz_n, fz_c, allD, put, truD, bName, bTup, bCons, bNil, wipeR,
  List.getElem?_cons_zero, List.getElem?_cons_succ, List.set_cons_zero, List.set_cons_succ, List.length_set, List.length_cons, List.length_nil, Option.map_some, Option.map_none, if_true, Bool.false_eq_true, if_false, Bool.not_true, Bool.not_false, List.map_cons, List.map_nil, true_and, and_true, Nat.reduceAdd, Nat.reduceLeDiff])
local macro_rules | `(tactic| walk_at "t") => `(tactic| (try walk_at "w"))
local macro_rules | `(tactic| walk_at "x") => `(tactic| simp (maxSteps := 4000000) only [wDef0, wDef1, wDef2, wDef3, List.replicate, Nat.reduceSub, wSeq, wIf, wTb, wTr, wBin, wUn, wVar, wC, wCal, wCall, wCallK, wNil, wCons, wConsC, wLst, wTup, wNotT, wAndT, wOrT, wAnd, wOr, wNotE, wIfE, wChain, wNext, wSet, wSetC, wRet, wDrop, wAsg, wPar, wFor, wLc, wYes, wSl, wNoP, wPt, wRng1, wSrcA, wSrcS, wIsI, wIsI2, wCm, wMs, wRev, wPar3, wPar3k, wZipA, wZipLL, Option.bind_some, wDivm, wDget, wPNil, wPCons, wDisp, wDin, wDinS, wEqS, wEqB, wEqNS, wIsN, wInC, wOrdC, wInT, wInNT, wNinT, wNinNT, ix0, ix1,
  wOpt, tK_some, bK_some, bK_le, bK_lt, wGtI, wLtI, wLeI, wGeI, wModI, wFdivI, wMulI, wAddI, wSubI, wEqI, wNeI, wSlL, wSlN, wSlT, wSlS, wLenL, wLenT, wLenS, wIntT, wTupleN, wMin2, wAddNN, wAddLN, wAddNL, wAddLL, wAddTT, wAddSS, wMulN, wMulT, wMulS, fz_d, fz_n, fz_c, allD, put, truD, bName, bTup, bCons, bNil, wipeR,
  List.getElem?_cons_zero, List.getElem?_cons_succ, List.set_cons_zero, List.set_cons_succ, List.length_set, List.length_cons, List.length_nil, Option.map_some, Option.map_none, if_true, Bool.false_eq_true, if_false, Bool.not_true, Bool.not_false, List.map_cons, List.map_nil, true_and, and_true, Nat.reduceAdd, Nat.reduceLeDiff])
section
variable {κ : Kap} {N : Nat} {d : PyData} {q : DV → Kap → Prop}
/-! ### what stands in a letter, in plain words -/
def smallS (s : Int) : Str := if 48 ≤ s ∧ s ≤ 57 then ⟨#[s.toNat]⟩ else if 65 ≤ s ∧ s ≤ 90 then ⟨#[(s + 32).toNat]⟩ else if 97 ≤ s ∧ s ≤ 122 then ⟨#[s.toNat]⟩ else ""
theorem figs_ok : (decide (("0123456789" : Str).length = 10) && (List.range 10).all fun n => ("0123456789" : Str).cps.toList[n]? == some (48 + n)) = true := by decide +kernel
theorem lets_ok : (decide (("abcdefghijklmnopqrstuvwxyz" : Str).length = 26) && (List.range 26).all fun n => ("abcdefghijklmnopqrstuvwxyz" : Str).cps.toList[n]? == some (97 + n)) = true := by decide +kernel
theorem smallS_len (s : Int) : (smallS s).length ≤ 1 := by
  unfold smallS
  split
  · exact Nat.le_refl 1
  · split
    · exact Nat.le_refl 1
    · split
      · exact Nat.le_refl 1
      · exact Nat.zero_le _
theorem small_w (hk : KOk κ) {s : Int} (h : q (.d (.str (smallS s))) κ) : wO (m_small_sign [.d (.int s)] κ) q := by
  unfold m_small_sign
  walk_at "w"
  have e1 : ∀ {i : Int}, 0 ≤ i → i < 10 → ixD κ (.d (.str "0123456789")) (.d (.int i)) = some (.d (.str ⟨#[48 + i.toNat]⟩)) := fun h0 h1 => ixLit figs_ok (by decide) h0 h1
  have e2 : ∀ {i : Int}, 0 ≤ i → i < 26 → ixD κ (.d (.str "abcdefghijklmnopqrstuvwxyz")) (.d (.int i)) = some (.d (.str ⟨#[97 + i.toNat]⟩)) := fun h0 h1 => ixLit lets_ok (by decide) h0 h1
  have z : ∀ {A B X Y : Prop} [Decidable A] [Decidable B], (if A then if decide B = true then X else Y else Y) = (if A ∧ B then X else Y) := fun {A B X Y} _ _ => by
    by_cases hA : A <;> by_cases hB : B <;> simp [hA, hB]
  simp only [z]
  unfold smallS at h
  have fin : ∀ x : PyData, q (.d x) κ → wO (fin κ.length (OutS.rt (.d x) κ)) q := fun x g => (finD0 (q := q) hk rfl).mpr g
  by_cases c1 : 48 ≤ s ∧ s ≤ 57
  · rw [if_pos c1] at h ⊢
    rw [e1 (by omega) (by omega)]
    refine fin _ ?_
    rw [show 48 + (s - 48).toNat = s.toNat by omega]
    exact h
  rw [if_neg c1] at h ⊢
  by_cases c2 : 65 ≤ s ∧ s ≤ 90
  · rw [if_pos c2] at h ⊢
    rw [if_pos (show 97 ≤ s + 32 ∧ s + 32 ≤ 122 by omega), e2 (by omega) (by omega)]
    refine fin _ ?_
    rw [show 97 + (s + 32 - 97).toNat = (s + 32).toNat by omega]
    exact h
  rw [if_neg c2] at h ⊢
  by_cases c3 : 97 ≤ s ∧ s ≤ 122
  · rw [if_pos c3] at h ⊢
    rw [e2 (by omega) (by omega)]
    refine fin _ ?_
    rw [show 97 + (s - 97).toNat = s.toNat by omega]
    exact h
  rw [if_neg c3] at h ⊢
  exact fin _ h
/-! ### words -/
def cut12 (x : Str) : Str := cutS x none (some 12)
def stepW (st : List Str × Str) (s : Int) : List Str × Str := if (smallS s).length = 0 ∧ st.2.length ≠ 0 then (st.1 ++ [cut12 st.2], ("" : Str) ++ smallS s) else (st.1, st.2 ++ smallS s)
def wordsOf (ns : List Int) : List Str := ((ns ++ [0]).foldl stepW ([], "")).1
theorem stepW_len (st : List Str × Str) (s : Int) : (stepW st s).1.length ≤ st.1.length + 1 ∧ (stepW st s).2.length ≤ st.2.length + 1 := by
  have h := smallS_len s
  unfold stepW
  split
  · refine ⟨by rw [List.length_append, List.length_singleton]; exact Nat.le_refl _, ?_⟩
    show (("" : Str) ++ smallS s).length ≤ _
    rw [strLen_append, show ("" : Str).length = 0 from rfl]; omega
  · refine ⟨Nat.le_succ _, ?_⟩
    show (st.2 ++ smallS s).length ≤ _
    rw [strLen_append]; omega
theorem fold_len : ∀ (ns : List Int) (st : List Str × Str), (ns.foldl stepW st).1.length ≤ st.1.length + ns.length
  | [], st => Nat.le_refl _
  | n :: ns, st => by
    have h := fold_len ns (stepW st n)
    have g := (stepW_len st n).1
    rw [List.foldl_cons, List.length_cons]; omega
theorem wordsOf_len (ns : List Int) : (wordsOf ns).length ≤ ns.length + 1 := by
  have h := fold_len (ns ++ [0]) ([], "")
  rw [List.length_append, List.length_singleton] at h
  exact Nat.le_trans h (by simp)
theorem words_in_w (hk : KOk κ) {ns : List Int} (hn : ns.length ≤ 1000) (h : q (.n ((wordsOf ns).map .str)) κ) : wO (m_words_in [.d (.tuple (ns.map .int))] κ) q := by
  unfold m_words_in
  walk_at "w"
  simp only [wTupleT]
  walk_at "w"
  refine ⟨by rw [List.length_map]; show _ ≤ _; omega, ?_⟩
  have l0 : ("" : Str).length = 0 := by decide +kernel
  have em : ∀ x : Str, (x == ("" : Str)) = decide (x.length = 0) := empty_beq
  rw [show ns.map PyData.int ++ [PyData.int 0] = (ns ++ [0]).map .int by rw [List.map_append]; rfl]
  refine wForI (fun r ρ κ1 => ∃ (rest : List Int) (st : List Str × Str) (x3 x4 : Option DV), r = rest.map .int ∧ (rest.foldl stepW st).1 = wordsOf ns ∧ st.1.length + rest.length ≤ 1001 ∧ st.2.length + rest.length ≤ 1001 ∧ ρ = [some (.d (.tuple (ns.map .int))), some (.c κ.length), some (.d (.str st.2)), x3, x4] ∧ κ1 = κ ++ [cl (st.1.map .str)]) _ _ _ ⟨ns ++ [0], ([], ""), none, none, rfl, rfl, by rw [List.length_append]; simp; omega, by rw [List.length_append, l0]; simp; omega, rfl, rfl⟩ ?_ ?_
  · rintro ρ κ1 ⟨rest, st, x3, x4, e1, e2, _, _, rfl, rfl⟩
    cases rest with
    | cons x r => cases e1
    | nil =>
      walk_at "w"
      have e2 : st.1 = wordsOf ns := e2
      rw [finC (ds := st.1.map .str) hk rfl (Nat.le_refl _) (by unfold lv; dsimp only; rw [get_app]; exact allD_map _), e2]
      exact h
  · rintro d r ρ κ1 ⟨rest, st, x3, x4, e1, e2, e3, e4, rfl, rfl⟩
    cases rest with
    | nil => cases e1
    | cons s rest =>
      rw [List.map_cons] at e1
      injection e1 with e1 e5
      subst e1 e5
      rw [List.length_cons] at e3 e4
      have hs := smallS_len s
      obtain ⟨g1, g2⟩ := stepW_len st s
      walk_at "w"
      refine small_w (KOk.appC hk) ?_
      simp only [fz_d, wEqS, wNeS, em]
      let In : Rho → Kap → Prop := fun ρ κ1 => ∃ (rest' : List Int) (st : List Str × Str) (x3 x4 : Option DV), rest.map PyData.int = rest'.map .int ∧ (rest'.foldl stepW st).1 = wordsOf ns ∧ st.1.length + rest'.length ≤ 1001 ∧ st.2.length + rest'.length ≤ 1001 ∧ ρ = [some (.d (.tuple (ns.map .int))), some (.c κ.length), some (.d (.str st.2)), x3, x4] ∧ κ1 = κ ++ [cl (st.1.map .str)]
      have aug : ∀ (fs : List Str) (here : Str) (Z : Po), (∀ ρ κ1, In ρ κ1 → Z.nx ρ κ1) → (fs, here ++ smallS s) = stepW st s → here.length ≤ 1000 → wP (mAug 2 (mVar 4) [some (.d (.tuple (ns.map .int))), some (.c κ.length), some (.d (.str here)), some (.d (.int s)), some (.d (.str (smallS s)))] (κ ++ [cl (fs.map .str)])) Z := fun fs here Z hZ e hl => by
        refine augS (x := here) rfl ?_
        walk_at "w"
        refine ⟨smallS s, rfl, by omega, hZ _ _ ⟨rest, stepW st s, some (.d (.int s)), some (.d (.str (smallS s))), rfl, e2, by omega, by omega, ?_, ?_⟩⟩
        · rw [← e]
        · rw [← e]
      by_cases c1 : (smallS s).length = 0
      · rw [decide_eq_true c1, if_pos rfl]
        by_cases c2 : st.2.length = 0
        · rw [decide_eq_true c2]
          simp only [Bool.not_true, Bool.false_eq_true, if_false]
          refine aug st.1 st.2 _ (fun _ _ z => z) ?_ (by omega)
          unfold stepW
          rw [if_neg (fun z => z.2 c2)]
        · rw [decide_eq_false c2]
          simp only [Bool.not_false, if_true, get_app]
          refine ⟨by omega, ?_⟩
          rw [app_w (by rw [List.length_map]; omega)]
          simp only [set_app1]
          have e : (st.1 ++ [cut12 st.2], ("" : Str) ++ smallS s) = stepW st s := by
            unfold stepW
            rw [if_pos ⟨c1, c2⟩]
          rw [show List.map DV.d (st.1.map PyData.str ++ [PyData.str (cutS st.2 none (some 12))]) = ((st.1 ++ [cut12 st.2]).map PyData.str).map DV.d by rw [List.map_append (f := PyData.str)]; rfl]
          exact aug _ _ _ (fun _ _ z => z) e (by rw [l0]; omega)
      · rw [decide_eq_false c1]
        simp only [Bool.false_eq_true, if_false]
        refine aug st.1 st.2 _ (fun _ _ z => z) ?_ (by omega)
        unfold stepW
        rw [if_neg (fun z => c1 z.1)]
/-! ### the law's cutting -/
theorem str_len0 {x : Str} (h : x.length = 0) : x = "" := by
  have := empty_beq x
  rw [decide_eq_true h] at this
  exact eq_of_beq this
theorem str_app0 (x : Str) (y : Str) (h : y.length = 0) : x ++ y = x := by
  rw [str_len0 h]
  cases x with
  | mk a => show Str.mk (a ++ #[]) = _; simp
end

end Law

namespace Law
open DL L2 PyProof.Rows PySem PySem.Spec
local macro_rules | `(tactic| walk_at "w") => `(tactic| simp only [wDef0, wDef1, wDef2, wDef3, List.replicate, Nat.reduceSub, wSeq, wIf, wTb, wTr, wBin, wUn, wVar, wC, wCal, wCall, wCallK, wNil, wCons, wConsC, wLst, wTup, wNotT, wAndT, wOrT, wAnd, wOr, wNotE, wIfE, wChain, wNext, wSet, wSetC, wRet, wDrop, wAsg, wPar, wFor, wLc, wYes, wSl, wNoP, wPt, wRng1, wSrcA, wSrcS, wIsI, wIsI2, wCm, wMs, wRev, wPar3, wPar3k, wZipA, wZipLL, Option.bind_some, wDivm, wDget, wPNil, wPCons, wDisp, wDin, wDinS, wEqS, wEqB, wEqNS, wIsN, wInC, wOrdC, wInT, wInNT, wNinT, wNinNT, ix0, ix1,
  wOpt, tK_some, bK_some, bK_le, bK_lt, wGtI, wLtI, wLeI, wGeI, wModI, wFdivI, wMulI, wAddI, wSubI, wEqI, wNeI, wSlL, wSlN, wSlT, wSlS, wLenL, wLenT, wLenS, wIntT, wTupleN, wMin2, wAddNN, wAddLN, wAddNL, wAddLL, wAddTT, wAddSS, wMulN, wMulT, wMulS, fz_d, fz_n, fz_c, allD, put, truD, bName, bTup, bCons, bNil, wipeR,
  List.getElem?_cons_zero, List.getElem?_cons_succ, List.set_cons_zero, List.set_cons_succ, List.length_set, List.length_cons, List.length_nil, Option.map_some, Option.map_none, if_true, Bool.false_eq_true, if_false, Bool.not_true, Bool.not_false, List.map_cons, List.map_nil, true_and, and_true, Nat.reduceAdd, Nat.reduceLeDiff])
local macro_rules | `(tactic| walk_at "b") => `(tactic| simp (disch := assumption) only [ixB0, ixB1, ixB2, DL.subB0, DL.subB2, Option.bind_some, wDef0, wDef1, wDef2, wDef3, List.replicate, Nat.reduceSub, wSeq, wIf, wTb, wTr, wBin, wUn, wVar, wC, wCal, wCall, wCallK, wNil, wCons, wConsC, wLst, wTup, wNotT, wAndT, wOrT, wAnd, wOr, wNotE, wIfE, wChain, wNext, wSet, wSetC, wRet, wDrop, wAsg, wPar, wFor, wLc, wYes, wSl, wNoP, wPt, wRng1, wSrcA, wSrcS, wIsI, wIsI2, wCm, wMs, wRev, wPar3, wPar3k, wZipA, wZipLL, Option.bind_some, wDivm, wDget, wPNil, wPCons, wDisp, wDin, wDinS, wEqS, wEqB, wEqNS, wIsN, wInC, wOrdC, wInT, wInNT, wNinT, wNinNT, ix0, ix1,
  wOpt, tK_some, bK_some, bK_le, bK_lt, wGtI, wLtI, wLeI, wGeI, wModI, wFdivI, wMulI, wAddI, wSubI, wEqI, wNeI, wSlL, wSlN, wSlT, wSlS, wLenL, wLenT, wLenS, wIntT, wTupleN, wMin2, wAddNN, wAddLN, wAddNL, wAddLL, wAddTT, wAddSS, wMulN, wMulT, wMulS, fz_d, fz_n, fz_c, allD, put, truD, bName, bTup, bCons, bNil, wipeR,
  List.getElem?_cons_zero, List.getElem?_cons_succ, List.set_cons_zero, List.set_cons_succ, List.length_set, List.length_cons, List.length_nil, Option.map_some, Option.map_none, if_true, Bool.false_eq_true, if_false, Bool.not_true, Bool.not_false, List.map_cons, List.map_nil, true_and, and_true, Nat.reduceAdd, Nat.reduceLeDiff])
local macro_rules | `(tactic| walk_at "t") => `(tactic| (try walk_at "w"))
local macro_rules | `(tactic| walk_at "x") => `(tactic| simp (maxSteps := 4000000) only [wDef0, wDef1, wDef2, wDef3, List.replicate, Nat.reduceSub, wSeq, wIf, wTb, wTr, wBin, wUn, wVar, wC, wCal, wCall, wCallK, wNil, wCons, wConsC, wLst, wTup, wNotT, wAndT, wOrT, wAnd, wOr, wNotE, wIfE, wChain, wNext, wSet, wSetC, wRet, wDrop, wAsg, wPar, wFor, wLc, wYes, wSl, wNoP, wPt, wRng1, wSrcA, wSrcS, wIsI, wIsI2, wCm, wMs, wRev, wPar3, wPar3k, wZipA, wZipLL, Option.bind_some, wDivm, wDget, wPNil, wPCons, wDisp, wDin, wDinS, wEqS, wEqB, wEqNS, wIsN, wInC, wOrdC, wInT, wInNT, wNinT, wNinNT, ix0, ix1,
  wOpt, tK_some, bK_some, bK_le, bK_lt, wGtI, wLtI, wLeI, wGeI, wModI, wFdivI, wMulI, wAddI, wSubI, wEqI, wNeI, wSlL, wSlN, wSlT, wSlS, wLenL, wLenT, wLenS, wIntT, wTupleN, wMin2, wAddNN, wAddLN, wAddNL, wAddLL, wAddTT, wAddSS, wMulN, wMulT, wMulS, fz_d, fz_n, fz_c, allD, put, truD, bName, bTup, bCons, bNil, wipeR,
  List.getElem?_cons_zero, List.getElem?_cons_succ, List.set_cons_zero, List.set_cons_succ, List.length_set, List.length_cons, List.length_nil, Option.map_some, Option.map_none, if_true, Bool.false_eq_true, if_false, Bool.not_true, Bool.not_false, List.map_cons, List.map_nil, true_and, and_true, Nat.reduceAdd, Nat.reduceLeDiff])
section
variable {κ : Kap} {N : Nat} {d : PyData} {q : DV → Kap → Prop}
/-! ### heads -/
def hD (hs : List (Str × Str)) : List PyData := hs.map fun p => .tuple [.str p.1, .str p.2]
def firstH (n : Str) : List (Str × Str) → PyData
  | [] => .none
  | p :: r => if p.1 == n then .str p.2 else firstH n r
theorem head_of_w (hk : KOk κ) {hs : List (Str × Str)} {n : Str} {bd : PyData} (h : q (.d (firstH n hs)) κ) : wO (m_head_of [.d (.tuple [.tuple (hD hs), bd]), .d (.str n)] κ) q := by
  unfold m_head_of
  walk_at "w"
  have fin : ∀ x : PyData, q (.d x) κ → wO (fin κ.length (OutS.rt (.d x) κ)) q := fun x g => (finD0 (q := q) hk rfl).mpr g
  refine wForI (fun r ρ κ1 => ∃ (rest : List (Str × Str)) (x4 x5 : Option DV), r = hD rest ∧ firstH n rest = firstH n hs ∧ ρ = [some (.d (.tuple [.tuple (hD hs), bd])), some (.d (.str n)), some (.d (.tuple (hD hs))), some (.d bd), x4, x5] ∧ κ1 = κ) _ _ _ ⟨hs, none, none, rfl, rfl, rfl, rfl⟩ ?_ ?_
  · rintro ρ κ1 ⟨rest, x4, x5, e1, e2, rfl, rfl⟩
    cases rest with
    | cons x r => cases e1
    | nil =>
      walk_at "w"
      refine fin _ ?_
      rw [← e2] at h
      exact h
  · rintro d r ρ κ1 ⟨rest, x4, x5, e1, e2, rfl, rfl⟩
    cases rest with
    | nil => cases e1
    | cons p rest =>
      obtain ⟨o, v⟩ := p
      unfold hD at e1
      rw [List.map_cons] at e1
      injection e1 with e1 e5
      subst e1 e5
      have e2 : (if (o == n) = true then PyData.str v else firstH n rest) = firstH n hs := e2
      walk_at "w"
      split
      · rename_i c
        rw [if_pos c] at e2
        refine fin _ ?_
        rw [← e2] at h
        exact h
      · rename_i c
        rw [if_neg c] at e2
        exact ⟨rest, _, _, rfl, e2, rfl⟩
def ords (x : Str) : List Int := x.cps.toList.map fun (c : Nat) => (c : Int)
theorem ords_len (x : Str) : (ords x).length = x.length := by unfold ords; rw [List.length_map]; rfl
theorem chars_len (x : Str) : (chars x).length = x.length := by unfold chars; rw [List.length_map]; rfl
def ordD1 : PyData → PyData
  | .str y => .int ((y.cps.toList.headD 0 : Nat) : Int)
  | d => d
theorem ords_map (x : Str) : (chars x).map ordD1 = (ords x).map .int := by
  unfold chars ords
  rw [List.map_map, List.map_map]
  rfl
theorem ords_lc {κ : Kap} {ρ : Rho} {i j : Nat} {q : DV → Kap → Prop} {x : Str} {el : ME} (he : ∀ (c : Nat) (q : DV → Kap → Prop), q (.d (.int (c : Int))) κ → wO (el (ρ.set i (some (.d (.str ⟨#[c]⟩)))) κ) q) (hl : x.length ≤ 100000) (h : q (.n ((ords x).map .int)) κ) : wO (lcGo (bName i) mYes el ρ (chars x) [] κ) q := by
  refine lcPure (F := ordD1) (fun d md => ?_) (by rw [chars_len, List.length_nil]; omega) ?_
  · unfold chars at md
    obtain ⟨c, mc, rfl⟩ := List.mem_map.mp md
    exact ⟨_, rfl, fun q g => he c q g⟩
  · rw [List.nil_append, ords_map]
    exact h
theorem writing_of_w (hk : KOk κ) {x : Str} (hl : x.length ≤ 100000) (h : q (.d (.tuple ((ords x).map .int))) κ) : wO (m_writing_of [.d (.str x)] κ) q := by
  unfold m_writing_of
  walk_at "w"
  refine ords_lc (j := 0) (fun c q g => ?_) hl ?_
  · walk_at "w"
    exact g
  · rw [fz_n, wTupleN]
    exact (finD0 (q := q) hk rfl).mpr h
/-! ### bodies -/
abbrev ntup (ns : List Int) : PyData := .tuple (ns.map .int)
def hsOk (hs : List (Str × Str)) : Prop := hs.length ≤ 12 ∧ ∀ p ∈ hs, (p.1.length ≤ 100 ∧ p.2.length ≤ 100) ∧ p.1.cps.toList.all (fun c => decide (c < 128)) = true ∧ p.2.cps.toList.all (fun c => decide (c < 128)) = true
def isBd : Nat → PyData → List (List Int) → Prop
  | 0, _, _ => False
  | k + 1, d, ws => (∃ ns : List Int, ns.length ≤ 300 ∧ (∀ n ∈ ns, 0 ≤ n ∧ n < 65536) ∧ d = .tuple [.str "words", ntup ns] ∧ ws = [ns]) ∨
    ∃ ps : List (List (Str × Str) × PyData × List (List Int)), ps.length ≤ 3 ∧ (∀ p ∈ ps, isBd k p.2.1 p.2.2 ∧ hsOk p.1) ∧ d = .tuple [.str "parts", .tuple (ps.map fun p => .tuple [.tuple (hD p.1), p.2.1])] ∧ ws = (ps.map (·.2.2)).flatten
theorem isBd_len : ∀ (k : Nat) {d : PyData} {ws : List (List Int)}, isBd k d ws → ws.length ≤ 3 ^ k ∧ ∀ ns ∈ ws, ns.length ≤ 300
  | 0, _, _, h => h.elim
  | k + 1, d, ws, h => by
    rcases h with ⟨ns, h1, _, _, rfl⟩ | ⟨ps, h1, h2, _, rfl⟩
    · exact ⟨by rw [List.length_singleton]; exact Nat.pos_of_ne_zero (by simp), fun n m => by rw [List.mem_singleton.mp m]; exact h1⟩
    · refine ⟨?_, fun ns m => ?_⟩
      · have : ∀ qs : List (List (Str × Str) × PyData × List (List Int)), (∀ p ∈ qs, p.2.2.length ≤ 3 ^ k) → ((qs.map (·.2.2)).flatten).length ≤ qs.length * 3 ^ k := by
          intro qs
          induction qs with
          | nil => intro _; simp
          | cons p r ih =>
            intro hq
            rw [List.map_cons, List.flatten_cons, List.length_append, List.length_cons, Nat.succ_mul]
            have := ih fun p m => hq p (List.mem_cons_of_mem _ m)
            have := hq p List.mem_cons_self
            omega
        have a := this ps fun p m => (isBd_len k (h2 p m).1).1
        rw [Nat.pow_succ, Nat.mul_comm]
        exact Nat.le_trans a (Nat.mul_le_mul_right _ h1)
      · obtain ⟨l, ml, mn⟩ := List.mem_flatten.mp m
        obtain ⟨p, mp, rfl⟩ := List.mem_map.mp ml
        exact (isBd_len k (h2 p mp).1).2 ns mn
theorem writings_f : ∀ (k n : Nat) {d : PyData} {ws : List (List Int)} {κ : Kap} {q : DV → Kap → Prop}, KOk κ → k ≤ 5 → k ≤ n → isBd k d ws → q (.n (ws.map ntup)) κ → wO (r_writings_of n [.d d] κ) q
  | 0, _, _, _, _, _, _, _, _, hb, _ => hb.elim
  | k + 1, 0, _, _, _, _, _, _, hl, _, _ => absurd hl (Nat.not_succ_le_zero k)
  | k + 1, n + 1, d, ws, κ, q, hk, h5, hl, hb, h => by
    show wO (f_writings_of (r_writings_of n) [.d d] κ) q
    unfold f_writings_of
    rcases hb with ⟨ns, h1, _, rfl, rfl⟩ | ⟨ps, h1, h2, rfl, rfl⟩
    · walk_at "w"
      rw [if_pos (by decide +kernel)]
      exact (finN0 (q := q) hk rfl).mpr h
    · have hw : isBd (k + 1) (.tuple [.str "parts", .tuple (ps.map fun p => .tuple [.tuple (hD p.1), p.2.1])]) (ps.map (·.2.2)).flatten := .inr ⟨ps, h1, h2, rfl, rfl⟩
      have lw := (isBd_len _ hw).1
      have p5 : 3 ^ (k + 1) ≤ 3 ^ 5 := Nat.pow_le_pow_right (by decide) h5
      have e : (ps.map fun p => p.2.2.map ntup).flatten = (ps.map (·.2.2)).flatten.map ntup := by rw [List.map_flatten, List.map_map]; rfl
      walk_at "w"
      rw [if_neg (by decide +kernel)]
      simp only [wLc2]
      walk_at "w"
      refine lc2Flat (F := fun p => p.2.2.map ntup) ps [] (fun p mp => ⟨_, rfl, (show 5 < 6 by decide), rfl, fun qq g => ?_⟩) (by rw [e, List.length_map, List.length_nil]; omega) ?_
      · walk_at "w"
        refine writings_f k n hk (by omega) (by omega) (h2 p mp).1 ?_
        exact g
      · rw [e, List.nil_append]
        exact (finN0 (q := q) hk rfl).mpr h
theorem letter_writings_w (hk : KOk κ) {hd bd : PyData} {k : Nat} {ws : List (List Int)} (h5 : k ≤ 5) (hb : isBd k bd ws) (h : q (.n (ws.map ntup)) κ) : wO (m_letter_writings [.d (.tuple [hd, bd])] κ) q := by
  unfold m_letter_writings m_writings_of
  walk_at "w"
  refine writings_f k 12 hk h5 (by omega) hb ?_
  exact (finN0 (q := q) hk rfl).mpr h
end

end Law

namespace Law
open DL L2 PyProof.Rows PySem PySem.Spec
local macro_rules | `(tactic| walk_at "w") => `(tactic| simp only [wDef0, wDef1, wDef2, wDef3, List.replicate, Nat.reduceSub, wSeq, wIf, wTb, wTr, wBin, wUn, wVar, wC, wCal, wCall, wCallK, wNil, wCons, wConsC, wLst, wTup, wNotT, wAndT, wOrT, wAnd, wOr, wNotE, wIfE, wChain, wNext, wSet, wSetC, wRet, wDrop, wAsg, wPar, wFor, wLc, wYes, wSl, wNoP, wPt, wRng1, wSrcA, wSrcS, wIsI, wIsI2, wCm, wMs, wRev, wPar3, wPar3k, wZipA, wZipLL, Option.bind_some, wDivm, wDget, wPNil, wPCons, wDisp, wDin, wDinS, wEqS, wEqB, wEqNS, wIsN, wInC, wOrdC, wInT, wInNT, wNinT, wNinNT, ix0, ix1,
  wOpt, tK_some, bK_some, bK_le, bK_lt, wGtI, wLtI, wLeI, wGeI, wModI, wFdivI, wMulI, wAddI, wSubI, wEqI, wNeI, wSlL, wSlN, wSlT, wSlS, wLenL, wLenT, wLenS, wIntT, wTupleN, wMin2, wAddNN, wAddLN, wAddNL, wAddLL, wAddTT, wAddSS, wMulN, wMulT, wMulS, fz_d, fz_n, fz_c, allD, put, truD, bName, bTup, bCons, bNil, wipeR,
  List.getElem?_cons_zero, List.getElem?_cons_succ, List.set_cons_zero, List.set_cons_succ, List.length_set, List.length_cons, List.length_nil, Option.map_some, Option.map_none, if_true, Bool.false_eq_true, if_false, Bool.not_true, Bool.not_false, List.map_cons, List.map_nil, true_and, and_true, Nat.reduceAdd, Nat.reduceLeDiff])
local macro_rules | `(tactic| walk_at "b") => `(tactic| simp (disch := assumption) only [ixB0, ixB1, ixB2, DL.subB0, DL.subB2, Option.bind_some, wDef0, wDef1, wDef2, wDef3, List.replicate, Nat.reduceSub, wSeq, wIf, wTb, wTr, wBin, wUn, wVar, wC, wCal, wCall, wCallK, wNil, wCons, wConsC, wLst, wTup, wNotT, wAndT, wOrT, wAnd, wOr, wNotE, wIfE, wChain, wNext, wSet, wSetC, wRet, wDrop, wAsg, wPar, wFor, wLc, wYes, wSl, wNoP, wPt, wRng1, wSrcA, wSrcS, wIsI, wIsI2, wCm, wMs, wRev, wPar3, wPar3k, wZipA, wZipLL, Option.bind_some, wDivm, wDget, wPNil, wPCons, wDisp, wDin, wDinS, wEqS, wEqB, wEqNS, wIsN, wInC, wOrdC, wInT, wInNT, wNinT, wNinNT, ix0, ix1,
  wOpt, tK_some, bK_some, bK_le, bK_lt, wGtI, wLtI, wLeI, wGeI, wModI, wFdivI, wMulI, wAddI, wSubI, wEqI, wNeI, wSlL, wSlN, wSlT, wSlS, wLenL, wLenT, wLenS, wIntT, wTupleN, wMin2, wAddNN, wAddLN, wAddNL, wAddLL, wAddTT, wAddSS, wMulN, wMulT, wMulS, fz_d, fz_n, fz_c, allD, put, truD, bName, bTup, bCons, bNil, wipeR,
  List.getElem?_cons_zero, List.getElem?_cons_succ, List.set_cons_zero, List.set_cons_succ, List.length_set, List.length_cons, List.length_nil, Option.map_some, Option.map_none, if_true, Bool.false_eq_true, if_false, Bool.not_true, Bool.not_false, List.map_cons, List.map_nil, true_and, and_true, Nat.reduceAdd, Nat.reduceLeDiff])
local macro_rules | `(tactic| walk_at "t") => `(tactic| (try walk_at "w"))
local macro_rules | `(tactic| walk_at "x") => `(tactic| simp (maxSteps := 4000000) only [wDef0, wDef1, wDef2, wDef3, List.replicate, Nat.reduceSub, wSeq, wIf, wTb, wTr, wBin, wUn, wVar, wC, wCal, wCall, wCallK, wNil, wCons, wConsC, wLst, wTup, wNotT, wAndT, wOrT, wAnd, wOr, wNotE, wIfE, wChain, wNext, wSet, wSetC, wRet, wDrop, wAsg, wPar, wFor, wLc, wYes, wSl, wNoP, wPt, wRng1, wSrcA, wSrcS, wIsI, wIsI2, wCm, wMs, wRev, wPar3, wPar3k, wZipA, wZipLL, Option.bind_some, wDivm, wDget, wPNil, wPCons, wDisp, wDin, wDinS, wEqS, wEqB, wEqNS, wIsN, wInC, wOrdC, wInT, wInNT, wNinT, wNinNT, ix0, ix1,
  wOpt, tK_some, bK_some, bK_le, bK_lt, wGtI, wLtI, wLeI, wGeI, wModI, wFdivI, wMulI, wAddI, wSubI, wEqI, wNeI, wSlL, wSlN, wSlT, wSlS, wLenL, wLenT, wLenS, wIntT, wTupleN, wMin2, wAddNN, wAddLN, wAddNL, wAddLL, wAddTT, wAddSS, wMulN, wMulT, wMulS, fz_d, fz_n, fz_c, allD, put, truD, bName, bTup, bCons, bNil, wipeR,
  List.getElem?_cons_zero, List.getElem?_cons_succ, List.set_cons_zero, List.set_cons_succ, List.length_set, List.length_cons, List.length_nil, Option.map_some, Option.map_none, if_true, Bool.false_eq_true, if_false, Bool.not_true, Bool.not_false, List.map_cons, List.map_nil, true_and, and_true, Nat.reduceAdd, Nat.reduceLeDiff])
section
variable {κ : Kap} {N : Nat} {d : PyData} {q : DV → Kap → Prop}
theorem isBd_len2 : ∀ (k : Nat) {d : PyData} {ws : List (List Int)}, isBd (k + 1) d ws → ws.length ≤ 3 ^ k
  | k, d, ws, h => by
    rcases h with ⟨ns, h1, _, _, rfl⟩ | ⟨ps, h1, h2, _, rfl⟩
    · exact Nat.pos_of_ne_zero (by simp)
    · have sum : ∀ (M : Nat) (qs : List (List (Str × Str) × PyData × List (List Int))), (∀ p ∈ qs, p.2.2.length ≤ M) → ((qs.map (·.2.2)).flatten).length ≤ qs.length * M := by
        intro M qs
        induction qs with
        | nil => intro _; simp
        | cons p r ih =>
          intro hq
          rw [List.map_cons, List.flatten_cons, List.length_append, List.length_cons, Nat.succ_mul]
          have := ih fun p m => hq p (List.mem_cons_of_mem _ m)
          have := hq p List.mem_cons_self
          omega
      cases k with
      | zero =>
        have : ps = [] := by
          cases ps with
          | nil => rfl
          | cons p r => exact (h2 p List.mem_cons_self).1.elim
        subst this
        exact Nat.zero_le _
      | succ k =>
        have a := sum _ ps fun p m => isBd_len2 k (h2 p m).1
        rw [Nat.pow_succ, Nat.mul_comm]
        exact Nat.le_trans a (Nat.mul_le_mul_right _ h1)
/-! ### tuples for lists, lists for tuples -/
mutual
def tupF : PyData → PyData
  | .list xs => .tuple (tupFs xs)
  | .tuple xs => .tuple (tupFs xs)
  | .none => .none
  | .bool b => .bool b
  | .int i => .int i
  | .str x => .str x
  | .dict kv => .dict kv
def tupFs : List PyData → List PyData
  | [] => []
  | x :: r => tupF x :: tupFs r
end
mutual
def lstF : PyData → PyData
  | .list xs => .list (lstFs xs)
  | .tuple xs => .list (lstFs xs)
  | .none => .none
  | .bool b => .bool b
  | .int i => .int i
  | .str x => .str x
  | .dict kv => .dict kv
def lstFs : List PyData → List PyData
  | [] => []
  | x :: r => lstF x :: lstFs r
end
theorem tupFs_map : ∀ xs : List PyData, tupFs xs = xs.map tupF
  | [] => by rw [tupFs]; rfl
  | x :: r => by rw [tupFs, tupFs_map r]; rfl
theorem lstFs_map : ∀ xs : List PyData, lstFs xs = xs.map lstF
  | [] => by rw [lstFs]; rfl
  | x :: r => by rw [lstFs, lstFs_map r]; rfl
mutual
theorem tup_lst : ∀ d : PyData, tupF (lstF d) = tupF d
  | .list xs => by rw [lstF, tupF, tupF, tups_lst xs]
  | .tuple xs => by rw [lstF, tupF, tupF, tups_lst xs]
  | .none => by rw [lstF]
  | .bool b => by rw [lstF]
  | .int i => by rw [lstF]
  | .str x => by rw [lstF]
  | .dict kv => by rw [lstF]
theorem tups_lst : ∀ xs : List PyData, tupFs (lstFs xs) = tupFs xs
  | [] => by rw [lstFs]
  | x :: r => by rw [lstFs, tupFs, tupFs, tup_lst x, tups_lst r]
end
mutual
theorem lst_bulk : ∀ d : PyData, (lstF d).bulk = d.bulk
  | .list xs => by rw [lstF, PyData.bulk, PyData.bulk, lsts_bulk xs]
  | .tuple xs => by rw [lstF, PyData.bulk, PyData.bulk, lsts_bulk xs]
  | .none => by rw [lstF]
  | .bool b => by rw [lstF]
  | .int i => by rw [lstF]
  | .str x => by rw [lstF]
  | .dict kv => by rw [lstF]
theorem lsts_bulk : ∀ xs : List PyData, PyData.bulkAll (lstFs xs) = PyData.bulkAll xs
  | [] => by rw [lstFs]
  | x :: r => by rw [lstFs, PyData.bulkAll, PyData.bulkAll, lst_bulk x, lsts_bulk r]
end
mutual
theorem lst_depth : ∀ d : PyData, (lstF d).depth = d.depth
  | .list xs => by rw [lstF, PyData.depth, PyData.depth, lsts_depth xs]
  | .tuple xs => by rw [lstF, PyData.depth, PyData.depth, lsts_depth xs]
  | .none => by rw [lstF]
  | .bool b => by rw [lstF]
  | .int i => by rw [lstF]
  | .str x => by rw [lstF]
  | .dict kv => by rw [lstF]
theorem lsts_depth : ∀ xs : List PyData, PyData.depthAll (lstFs xs) = PyData.depthAll xs
  | [] => by rw [lstFs]
  | x :: r => by rw [lstFs, PyData.depthAll, PyData.depthAll, lst_depth x, lsts_depth r]
end
mutual
theorem lst_gd : ∀ d : PyData, gd N (lstF d) = gd N d
  | .list xs => by rw [lstF, gd, gd, lsts_gd xs]
  | .tuple xs => by rw [lstF, gd, gd, lsts_gd xs]
  | .none => by rw [lstF]
  | .bool b => by rw [lstF]
  | .int i => by rw [lstF]
  | .str x => by rw [lstF]
  | .dict kv => by rw [lstF]
theorem lsts_gd : ∀ xs : List PyData, gdAll N (lstFs xs) = gdAll N xs
  | [] => by rw [lstFs]
  | x :: r => by rw [lstFs, gdAll, gdAll, lst_gd x, lsts_gd r]
end
theorem gd_memL {xs : List PyData} (h : gd N (.list xs) = true) {x : PyData} (m : x ∈ xs) : gd N x = true := by
  rw [gd] at h
  exact gdAll_iff.mp h x m
theorem as_tuples_f : ∀ (n : Nat) {d : PyData} {κ : Kap} {q : DV → Kap → Prop}, KOk κ → gd N d = true → d.bulk ≤ 900000 → d.depth < n → q (.d (tupF d)) κ → wO (r_as_tuples n [.d d] κ) q
  | 0, _, _, _, _, _, _, hp, _ => absurd hp (Nat.not_lt_zero _)
  | n + 1, d, κ, q, hk, hg, hw, hp, h => by
    show wO (f_as_tuples (r_as_tuples n) [.d d] κ) q
    unfold f_as_tuples
    walk_at "w"
    refine ⟨isCell_gd hg, ?_⟩
    have fin : ∀ x : PyData, q (.d x) κ → wO (fin κ.length (OutS.rt (.d x) κ)) q := fun x g => (finD0 (q := q) hk rfl).mpr g
    have seq : ∀ xs : List PyData, (∀ x ∈ xs, gd N x = true ∧ x.bulk ≤ 900000 ∧ x.depth < n) → xs.length ≤ 900000 → q (.d (.tuple (tupFs xs))) κ → ∀ ρ : Rho, wO (lcGo (bName 1) mYes (mCall (r_as_tuples n) (mCons (mVar 1) mNil)) (some (.d d) :: none :: ρ) xs [] κ) fun x κ1 => wO (opt κ1 (tupleD κ1 [fz x])) fun x κ' => wO (DL.fin κ.length (OutS.rt x κ')) q := fun xs hx hl hq ρ => by
      refine lcPure (F := tupF) (fun x mx => ⟨_, rfl, fun q g => ?_⟩) (by rw [List.length_nil]; omega) ?_
      · obtain ⟨a1, a2, a3⟩ := hx x mx
        walk_at "w"
        exact as_tuples_f n hk a1 a2 a3 g
      · rw [List.nil_append, fz_n, wTupleN, ← tupFs_map]
        exact fin _ hq
    cases d with
    | list xs =>
      rw [tupF] at h
      rw [if_pos (show (isT "list" (dvD (DV.d (PyData.list xs))) || isT "tuple" (dvD (DV.d (PyData.list xs)))) = true from rfl)]
      rw [PyData.bulk] at hw
      rw [PyData.depth] at hp
      exact seq xs (fun x mx => ⟨gd_memL hg mx, by have := mem_bulk mx; omega, by have := dep_mem mx; omega⟩) (Nat.le_trans len_bulk hw) h []
    | tuple xs =>
      rw [tupF] at h
      rw [if_pos (show (isT "list" (dvD (DV.d (PyData.tuple xs))) || isT "tuple" (dvD (DV.d (PyData.tuple xs)))) = true from rfl)]
      rw [PyData.bulk] at hw
      rw [PyData.depth] at hp
      exact seq xs (fun x mx => ⟨gd_mem hg mx, by have := mem_bulk mx; omega, by have := dep_mem mx; omega⟩) (Nat.le_trans len_bulk hw) h []
    | dict _ => simp [gd] at hg
    | none => rw [tupF] at h; walk_at "w"; exact fin _ h
    | bool b => rw [tupF] at h; exact fin _ h
    | int i => rw [tupF] at h; exact fin _ h
    | str x => rw [tupF] at h; exact fin _ h
end

end Law

namespace Law
open DL L2 PyProof.Rows PySem PySem.Spec
local macro_rules | `(tactic| walk_at "w") => `(tactic| simp only [wDef0, wDef1, wDef2, wDef3, List.replicate, Nat.reduceSub, wSeq, wIf, wTb, wTr, wBin, wUn, wVar, wC, wCal, wCall, wCallK, wNil, wCons, wConsC, wLst, wTup, wNotT, wAndT, wOrT, wAnd, wOr, wNotE, wIfE, wChain, wNext, wSet, wSetC, wRet, wDrop, wAsg, wPar, wFor, wLc, wYes, wSl, wNoP, wPt, wRng1, wSrcA, wSrcS, wIsI, wIsI2, wCm, wMs, wRev, wPar3, wPar3k, wZipA, wZipLL, Option.bind_some, wDivm, wDget, wPNil, wPCons, wDisp, wDin, wDinS, wEqS, wEqB, wEqNS, wIsN, wInC, wOrdC, wInT, wInNT, wNinT, wNinNT, ix0, ix1,
  wOpt, tK_some, bK_some, bK_le, bK_lt, wGtI, wLtI, wLeI, wGeI, wModI, wFdivI, wMulI, wAddI, wSubI, wEqI, wNeI, wSlL, wSlN, wSlT, wSlS, wLenL, wLenT, wLenS, wIntT, wTupleN, wMin2, wAddNN, wAddLN, wAddNL, wAddLL, wAddTT, wAddSS, wMulN, wMulT, wMulS, fz_d, fz_n, fz_c, allD, put, truD, bName, bTup, bCons, bNil, wipeR,
  List.getElem?_cons_zero, List.getElem?_cons_succ, List.set_cons_zero, List.set_cons_succ, List.length_set, List.length_cons, List.length_nil, Option.map_some, Option.map_none, if_true, Bool.false_eq_true, if_false, Bool.not_true, Bool.not_false, List.map_cons, List.map_nil, true_and, and_true, Nat.reduceAdd, Nat.reduceLeDiff])
local macro_rules | `(tactic| walk_at "b") => `(tactic| simp (disch := assumption) only [ixB0, ixB1, ixB2, DL.subB0, DL.subB2, Option.bind_some, wDef0, wDef1, wDef2, wDef3, List.replicate, Nat.reduceSub, wSeq, wIf, wTb, wTr, wBin, wUn, wVar, wC, wCal, wCall, wCallK, wNil, wCons, wConsC, wLst, wTup, wNotT, wAndT, wOrT, wAnd, wOr, wNotE, wIfE, wChain, wNext, wSet, wSetC, wRet, wDrop, wAsg, wPar, wFor, wLc, wYes, wSl, wNoP, wPt, wRng1, wSrcA, wSrcS, wIsI, wIsI2, wCm, wMs, wRev, wPar3, wPar3k, wZipA, wZipLL, Option.bind_some, wDivm, wDget, wPNil, wPCons, wDisp, wDin, wDinS, wEqS, wEqB, wEqNS, wIsN, wInC, wOrdC, wInT, wInNT, wNinT, wNinNT, ix0, ix1,
  wOpt, tK_some, bK_some, bK_le, bK_lt, wGtI, wLtI, wLeI, wGeI, wModI, wFdivI, wMulI, wAddI, wSubI, wEqI, wNeI, wSlL, wSlN, wSlT, wSlS, wLenL, wLenT, wLenS, wIntT, wTupleN, wMin2, wAddNN, wAddLN, wAddNL, wAddLL, wAddTT, wAddSS, wMulN, wMulT, wMulS, fz_d, fz_n, fz_c, allD, put, truD, bName, bTup, bCons, bNil, wipeR,
  List.getElem?_cons_zero, List.getElem?_cons_succ, List.set_cons_zero, List.set_cons_succ, List.length_set, List.length_cons, List.length_nil, Option.map_some, Option.map_none, if_true, Bool.false_eq_true, if_false, Bool.not_true, Bool.not_false, List.map_cons, List.map_nil, true_and, and_true, Nat.reduceAdd, Nat.reduceLeDiff])
local macro_rules | `(tactic| walk_at "t") => `(tactic| (try walk_at "w"))
local macro_rules | `(tactic| walk_at "x") => `(tactic| simp (maxSteps := 4000000) only [wDef0, wDef1, wDef2, wDef3, List.replicate, Nat.reduceSub, wSeq, wIf, wTb, wTr, wBin, wUn, wVar, wC, wCal, wCall, wCallK, wNil, wCons, wConsC, wLst, wTup, wNotT, wAndT, wOrT, wAnd, wOr, wNotE, wIfE, wChain, wNext, wSet, wSetC, wRet, wDrop, wAsg, wPar, wFor, wLc, wYes, wSl, wNoP, wPt, wRng1, wSrcA, wSrcS, wIsI, wIsI2, wCm, wMs, wRev, wPar3, wPar3k, wZipA, wZipLL, Option.bind_some, wDivm, wDget, wPNil, wPCons, wDisp, wDin, wDinS, wEqS, wEqB, wEqNS, wIsN, wInC, wOrdC, wInT, wInNT, wNinT, wNinNT, ix0, ix1,
  wOpt, tK_some, bK_some, bK_le, bK_lt, wGtI, wLtI, wLeI, wGeI, wModI, wFdivI, wMulI, wAddI, wSubI, wEqI, wNeI, wSlL, wSlN, wSlT, wSlS, wLenL, wLenT, wLenS, wIntT, wTupleN, wMin2, wAddNN, wAddLN, wAddNL, wAddLL, wAddTT, wAddSS, wMulN, wMulT, wMulS, fz_d, fz_n, fz_c, allD, put, truD, bName, bTup, bCons, bNil, wipeR,
  List.getElem?_cons_zero, List.getElem?_cons_succ, List.set_cons_zero, List.set_cons_succ, List.length_set, List.length_cons, List.length_nil, Option.map_some, Option.map_none, if_true, Bool.false_eq_true, if_false, Bool.not_true, Bool.not_false, List.map_cons, List.map_nil, true_and, and_true, Nat.reduceAdd, Nat.reduceLeDiff])
section
variable {κ : Kap} {N : Nat} {d : PyData} {q : DV → Kap → Prop}
theorem tups_ints : ∀ ns : List Int, tupFs (ns.map .int) = ns.map .int
  | [] => by rw [List.map_nil, tupFs]
  | n :: r => by rw [List.map_cons, tupFs, tupF, tups_ints r]
theorem tup_hD : ∀ hs : List (Str × Str), tupFs (hD hs) = hD hs
  | [] => by unfold hD; rw [List.map_nil, tupFs]
  | p :: r => by
    have e := tup_hD r
    unfold hD at e ⊢
    rw [List.map_cons, tupFs, e, tupF, tupFs, tupFs, tupFs, tupF, tupF]
theorem tup_bd : ∀ (k : Nat) {d : PyData} {ws : List (List Int)}, isBd k d ws → tupF d = d
  | 0, _, _, h => h.elim
  | k + 1, d, ws, h => by
    rcases h with ⟨ns, h1, _, rfl, rfl⟩ | ⟨ps, h1, h2, rfl, rfl⟩
    · rw [tupF, tupFs, tupFs, tupFs, tupF, tupF, tups_ints]
    · have e : ∀ qs : List (List (Str × Str) × PyData × List (List Int)), (∀ p ∈ qs, isBd k p.2.1 p.2.2) → tupFs (qs.map fun p => PyData.tuple [.tuple (hD p.1), p.2.1]) = qs.map fun p => PyData.tuple [.tuple (hD p.1), p.2.1] := by
        intro qs
        induction qs with
        | nil => intro _; rw [List.map_nil, tupFs]
        | cons p r ih =>
          intro hq
          rw [List.map_cons, tupFs, ih fun p m => hq p (List.mem_cons_of_mem _ m), tupF, tupFs, tupFs, tupFs, tupF, tup_hD, tup_bd k (hq p List.mem_cons_self)]
      rw [tupF, tupFs, tupFs, tupFs, tupF, tupF, e ps fun p m => (h2 p m).1]
theorem gd_ints {ns : List Int} (h1 : ns.length ≤ 300) (h : ∀ n ∈ ns, 0 ≤ n ∧ n < 65536) : Gd 65536 300 1 (ntup ns) := by
  refine (Gd.tup (N := 65536) (W := 0) (D := 0) (n := 300) (fun x m => ?_) (by rw [List.length_map]; exact h1)).up (by decide) (by decide)
  obtain ⟨i, mi, rfl⟩ := List.mem_map.mp m
  exact gd_w (Nat.le_refl _) (isW_int (h i mi).1 (h i mi).2)
theorem gd_head {p : Str × Str} (h : (p.1.length ≤ 100 ∧ p.2.length ≤ 100) ∧ p.1.cps.toList.all (fun c => decide (c < 128)) = true ∧ p.2.cps.toList.all (fun c => decide (c < 128)) = true) : Gd 65536 202 1 (.tuple [.str p.1, .str p.2]) :=
  (Gd.pair (gd_str h.1.1 h.2.1) (gd_str h.1.2 h.2.2)).up (by decide) (by decide)
theorem gd_hs {hs : List (Str × Str)} (h : hsOk hs) : Gd 65536 2436 2 (.tuple (hD hs)) := by
  refine (Gd.tup (N := 65536) (W := 202) (D := 1) (n := 12) (fun x m => ?_) (by unfold hD; rw [List.length_map]; exact h.1)).up (by decide) (by decide)
  unfold hD at m
  obtain ⟨p, mp, rfl⟩ := List.mem_map.mp m
  exact gd_head (h.2 p mp)
def bdW : Nat → Nat
  | 0 => 0
  | k + 1 => 400 + 3 * (bdW k + 2500)
theorem gd_bd : ∀ (k : Nat) {d : PyData} {ws : List (List Int)}, isBd k d ws → Gd 65536 (bdW k) (3 * k + 2) d
  | 0, _, _, h => h.elim
  | k + 1, d, ws, h => by
    have gs : ∀ x : Str, x.length ≤ 5 → x.cps.toList.all (fun c => decide (c < 128)) = true → Gd 65536 5 0 (.str x) := fun x a b => gd_str a b
    rcases h with ⟨ns, h1, h3, rfl, rfl⟩ | ⟨ps, h1, h2, rfl, rfl⟩
    · exact (Gd.pair (gs "words" (by decide +kernel) (by decide +kernel)) (gd_ints h1 h3)).up (by rw [bdW]; omega) (by omega)
    · have g := Gd.tup (N := 65536) (W := 2436 + 1 + (bdW k + 1)) (D := max 2 (3 * k + 2) + 1) (n := 3) (xs := ps.map fun p => PyData.tuple [.tuple (hD p.1), p.2.1]) (fun x m => by
        obtain ⟨p, mp, rfl⟩ := List.mem_map.mp m
        exact Gd.pair (gd_hs (h2 p mp).2) (gd_bd k (h2 p mp).1)) (by rw [List.length_map]; exact h1)
      exact (Gd.pair (gs "parts" (by decide +kernel) (by decide +kernel)) g).up (by rw [bdW]; omega) (by omega)
theorem dep_bd : ∀ (k : Nat) {d : PyData} {ws : List (List Int)}, isBd (k + 1) d ws → d.depth ≤ 3 * k + 2
  | k, d, ws, h => by
    have gs : ∀ x : Str, x.length ≤ 5 → x.cps.toList.all (fun c => decide (c < 128)) = true → Gd 65536 5 0 (.str x) := fun x a b => gd_str a b
    rcases h with ⟨ns, h1, h3, rfl, rfl⟩ | ⟨ps, h1, h2, rfl, rfl⟩
    · exact Nat.le_trans (Gd.pair (gs "words" (by decide +kernel) (by decide +kernel)) (gd_ints h1 h3)).p (by omega)
    · cases k with
      | zero =>
        have : ps = [] := by
          cases ps with
          | nil => rfl
          | cons p r => exact (h2 p List.mem_cons_self).1.elim
        subst this
        decide +kernel
      | succ k =>
        have g := Gd.tup (N := 65536) (W := 2436 + 1 + (bdW (k + 1) + 1)) (D := max 2 (3 * k + 2) + 1) (n := 3) (xs := ps.map fun p => PyData.tuple [.tuple (hD p.1), p.2.1]) (fun x m => by
          obtain ⟨p, mp, rfl⟩ := List.mem_map.mp m
          have b := gd_bd (k + 1) (h2 p mp).1
          exact Gd.pair (gd_hs (h2 p mp).2) ⟨b.g, b.w, dep_bd k (h2 p mp).1⟩) (by rw [List.length_map]; exact h1)
        exact Nat.le_trans (Gd.pair (gs "parts" (by decide +kernel) (by decide +kernel)) g).p (by omega)
/-! ### letters -/
structure Let (hs : List (Str × Str)) (bd : PyData) (ws : List (List Int)) : Prop where
  h : hsOk hs
  b : isBd 3 bd ws
abbrev letD (hs : List (Str × Str)) (bd : PyData) : PyData := .tuple [.tuple (hD hs), bd]
theorem Let.gd {hs : List (Str × Str)} {bd : PyData} {ws : List (List Int)} (L : Let hs bd ws) : Gd 65536 200000 9 (letD hs bd) :=
  (Gd.pair (gd_hs L.h) ⟨(gd_bd 3 L.b).g, (gd_bd 3 L.b).w, dep_bd 2 L.b⟩).up (by decide) (by decide)
theorem Let.tup {hs : List (Str × Str)} {bd : PyData} {ws : List (List Int)} (L : Let hs bd ws) : tupF (letD hs bd) = letD hs bd := by
  rw [tupF, tupFs, tupFs, tupFs, tupF, tup_hD, tup_bd 3 L.b]
def aboutW (hs : List (Str × Str)) : List Str := match firstH "about" hs with
  | .str x => wordsOf (ords x)
  | _ => []
def allW (hs : List (Str × Str)) (ws : List (List Int)) : List Str := aboutW hs ++ (ws.map wordsOf).flatten
theorem first_str : ∀ (n : Str) (hs : List (Str × Str)), firstH n hs = .none ∨ ∃ p ∈ hs, firstH n hs = .str p.2
  | n, [] => .inl rfl
  | n, p :: r => by
    unfold firstH
    by_cases c : (p.1 == n) = true
    · rw [if_pos c]; exact .inr ⟨p, List.mem_cons_self, rfl⟩
    · rw [if_neg c]
      exact (first_str n r).imp id fun ⟨y, m, e⟩ => ⟨y, List.mem_cons_of_mem _ m, e⟩
theorem allW_len {hs : List (Str × Str)} {bd : PyData} {ws : List (List Int)} (L : Let hs bd ws) : (allW hs ws).length < 4000 ∧ (aboutW hs).length ≤ 101 ∧ (ws.map wordsOf).flatten.length ≤ 2709 := by
  have a1 : (aboutW hs).length ≤ 101 := by
    unfold aboutW
    rcases first_str "about" hs with e | ⟨p, mp, e⟩
    · rw [e]; decide
    · rw [e]
      have h1 := wordsOf_len (ords p.2)
      have h2 := (L.h.2 p mp).1.2
      rw [ords_len] at h1
      show (wordsOf (ords p.2)).length ≤ 101
      omega
  have a2 : ws.length ≤ 9 := isBd_len2 2 L.b
  have a3 := (isBd_len 3 L.b).2
  have a4 : ∀ xs : List (List Int), (∀ x ∈ xs, x.length ≤ 300) → (xs.map wordsOf).flatten.length ≤ xs.length * 301 := by
    intro xs
    induction xs with
    | nil => intro _; simp
    | cons x r ih =>
      intro hx
      rw [List.map_cons, List.flatten_cons, List.length_append, List.length_cons]
      have := ih fun y m => hx y (List.mem_cons_of_mem _ m)
      have := hx x List.mem_cons_self
      have := wordsOf_len x
      omega
  have a5 := a4 ws a3
  refine ⟨?_, a1, by omega⟩
  unfold allW
  rw [List.length_append]; omega
theorem ext_w {as bs : List PyData} (h : as.length + bs.length ≤ 1000000) : extF (as.map DV.d) [.d (.list bs)] = some (.d .none, (as ++ bs).map .d) := by
  unfold extF
  dsimp only
  rw [if_pos (by rw [List.length_map]; exact h), List.map_append]
theorem words_of_w (hk : KOk κ) {hs : List (Str × Str)} {bd : PyData} {ws : List (List Int)} (L : Let hs bd ws) {x : PyData} (gx : Gd 65536 200000 9 x) (tx : tupF x = letD hs bd) (h : q (.n ((sortedL (allW hs ws)).map .str)) κ) : wO (m_words_of [.d x] κ) q := by
  obtain ⟨w1, w2, w3⟩ := allW_len L
  unfold m_words_of m_as_tuples
  walk_at "w"
  refine as_tuples_f 12 hk gx.g (Nat.le_trans gx.w (by decide)) (Nat.lt_of_le_of_lt gx.p (by decide)) ?_
  rw [tx, fz_d]
  walk_at "w"
  refine head_of_w hk ?_
  rw [fz_d]
  have loop : ∀ (fs : List Str), fs = aboutW hs → wP (forGo (bName 4) (mDrop (mCm extF (mVar 3) (mCons (mCall m_words_in (mCons (mVar 4) mNil)) mNil))) (ws.map ntup) [some (DV.d x), some (DV.d (letD hs bd)), some (DV.d (firstH "about" hs)), some (DV.c κ.length), none] (κ ++ [cl (fs.map .str)]))
      { nx := fun ρ κ_1 => match ρ[3]? with
        | some (some x) => wO (opt κ_1 (sortSetD κ_1 [fz x])) fun x κ' => wO (fin κ.length (OutS.rt x κ')) q
        | x => False, rt := fun x κ' => wO (fin κ.length (OutS.rt x κ')) q } := fun fs efs => by
    subst efs
    refine wForI (fun r ρ κ1 => ∃ (rest : List (List Int)) (acc : List Str) (x4 : Option DV), r = rest.map ntup ∧ (∀ y ∈ rest, y ∈ ws) ∧ acc ++ (rest.map wordsOf).flatten = allW hs ws ∧ ρ = [some (DV.d x), some (DV.d (letD hs bd)), some (DV.d (firstH "about" hs)), some (DV.c κ.length), x4] ∧ κ1 = κ ++ [cl (acc.map .str)]) _ _ _ ⟨ws, aboutW hs, none, rfl, fun _ m => m, rfl, rfl, rfl⟩ ?_ ?_
    · rintro ρ κ1 ⟨rest, acc, x4, e1, _, e3, rfl, rfl⟩
      cases rest with
      | cons x r => cases e1
      | nil =>
        have e3 : acc ++ [] = allW hs ws := e3
        rw [List.append_nil] at e3
        walk_at "w"
        refine sortSetW (ks := acc) ?_ (by rw [e3]; exact w1) ?_
        · unfold lv; dsimp only; rw [get_app]; exact allD_map _
        · rw [e3]
          exact (finN (q := q) hk rfl).mpr h
    · rintro d r ρ κ1 ⟨rest, acc, x4, e1, e2, e3, rfl, rfl⟩
      cases rest with
      | nil => cases e1
      | cons ns rest =>
        rw [List.map_cons] at e1
        injection e1 with e1 e5
        subst e1 e5
        rw [List.map_cons, List.flatten_cons] at e3
        have sz := congrArg List.length e3
        rw [List.length_append, List.length_append] at sz
        walk_at "w"
        simp only [get_app]
        refine words_in_w (KOk.appC hk) (Nat.le_trans ((isBd_len 3 L.b).2 ns (e2 ns List.mem_cons_self)) (by decide)) ?_
        simp only [fz_n, get_app]
        rw [ext_w (by rw [List.length_map, List.length_map]; omega)]
        dsimp only
        rw [set_app1, ← List.map_append]
        exact ⟨rest, acc ++ wordsOf ns, _, rfl, fun y m => e2 y (List.mem_cons_of_mem _ m), by rw [List.append_assoc]; exact e3, rfl, rfl⟩
  rw [wIsN]
  rcases first_str "about" hs with e | ⟨p, mp, e⟩
  · rw [e] at loop ⊢
    simp only [isNone, if_true]
    refine letter_writings_w (κ := κ ++ [cl []]) (KOk.appC hk) (k := 3) (by decide) L.b ?_
    exact loop [] (by unfold aboutW; rw [e])
  · rw [e] at loop ⊢
    simp only [isNone, Bool.false_eq_true, if_false, fz_d]
    have lp := (L.h.2 p mp).1.2
    refine writing_of_w hk (by omega) ?_
    rw [fz_d]
    refine words_in_w hk (by rw [ords_len]; omega) ?_
    dsimp only
    refine letter_writings_w (KOk.appC hk) (k := 3) (by decide) L.b ?_
    exact loop (wordsOf (ords p.2)) (by unfold aboutW; rw [e])
theorem wNeB {x y : Bool} : wO (opt κ (neD κ (.d (.bool x)) (.d (.bool y)))) q = q (.d (.bool (!(x == y)))) κ := by
  have : neD κ (.d (.bool x)) (.d (.bool y)) = some (.d (.bool (!(x == y)))) := by
    unfold neD eqDV dat
    simp [PyData.hasDict, PyData.depth, PyData.eqv]
  rw [this]; exact propext Iff.rfl
theorem same_str (n : Nat) {x : Str} (hk : KOk κ) (h : q (.d (.bool true)) κ) : wO (r__law_same (n + 1) [.d (.str x), .d (.str x)] κ) q := by
  show wO (f__law_same (r__law_same n) [.d (.str x), .d (.str x)] κ) q
  unfold f__law_same
  walk_at "w"
  have t1 : isT "list" (dvD (DV.d (.str x))) = false := rfl
  have t2 : isT "tuple" (dvD (DV.d (.str x))) = false := rfl
  have t3 : isT "bool" (dvD (DV.d (.str x))) = false := rfl
  have t4 : isT "str" (dvD (DV.d (.str x))) = true := rfl
  have t5 : isNone (.str x) = false := rfl
  simp only [t1, t2, t3, t4, t5, Bool.or_self, Bool.false_or, beq_self_eq_true, if_true, Bool.false_eq_true, if_false]
  exact ⟨rfl, rfl, rfl, rfl, (finD0 (q := q) hk rfl).mpr h⟩
theorem zipD_self : ∀ {ds : List PyData} {d : PyData}, d ∈ zipD ds ds → ∃ x ∈ ds, d = .tuple [x, x]
  | [], d, m => by simp [zipD] at m
  | y :: r, d, m => by
    simp only [zipD, List.mem_cons] at m
    rcases m with rfl | m
    · exact ⟨y, List.mem_cons_self, rfl⟩
    · obtain ⟨x, mx, e⟩ := zipD_self m
      exact ⟨x, List.mem_cons_of_mem _ mx, e⟩
theorem zipD_selfL : ∀ ds : List PyData, (zipD ds ds).length = ds.length
  | [] => by simp [zipD]
  | y :: r => by simp [zipD, zipD_selfL r]
theorem same_list (n : Nat) {ds : List PyData} (hl : ds.length ≤ 100000) (hs : ∀ x ∈ ds, ∀ q : DV → Kap → Prop, q (.d (.bool true)) κ → wO (r__law_same n [.d x, .d x] κ) q) (hk : KOk κ) (h : q (.d (.bool true)) κ) : wO (r__law_same (n + 1) [.d (.list ds), .d (.list ds)] κ) q := by
  show wO (f__law_same (r__law_same n) [.d (.list ds), .d (.list ds)] κ) q
  unfold f__law_same
  walk_at "w"
  have t1 : isT "list" (dvD (DV.d (.list ds))) = true := rfl
  have t2 : isT "tuple" (dvD (DV.d (.list ds))) = false := rfl
  simp only [t1, t2, wNeB, Bool.true_or, Bool.or_false, beq_self_eq_true, Bool.not_true, if_true, Bool.false_eq_true, if_false]
  refine ⟨rfl, rfl, rfl, rfl, rfl, ?_⟩
  refine lcAll (P := fun _ => true) (fun d md => ?_) (by rw [zipD_selfL]; omega) ?_
  · obtain ⟨x, mx, rfl⟩ := zipD_self md
    refine ⟨_, rfl, fun q g => ?_⟩
    walk_at "w"
    exact hs x mx q g
  · rw [show (zipD ds ds).all (fun _ => true) = true by simp]
    exact (finD0 (q := q) hk rfl).mpr h
theorem same_strs (n : Nat) {xs : List Str} (hl : xs.length ≤ 100000) (hk : KOk κ) (h : q (.d (.bool true)) κ) : wO (r__law_same (n + 2) [.d (.list (xs.map .str)), .d (.list (xs.map .str))] κ) q := by
  refine same_list (n + 1) (by rw [List.length_map]; exact hl) (fun x mx q g => ?_) hk h
  obtain ⟨y, _, rfl⟩ := List.mem_map.mp mx
  exact same_str n hk g
end

end Law

namespace Law
open DL L2 PyProof.Rows PySem PySem.Spec
local macro_rules | `(tactic| walk_at "w") => `(tactic| simp only [wDef0, wDef1, wDef2, wDef3, List.replicate, Nat.reduceSub, wSeq, wIf, wTb, wTr, wBin, wUn, wVar, wC, wCal, wCall, wCallK, wNil, wCons, wConsC, wLst, wTup, wNotT, wAndT, wOrT, wAnd, wOr, wNotE, wIfE, wChain, wNext, wSet, wSetC, wRet, wDrop, wAsg, wPar, wFor, wLc, wYes, wSl, wNoP, wPt, wRng1, wSrcA, wSrcS, wIsI, wIsI2, wCm, wMs, wRev, wPar3, wPar3k, wZipA, wZipLL, Option.bind_some, wDivm, wDget, wPNil, wPCons, wDisp, wDin, wDinS, wEqS, wEqB, wEqNS, wIsN, wInC, wOrdC, wInT, wInNT, wNinT, wNinNT, ix0, ix1,
  wOpt, tK_some, bK_some, bK_le, bK_lt, wGtI, wLtI, wLeI, wGeI, wModI, wFdivI, wMulI, wAddI, wSubI, wEqI, wNeI, wSlL, wSlN, wSlT, wSlS, wLenL, wLenT, wLenS, wIntT, wTupleN, wMin2, wAddNN, wAddLN, wAddNL, wAddLL, wAddTT, wAddSS, wMulN, wMulT, wMulS, fz_d, fz_n, fz_c, allD, put, truD, bName, bTup, bCons, bNil, wipeR,
  List.getElem?_cons_zero, List.getElem?_cons_succ, List.set_cons_zero, List.set_cons_succ, List.length_set, List.length_cons, List.length_nil, Option.map_some, Option.map_none, if_true, Bool.false_eq_true, if_false, Bool.not_true, Bool.not_false, List.map_cons, List.map_nil, true_and, and_true, Nat.reduceAdd, Nat.reduceLeDiff])
local macro_rules | `(tactic| walk_at "b") => `(tactic| simp (disch := assumption) only [ixB0, ixB1, ixB2, DL.subB0, DL.subB2, Option.bind_some, wDef0, wDef1, wDef2, wDef3, List.replicate, Nat.reduceSub, wSeq, wIf, wTb, wTr, wBin, wUn, wVar, wC, wCal, wCall, wCallK, wNil, wCons, wConsC, wLst, wTup, wNotT, wAndT, wOrT, wAnd, wOr, wNotE, wIfE, wChain, wNext, wSet, wSetC, wRet, wDrop, wAsg, wPar, wFor, wLc, wYes, wSl, wNoP, wPt, wRng1, wSrcA, wSrcS, wIsI, wIsI2, wCm, wMs, wRev, wPar3, wPar3k, wZipA, wZipLL, Option.bind_some, wDivm, wDget, wPNil, wPCons, wDisp, wDin, wDinS, wEqS, wEqB, wEqNS, wIsN, wInC, wOrdC, wInT, wInNT, wNinT, wNinNT, ix0, ix1,
  wOpt, tK_some, bK_some, bK_le, bK_lt, wGtI, wLtI, wLeI, wGeI, wModI, wFdivI, wMulI, wAddI, wSubI, wEqI, wNeI, wSlL, wSlN, wSlT, wSlS, wLenL, wLenT, wLenS, wIntT, wTupleN, wMin2, wAddNN, wAddLN, wAddNL, wAddLL, wAddTT, wAddSS, wMulN, wMulT, wMulS, fz_d, fz_n, fz_c, allD, put, truD, bName, bTup, bCons, bNil, wipeR,
  List.getElem?_cons_zero, List.getElem?_cons_succ, List.set_cons_zero, List.set_cons_succ, List.length_set, List.length_cons, List.length_nil, Option.map_some, Option.map_none, if_true, Bool.false_eq_true, if_false, Bool.not_true, Bool.not_false, List.map_cons, List.map_nil, true_and, and_true, Nat.reduceAdd, Nat.reduceLeDiff])
local macro_rules | `(tactic| walk_at "t") => `(tactic| (try walk_at "w"))
local macro_rules | `(tactic| walk_at "x") => `(tactic| simp (maxSteps := 4000000) only [wDef0, wDef1, wDef2, wDef3, List.replicate, Nat.reduceSub, wSeq, wIf, wTb, wTr, wBin, wUn, wVar, wC, wCal, wCall, wCallK, wNil, wCons, wConsC, wLst, wTup, wNotT, wAndT, wOrT, wAnd, wOr, wNotE, wIfE, wChain, wNext, wSet, wSetC, wRet, wDrop, wAsg, wPar, wFor, wLc, wYes, wSl, wNoP, wPt, wRng1, wSrcA, wSrcS, wIsI, wIsI2, wCm, wMs, wRev, wPar3, wPar3k, wZipA, wZipLL, Option.bind_some, wDivm, wDget, wPNil, wPCons, wDisp, wDin, wDinS, wEqS, wEqB, wEqNS, wIsN, wInC, wOrdC, wInT, wInNT, wNinT, wNinNT, ix0, ix1,
  wOpt, tK_some, bK_some, bK_le, bK_lt, wGtI, wLtI, wLeI, wGeI, wModI, wFdivI, wMulI, wAddI, wSubI, wEqI, wNeI, wSlL, wSlN, wSlT, wSlS, wLenL, wLenT, wLenS, wIntT, wTupleN, wMin2, wAddNN, wAddLN, wAddNL, wAddLL, wAddTT, wAddSS, wMulN, wMulT, wMulS, fz_d, fz_n, fz_c, allD, put, truD, bName, bTup, bCons, bNil, wipeR,
  List.getElem?_cons_zero, List.getElem?_cons_succ, List.set_cons_zero, List.set_cons_succ, List.length_set, List.length_cons, List.length_nil, Option.map_some, Option.map_none, if_true, Bool.false_eq_true, if_false, Bool.not_true, Bool.not_false, List.map_cons, List.map_nil, true_and, and_true, Nat.reduceAdd, Nat.reduceLeDiff])
section
variable {κ : Kap} {j N : Nat} {a b c : Int} {q Q : DV → Kap → Prop} {d : PyData}
abbrev Bb (b : Int) : Prop := -(2 ^ 62) < b ∧ b < 2 ^ 62
theorem take_w (hj : j < κ.length) (hk : KOk κ) (hb : Bb b) {n : Int} (h0 : 0 < n) (h1 : n < 1073741824) (hc : 0 ≤ c ∧ c + 1 ≤ 2 ^ 40) (h : ∀ r a' c' : Int, 0 ≤ r → r < n → c ≤ c' ∧ c' ≤ c + 1 → Q (.d (.int r)) (κ.set j (bx a' b c'))) :
    wO (m__law_take [.c j, .d (.int n)] (κ.set j (bx a b c))) Q := by
  have hk' : ∀ a b c : Int, KOk (κ.set j (bx a b c)) := fun _ _ _ => hk.set
  unfold m__law_take
  walk_at "w"
  simp only [ixB0 hj, ixB1 hj, ixB2 hj, subB0 hj, subB2 hj, Option.bind_some]
  walk_at "w"
  split
  · rename_i ha
    simp only [ixB0 hj, fz_d]
    walk_at "w"
    refine ⟨⟨h0, h1⟩, ?_⟩
    simp only [subB0 hj, Option.bind_some]
    walk_at "w"
    rw [finD0 (hk' ..) (by simp)]
    exact h _ _ _ (Int.emod_nonneg _ (by omega)) (Int.emod_lt_of_pos _ h0) (by omega)
  · walk_at "b"
    refine ⟨.inl (by decide), .inr (by omega), by decide, by decide, by decide, .inr ?_, by decide, .inr (by decide), by decide, by decide, h0, ?_⟩
    · have h3 := Int.emod_nonneg (((b + 48271 * (c + 1)) * (39373 + (c + 1)) % 2147483647)) (show (40009 : Int) ≠ 0 by omega)
      have h4 := Int.emod_lt_of_pos (((b + 48271 * (c + 1)) * (39373 + (c + 1)) % 2147483647)) (show (0 : Int) < 40009 by omega)
      omega
    rw [finD0 (hk' ..) (by simp)]
    exact h _ _ _ (Int.emod_nonneg _ (by omega)) (Int.emod_lt_of_pos _ h0) (by omega)
end

end Law

namespace Law
open DL L2 PyProof.Rows PySem PySem.Spec
local macro_rules | `(tactic| walk_at "w") => `(tactic| simp only [wDef0, wDef1, wDef2, wDef3, List.replicate, Nat.reduceSub, wSeq, wIf, wTb, wTr, wBin, wUn, wVar, wC, wCal, wCall, wCallK, wNil, wCons, wConsC, wLst, wTup, wNotT, wAndT, wOrT, wAnd, wOr, wNotE, wIfE, wChain, wNext, wSet, wSetC, wRet, wDrop, wAsg, wPar, wFor, wLc, wYes, wSl, wNoP, wPt, wRng1, wSrcA, wSrcS, wIsI, wIsI2, wCm, wMs, wRev, wPar3, wPar3k, wZipA, wZipLL, Option.bind_some, wDivm, wDget, wPNil, wPCons, wDisp, wDin, wDinS, wEqS, wEqB, wEqNS, wIsN, wInC, wOrdC, wInT, wInNT, wNinT, wNinNT, ix0, ix1,
  wOpt, tK_some, bK_some, bK_le, bK_lt, wGtI, wLtI, wLeI, wGeI, wModI, wFdivI, wMulI, wAddI, wSubI, wEqI, wNeI, wSlL, wSlN, wSlT, wSlS, wLenL, wLenT, wLenS, wIntT, wTupleN, wMin2, wAddNN, wAddLN, wAddNL, wAddLL, wAddTT, wAddSS, wMulN, wMulT, wMulS, fz_d, fz_n, fz_c, allD, put, truD, bName, bTup, bCons, bNil, wipeR,
  List.getElem?_cons_zero, List.getElem?_cons_succ, List.set_cons_zero, List.set_cons_succ, List.length_set, List.length_cons, List.length_nil, Option.map_some, Option.map_none, if_true, Bool.false_eq_true, if_false, Bool.not_true, Bool.not_false, List.map_cons, List.map_nil, true_and, and_true, Nat.reduceAdd, Nat.reduceLeDiff])
local macro_rules | `(tactic| walk_at "b") => `(tactic| simp (disch := assumption) only [ixB0, ixB1, ixB2, DL.subB0, DL.subB2, Option.bind_some, wDef0, wDef1, wDef2, wDef3, List.replicate, Nat.reduceSub, wSeq, wIf, wTb, wTr, wBin, wUn, wVar, wC, wCal, wCall, wCallK, wNil, wCons, wConsC, wLst, wTup, wNotT, wAndT, wOrT, wAnd, wOr, wNotE, wIfE, wChain, wNext, wSet, wSetC, wRet, wDrop, wAsg, wPar, wFor, wLc, wYes, wSl, wNoP, wPt, wRng1, wSrcA, wSrcS, wIsI, wIsI2, wCm, wMs, wRev, wPar3, wPar3k, wZipA, wZipLL, Option.bind_some, wDivm, wDget, wPNil, wPCons, wDisp, wDin, wDinS, wEqS, wEqB, wEqNS, wIsN, wInC, wOrdC, wInT, wInNT, wNinT, wNinNT, ix0, ix1,
  wOpt, tK_some, bK_some, bK_le, bK_lt, wGtI, wLtI, wLeI, wGeI, wModI, wFdivI, wMulI, wAddI, wSubI, wEqI, wNeI, wSlL, wSlN, wSlT, wSlS, wLenL, wLenT, wLenS, wIntT, wTupleN, wMin2, wAddNN, wAddLN, wAddNL, wAddLL, wAddTT, wAddSS, wMulN, wMulT, wMulS, fz_d, fz_n, fz_c, allD, put, truD, bName, bTup, bCons, bNil, wipeR,
  List.getElem?_cons_zero, List.getElem?_cons_succ, List.set_cons_zero, List.set_cons_succ, List.length_set, List.length_cons, List.length_nil, Option.map_some, Option.map_none, if_true, Bool.false_eq_true, if_false, Bool.not_true, Bool.not_false, List.map_cons, List.map_nil, true_and, and_true, Nat.reduceAdd, Nat.reduceLeDiff])
local macro_rules | `(tactic| walk_at "t") => `(tactic| (try walk_at "w"))
local macro_rules | `(tactic| walk_at "x") => `(tactic| simp (maxSteps := 4000000) only [wDef0, wDef1, wDef2, wDef3, List.replicate, Nat.reduceSub, wSeq, wIf, wTb, wTr, wBin, wUn, wVar, wC, wCal, wCall, wCallK, wNil, wCons, wConsC, wLst, wTup, wNotT, wAndT, wOrT, wAnd, wOr, wNotE, wIfE, wChain, wNext, wSet, wSetC, wRet, wDrop, wAsg, wPar, wFor, wLc, wYes, wSl, wNoP, wPt, wRng1, wSrcA, wSrcS, wIsI, wIsI2, wCm, wMs, wRev, wPar3, wPar3k, wZipA, wZipLL, Option.bind_some, wDivm, wDget, wPNil, wPCons, wDisp, wDin, wDinS, wEqS, wEqB, wEqNS, wIsN, wInC, wOrdC, wInT, wInNT, wNinT, wNinNT, ix0, ix1,
  wOpt, tK_some, bK_some, bK_le, bK_lt, wGtI, wLtI, wLeI, wGeI, wModI, wFdivI, wMulI, wAddI, wSubI, wEqI, wNeI, wSlL, wSlN, wSlT, wSlS, wLenL, wLenT, wLenS, wIntT, wTupleN, wMin2, wAddNN, wAddLN, wAddNL, wAddLL, wAddTT, wAddSS, wMulN, wMulT, wMulS, fz_d, fz_n, fz_c, allD, put, truD, bName, bTup, bCons, bNil, wipeR,
  List.getElem?_cons_zero, List.getElem?_cons_succ, List.set_cons_zero, List.set_cons_succ, List.length_set, List.length_cons, List.length_nil, Option.map_some, Option.map_none, if_true, Bool.false_eq_true, if_false, Bool.not_true, Bool.not_false, List.map_cons, List.map_nil, true_and, and_true, Nat.reduceAdd, Nat.reduceLeDiff])
section
variable {κ : Kap} {j N : Nat} {a b c : Int} {q Q : DV → Kap → Prop} {d : PyData}
def words14 : List Str := ["house", "one", "list", "link", "from", "to", "end", "begin", "post", "in", "about", "auto", "line", "plan"]
theorem split14 : Txt.split ("house one list link from to end begin post in about auto line plan" : Str) (" " : Str) = words14 := by decide +kernel
theorem lall_app {P : Nat → Bool} {x y : Str} (h : x.cps.toList.all P = true) (g : y.cps.toList.all P = true) : (x ++ y).cps.toList.all P = true := by
  show (x.cps ++ y.cps).toList.all P = true
  rw [Array.toList_append, List.all_append, h, g]; rfl
theorem lall_rep {P : Nat → Bool} {x : Str} (n : Nat) (h : x.cps.toList.all P = true) : (repS x n).cps.toList.all P = true := by
  refine List.all_eq_true.mpr fun c m => List.all_eq_true.mp h c ?_
  have m : c ∈ (List.replicate n x.cps.toList).flatten := by simpa [repS] using m
  obtain ⟨l, ml, mc⟩ := List.mem_flatten.mp m
  rw [(List.mem_replicate.mp ml).2] at mc
  exact mc
theorem lall_cut {P : Nat → Bool} {x : Str} (h : x.cps.toList.all P = true) {lo hi : Option Int} : (cutS x lo hi).cps.toList.all P = true :=
  List.all_eq_true.mpr fun c m => List.all_eq_true.mp h c (cutS_mem c m)
theorem chr_a {x : Str} {n : Nat} (hx : x.cps.toList.all wordC = true) {c : Nat} (m : c ∈ x.cps.toList) : (⟨#[c]⟩ : Str).length = 1 ∧ (⟨#[c]⟩ : Str).cps.toList.all wordC = true := by
  refine ⟨rfl, ?_⟩
  have := List.all_eq_true.mp hx c m
  simpa using this
/-! ### three names -/
def nmOk (x : Str) : Prop := x.length ≤ 8 ∧ x.cps.toList.all wordC = true
structure N3 (x y z : Str) : Prop where
  ox : nmOk x
  oy : nmOk y
  oz : nmOk z
  xy : x ≠ y
  yz : y ≠ z
  xz : x ≠ z
def nmB (x : Str) : Bool := decide (x.length ≤ 8) && x.cps.toList.all wordC
theorem nmB_ok {x : Str} (h : nmB x = true) : nmOk x := by
  unfold nmB at h; rw [Bool.and_eq_true] at h
  exact ⟨of_decide_eq_true h.1, h.2⟩
def n3B : List PyData → Bool
  | [.str x, .str y, .str z] => nmB x && (nmB y && (nmB z && (!(x == y) && (!(y == z) && !(x == z)))))
  | _ => false
theorem n3_ex {l : List PyData} (h : n3B l = true) : ∃ x y z, l = [.str x, .str y, .str z] ∧ N3 x y z := by
  unfold n3B at h
  split at h
  · rename_i x y z
    simp only [Bool.and_eq_true, Bool.not_eq_true', beq_eq_false_iff_ne] at h
    exact ⟨x, y, z, rfl, nmB_ok h.1, nmB_ok h.2.1, nmB_ok h.2.2.1, h.2.2.2.1, h.2.2.2.2.1, h.2.2.2.2.2⟩
  · cases h
theorem way0 {i : Int} (h0 : 0 ≤ i) (h1 : i < 14) : ∃ x y z, DL.cutD (DL.cutD (List.map PyData.str words14 ++ List.map PyData.str words14) (some i) none) none (some 3) = [.str x, .str y, .str z] ∧ N3 x y z := by
  obtain ⟨m, rfl⟩ : ∃ m : Nat, i = m := ⟨i.toNat, by omega⟩
  have key : ((List.range 14).all fun m => n3B (DL.cutD (DL.cutD (List.map PyData.str words14 ++ List.map PyData.str words14) (some (m : Int)) none) none (some 3))) = true := by decide +kernel
  exact n3_ex (List.all_eq_true.mp key m (List.mem_range.mpr (by omega)))
def chN (i : Nat) : Nat := if i < 16 then 97 + i else 98 + i
def chAt (i : Nat) : Str := ⟨#[chN i]⟩
theorem lets25 : (decide (("abcdefghijklmnoprstuvwxyz" : Str).length = 25) && (List.range 25).all fun n => ("abcdefghijklmnoprstuvwxyz" : Str).cps.toList[n]? == some (chN n)) = true := by decide +kernel
theorem ixLitF {x : Str} {f : Nat → Nat} {len : Nat} (hx : (decide (x.length = len) && (List.range len).all fun n => x.cps.toList[n]? == some (f n)) = true) (hl : len ≤ 1000) {i : Int} (h0 : 0 ≤ i) (h1 : i < len) : ixD κ (.d (.str x)) (.d (.int i)) = some (.d (.str ⟨#[f i.toNat]⟩)) := by
  rw [Bool.and_eq_true] at hx
  have e1 := of_decide_eq_true hx.1
  have e2 := List.all_eq_true.mp hx.2 i.toNat (List.mem_range.mpr (by omega))
  have e2 := eq_of_beq e2
  show (if x.length ≤ 16000000 then (atI x.cps.toList i).map fun c => DV.d (.str ⟨#[c]⟩) else none) = _
  rw [if_pos (by omega)]
  have e3 : x.cps.toList.length = len := e1
  unfold atI ixN
  rw [if_pos h0, if_pos (by omega)]
  show ((x.cps.toList[i.toNat]?).map fun c => DV.d (.str ⟨#[c]⟩)) = _
  rw [e2]
  rfl
theorem ix25 {i : Int} (h0 : 0 ≤ i) (h1 : i < 25) : ixD κ (.d (.str "abcdefghijklmnoprstuvwxyz")) (.d (.int i)) = some (.d (.str (chAt i.toNat))) := ixLitF lets25 (by decide) h0 h1
theorem chAt_ok {i : Nat} (h : i < 25) : (chAt i).length = 1 ∧ (chAt i).cps.toList.all wordC = true := by
  refine ⟨rfl, ?_⟩
  have key : ((List.range 25).all fun i => (chAt i).cps.toList.all wordC) = true := by decide +kernel
  exact List.all_eq_true.mp key i (List.mem_range.mpr h)
def nm2 (p : Str) (v : Int) : Str := p ++ chAt (v / 25).toNat ++ chAt (v % 25).toNat
theorem nm2_ok {p : Str} {v : Int} (lp : p.length ≤ 6) (ap : p.cps.toList.all wordC = true) (h0 : 0 ≤ v) (h1 : v < 625) : nmOk (nm2 p v) := by
  have k1 := chAt_ok (show (v / 25).toNat < 25 by omega)
  have k2 := chAt_ok (show (v % 25).toNat < 25 by omega)
  unfold nm2
  exact ⟨by rw [strLen_append, strLen_append]; omega, lall_app (lall_app ap k1.2) k2.2⟩
theorem nm2_inj {p : Str} {v w : Int} (v0 : 0 ≤ v) (v1 : v < 625) (w0 : 0 ≤ w) (w1 : w < 625) (h : nm2 p v = nm2 p w) : v = w := by
  have e : (p.cps ++ #[chN (v / 25).toNat] ++ #[chN (v % 25).toNat]).toList = (p.cps ++ #[chN (w / 25).toNat] ++ #[chN (w % 25).toNat]).toList := congrArg (fun s : Str => s.cps.toList) h
  simp only [Array.toList_append, List.append_assoc, List.append_cancel_left_eq, List.cons_append, List.nil_append, List.cons.injEq, and_true] at e
  obtain ⟨e1, e2⟩ := e
  unfold chN at e1 e2
  split at e1 <;> split at e1 <;> split at e2 <;> split at e2 <;> omega
def upD (p ch : Str) : PyData → PyData
  | .int i => .str (p ++ repS ch (i + 1).toNat)
  | d => d
theorem names3_w (hj : j < κ.length) (hk : KOk κ) (hb : Bb b) (hc : 0 ≤ c ∧ c + 10 ≤ 2 ^ 40)
    (h : ∀ (x y z : Str) (a' c' : Int), N3 x y z → Q (.n [.str x, .str y, .str z]) (κ.set j (bx a' b c'))) :
    wO (m__law_names [.c j, .d (.int 3)] (κ.set j (bx a b c))) Q := by
  have la : ("abcdefghijklmnoprstuvwxyz" : Str).length = 25 := by decide +kernel
  have lA : ("abcdefghijklmnoprstuvwxyz" : Str).cps.toList.all wordC = true := by decide +kernel
  unfold m__law_names
  walk_at "w"
  refine take_w hj hk hb (by decide) (by decide) (by omega) fun r1 a1 c1 l1 u1 k1 => ?_
  walk_at "w"
  refine take_w hj hk hb (by decide) (by decide) (by omega) fun r2 a2 c2 l2 u2 k2 => ?_
  walk_at "w"
  rw [wSplit (by decide +kernel), split14]
  walk_at "w"
  have l14 : (List.map PyData.str words14).length = 14 := rfl
  have ret : ∀ (x y z : Str) (a' c' : Int), N3 x y z → wO (fin κ.length (OutS.rt (.n [.str x, .str y, .str z]) (κ.set j (bx a' b c')))) Q := fun x y z a' c' h1 => by
    rw [finN0 hk.set (by simp)]; exact h x y z a' c' h1
  split
  · refine ⟨by rw [l14]; decide, by decide, ?_⟩
    obtain ⟨x, y, z, e, n⟩ := way0 (Int.emod_nonneg r1 (show (14 : Int) ≠ 0 by decide)) (Int.emod_lt_of_pos r1 (show (0 : Int) < 14 by decide))
    rw [e]
    exact ret x y z _ _ n
  refine take_w hj hk hb (by decide) (by decide) (by omega) fun r3 a3 c3 l3 u3 k3 => ?_
  refine wIxS (by rw [la]; decide) l3 (by rw [la]; exact u3) fun s0 ms => ?_
  obtain ⟨q1, q2⟩ := chr_a (n := 0) lA ms
  refine take_w hj hk hb (by decide) (by decide) (by omega) fun r4 a4 c4 l4 u4 k4 => ?_
  walk_at "w"
  refine ⟨⟨by omega, by omega, by rw [q1]; omega⟩, ?_⟩
  have sl : (repS ⟨#[s0]⟩ r4.toNat).length ≤ 6 := by rw [len_rep, q1]; omega
  have sa := lall_rep r4.toNat q2
  generalize repS ⟨#[s0]⟩ r4.toNat = stem at sl sa
  have m25 := Int.emod_nonneg r1 (show (25 : Int) ≠ 0 by decide)
  have n25 := Int.emod_lt_of_pos r1 (show (0 : Int) < 25 by decide)
  by_cases g : (r2 == 1) = true
  · rw [if_pos g, if_pos (show decide ((3 : Int) < 7) = true from rfl)]
    refine ⟨by decide, ?_⟩
    obtain ⟨l1', a1'⟩ := chAt_ok (show (r1 % 25).toNat < 25 by omega)
    have lc : (cutS stem none (some 1)).length ≤ 1 := cutS_len (by decide)
    refine lcPure (F := upD (cutS stem none (some 1)) (chAt (r1 % 25).toNat)) (fun d md => ?_) (by rw [rngD_len, List.length_nil]; decide) ?_
    · obtain ⟨i, rfl, i0, i1⟩ := rng_mem md
      refine ⟨_, rfl, fun q hq => ?_⟩
      walk_at "w"
      rw [ix25 m25 n25]
      walk_at "w"
      have hi : (i + 1).toNat ≤ 6 := by omega
      have lr : (repS (chAt (r1 % 25).toNat) (i + 1).toNat).length ≤ 6 := by rw [len_rep, l1']; omega
      refine ⟨by omega, by decide, ⟨by omega, by omega, by rw [l1']; omega⟩, by omega, hq⟩
    · have e : ([] : List PyData) ++ (rngD 0 (3 - 0 : Int).toNat).map (upD (cutS stem none (some 1)) (chAt (r1 % 25).toNat)) = [.str (cutS stem none (some 1) ++ repS (chAt (r1 % 25).toNat) 1), .str (cutS stem none (some 1) ++ repS (chAt (r1 % 25).toNat) 2), .str (cutS stem none (some 1) ++ repS (chAt (r1 % 25).toNat) 3)] := rfl
      refine (congrArg (fun l => wO (fin κ.length (OutS.rt (DV.n l) (κ.set j (bx a4 b c4)))) Q) e).mpr ?_
      have lr : ∀ n, (repS (chAt (r1 % 25).toNat) n).length = n := fun n => by rw [len_rep, l1', Nat.mul_one]
      have ok : ∀ n, n ≤ 6 → nmOk (cutS stem none (some 1) ++ repS (chAt (r1 % 25).toNat) n) := fun n hn => ⟨by rw [strLen_append, lr]; omega, lall_app (lall_cut sa) (lall_rep _ a1')⟩
      have ne : ∀ n m, n ≠ m → cutS stem none (some 1) ++ repS (chAt (r1 % 25).toNat) n ≠ cutS stem none (some 1) ++ repS (chAt (r1 % 25).toNat) m := fun n m hnm e => by
        have := congrArg Str.length e
        rw [strLen_append, strLen_append, lr, lr] at this
        omega
      exact ret _ _ _ _ _ ⟨ok 1 (by decide), ok 2 (by decide), ok 3 (by decide), ne 1 2 (by decide), ne 2 3 (by decide), ne 1 3 (by decide)⟩
  · rw [if_neg g]
    refine take_w hj hk hb (by decide) (by decide) (by omega) fun r5 a5 c5 l5 u5 k5 => ?_
    refine wIxN l5 u5 fun m hm => ?_
    obtain ⟨m, rfl, m0, m1⟩ : ∃ i : Int, m = .int i ∧ (0 ≤ i ∧ i ≤ 251) ∧ (i = 1 ∨ i = 26 ∨ i = 7 ∨ i = 251) := by
      simp only [List.mem_cons, List.not_mem_nil, or_false] at hm
      rcases hm with rfl | rfl | rfl | rfl <;> exact ⟨_, rfl, by omega, by omega⟩
    simp only [fz_d, List.length_set]
    have lc : (cutS stem none (some 6)).length ≤ 6 := cutS_len (by decide)
    have la6 := lall_cut (lo := none) (hi := some 6) sa
    refine ⟨by decide, wForI (fun r ρ κ1 => ∃ (i : Nat) (x7 x10 x11 : Option DV), i ≤ 3 ∧ r = ([.int 0, .int 1, .int 2] : List PyData).drop i ∧ ρ = [some (.c j), some (.d (.int 3)), some (.d (.str "abcdefghijklmnoprstuvwxyz")), some (.d (.int r1)), some (.d (.int r2)), some (.d (.list (List.map PyData.str words14))), some (.d (.str stem)), x7, some (.d (.int m)), some (.c κ.length), x10, x11] ∧ κ1 = (κ ++ [cl ((List.range i).map fun k : Nat => .str (nm2 (cutS stem none (some 6)) ((r1 + m * (k : Nat)) % 625)))]).set j (bx a5 b c5)) _ _ _ ?_ ?_ ?_⟩
    · exact ⟨0, _, _, _, by decide, rfl, rfl, set_app hj _⟩
    · rintro ρ κ1 ⟨i, x7, x10, x11, i3, hr, rfl, rfl⟩
      have i3 : i = 3 := by
        match i, i3, hr with
        | 0, _, hr => cases hr
        | 1, _, hr => cases hr
        | 2, _, hr => cases hr
        | 3, _, _ => rfl
      subst i3
      walk_at "w"
      rw [finL hj hk]
      have v0 : ∀ k : Int, 0 ≤ (r1 + m * k) % 625 := fun k => Int.emod_nonneg _ (by decide)
      have v1 : ∀ k : Int, (r1 + m * k) % 625 < 625 := fun k => Int.emod_lt_of_pos _ (by decide)
      have ok : ∀ k : Int, nmOk (nm2 (cutS stem none (some 6)) ((r1 + m * k) % 625)) := fun k => nm2_ok lc la6 (v0 k) (v1 k)
      refine h (nm2 (cutS stem none (some 6)) ((r1 + m * (0 : Nat)) % 625)) (nm2 (cutS stem none (some 6)) ((r1 + m * (1 : Nat)) % 625)) (nm2 (cutS stem none (some 6)) ((r1 + m * (2 : Nat)) % 625)) _ _ ⟨ok _, ok _, ok _, fun e => ?_, fun e => ?_, fun e => ?_⟩
      all_goals
        have e := nm2_inj (v0 _) (v1 _) (v0 _) (v1 _) e
        rcases m1 with rfl | rfl | rfl | rfl <;> omega
    · rintro d r ρ κ1 ⟨i, x7, x10, x11, i3, hr, rfl, rfl⟩
      obtain ⟨rfl, rfl, i3⟩ : d = .int (i : Nat) ∧ r = ([.int 0, .int 1, .int 2] : List PyData).drop (i + 1) ∧ i < 3 := by
        match i, i3, hr with
        | 0, _, hr => cases hr; exact ⟨rfl, rfl, by decide⟩
        | 1, _, hr => cases hr; exact ⟨rfl, rfl, by decide⟩
        | 2, _, hr => cases hr; exact ⟨rfl, rfl, by decide⟩
        | 3, _, hr => cases hr
      walk_at "w"
      have f1 := Int.emod_nonneg (r1 + m * (i : Nat)) (show (625 : Int) ≠ 0 by decide)
      have f2 := Int.emod_lt_of_pos (r1 + m * (i : Nat)) (show (0 : Int) < 625 by decide)
      generalize hv : (r1 + m * (i : Nat)) % 625 = v at *
      have hm : 0 ≤ m * (i : Nat) ∧ m * (i : Nat) ≤ 1000 := by
        rcases m1 with rfl | rfl | rfl | rfl <;> omega
      refine ⟨.inl (by omega), by decide, by decide, ?_⟩
      simp only [get_last hj]
      refine ⟨by omega, ?_⟩
      rw [ix25 (by omega) (by omega)]
      walk_at "w"
      obtain ⟨k1, k1'⟩ := chAt_ok (show (v / 25).toNat < 25 by omega)
      obtain ⟨k2, k2'⟩ := chAt_ok (show (v % 25).toNat < 25 by omega)
      refine ⟨by omega, ?_⟩
      rw [ix25 (by omega) (by omega)]
      walk_at "w"
      refine ⟨by rw [strLen_append]; omega, ?_⟩
      simp only [get_last hj, app_w (show ((List.range i).map fun k : Nat => PyData.str (nm2 (cutS stem none (some 6)) ((r1 + m * (k : Nat)) % 625))).length < 1000000 by simp; omega)]
      refine ⟨i + 1, _, _, _, i3, rfl, rfl, ?_⟩
      rw [set_last hj, List.range_succ]
      subst hv
      simp only [cl, List.map_append, List.map_cons, List.map_nil, nm2]
end

end Law

namespace Law
open DL L2 PyProof.Rows PySem PySem.Spec
local macro_rules | `(tactic| walk_at "w") => `(tactic| simp only [wDef0, wDef1, wDef2, wDef3, List.replicate, Nat.reduceSub, wSeq, wIf, wTb, wTr, wBin, wUn, wVar, wC, wCal, wCall, wCallK, wNil, wCons, wConsC, wLst, wTup, wNotT, wAndT, wOrT, wAnd, wOr, wNotE, wIfE, wChain, wNext, wSet, wSetC, wRet, wDrop, wAsg, wPar, wFor, wLc, wYes, wSl, wNoP, wPt, wRng1, wSrcA, wSrcS, wIsI, wIsI2, wCm, wMs, wRev, wPar3, wPar3k, wZipA, wZipLL, Option.bind_some, wDivm, wDget, wPNil, wPCons, wDisp, wDin, wDinS, wEqS, wEqB, wEqNS, wIsN, wInC, wOrdC, wInT, wInNT, wNinT, wNinNT, ix0, ix1,
  wOpt, tK_some, bK_some, bK_le, bK_lt, wGtI, wLtI, wLeI, wGeI, wModI, wFdivI, wMulI, wAddI, wSubI, wEqI, wNeI, wSlL, wSlN, wSlT, wSlS, wLenL, wLenT, wLenS, wIntT, wTupleN, wMin2, wAddNN, wAddLN, wAddNL, wAddLL, wAddTT, wAddSS, wMulN, wMulT, wMulS, fz_d, fz_n, fz_c, allD, put, truD, bName, bTup, bCons, bNil, wipeR,
  List.getElem?_cons_zero, List.getElem?_cons_succ, List.set_cons_zero, List.set_cons_succ, List.length_set, List.length_cons, List.length_nil, Option.map_some, Option.map_none, if_true, Bool.false_eq_true, if_false, Bool.not_true, Bool.not_false, List.map_cons, List.map_nil, true_and, and_true, Nat.reduceAdd, Nat.reduceLeDiff])
local macro_rules | `(tactic| walk_at "b") => `(tactic| simp (disch := assumption) only [ixB0, ixB1, ixB2, DL.subB0, DL.subB2, Option.bind_some, wDef0, wDef1, wDef2, wDef3, List.replicate, Nat.reduceSub, wSeq, wIf, wTb, wTr, wBin, wUn, wVar, wC, wCal, wCall, wCallK, wNil, wCons, wConsC, wLst, wTup, wNotT, wAndT, wOrT, wAnd, wOr, wNotE, wIfE, wChain, wNext, wSet, wSetC, wRet, wDrop, wAsg, wPar, wFor, wLc, wYes, wSl, wNoP, wPt, wRng1, wSrcA, wSrcS, wIsI, wIsI2, wCm, wMs, wRev, wPar3, wPar3k, wZipA, wZipLL, Option.bind_some, wDivm, wDget, wPNil, wPCons, wDisp, wDin, wDinS, wEqS, wEqB, wEqNS, wIsN, wInC, wOrdC, wInT, wInNT, wNinT, wNinNT, ix0, ix1,
  wOpt, tK_some, bK_some, bK_le, bK_lt, wGtI, wLtI, wLeI, wGeI, wModI, wFdivI, wMulI, wAddI, wSubI, wEqI, wNeI, wSlL, wSlN, wSlT, wSlS, wLenL, wLenT, wLenS, wIntT, wTupleN, wMin2, wAddNN, wAddLN, wAddNL, wAddLL, wAddTT, wAddSS, wMulN, wMulT, wMulS, fz_d, fz_n, fz_c, allD, put, truD, bName, bTup, bCons, bNil, wipeR,
  List.getElem?_cons_zero, List.getElem?_cons_succ, List.set_cons_zero, List.set_cons_succ, List.length_set, List.length_cons, List.length_nil, Option.map_some, Option.map_none, if_true, Bool.false_eq_true, if_false, Bool.not_true, Bool.not_false, List.map_cons, List.map_nil, true_and, and_true, Nat.reduceAdd, Nat.reduceLeDiff])
local macro_rules | `(tactic| walk_at "t") => `(tactic| (try walk_at "w"))
local macro_rules | `(tactic| walk_at "x") => `(tactic| simp (maxSteps := 4000000) only [wDef0, wDef1, wDef2, wDef3, List.replicate, Nat.reduceSub, wSeq, wIf, wTb, wTr, wBin, wUn, wVar, wC, wCal, wCall, wCallK, wNil, wCons, wConsC, wLst, wTup, wNotT, wAndT, wOrT, wAnd, wOr, wNotE, wIfE, wChain, wNext, wSet, wSetC, wRet, wDrop, wAsg, wPar, wFor, wLc, wYes, wSl, wNoP, wPt, wRng1, wSrcA, wSrcS, wIsI, wIsI2, wCm, wMs, wRev, wPar3, wPar3k, wZipA, wZipLL, Option.bind_some, wDivm, wDget, wPNil, wPCons, wDisp, wDin, wDinS, wEqS, wEqB, wEqNS, wIsN, wInC, wOrdC, wInT, wInNT, wNinT, wNinNT, ix0, ix1,
  wOpt, tK_some, bK_some, bK_le, bK_lt, wGtI, wLtI, wLeI, wGeI, wModI, wFdivI, wMulI, wAddI, wSubI, wEqI, wNeI, wSlL, wSlN, wSlT, wSlS, wLenL, wLenT, wLenS, wIntT, wTupleN, wMin2, wAddNN, wAddLN, wAddNL, wAddLL, wAddTT, wAddSS, wMulN, wMulT, wMulS, fz_d, fz_n, fz_c, allD, put, truD, bName, bTup, bCons, bNil, wipeR,
  List.getElem?_cons_zero, List.getElem?_cons_succ, List.set_cons_zero, List.set_cons_succ, List.length_set, List.length_cons, List.length_nil, Option.map_some, Option.map_none, if_true, Bool.false_eq_true, if_false, Bool.not_true, Bool.not_false, List.map_cons, List.map_nil, true_and, and_true, Nat.reduceAdd, Nat.reduceLeDiff])
section
variable {κ : Kap} {j N : Nat} {a b c : Int} {q Q : DV → Kap → Prop} {d : PyData}
/-! ### tests -/
inductive Ts where
  | frm (x y : Str) | to (x y : Str) | word (w : Str) | abt (t : Str) | lng (n : Int) | auto | no (t : Ts) | both (t u : Ts) | any (t u : Ts)
def tsD : Ts → PyData
  | .frm x y => .tuple [.str "from", .tuple [.str x, .str y]]
  | .to x y => .tuple [.str "to", .tuple [.str x, .str y]]
  | .word w => .tuple [.str "word", .str w]
  | .abt t => .tuple [.str "about", .str t]
  | .lng n => .tuple [.str "longer", .int n]
  | .auto => .tuple [.str "auto"]
  | .no t => .tuple [.str "not", tsD t]
  | .both t u => .tuple [.str "both", tsD t, tsD u]
  | .any t u => .tuple [.str "any", tsD t, tsD u]
def ascL (n : Nat) (x : Str) : Prop := x.length ≤ n ∧ x.cps.toList.all (fun c => decide (c < 128)) = true
def tsOk : Nat → Ts → Prop
  | 0, _ => False
  | _ + 1, .frm x y => ascL 12 x ∧ ascL 12 y
  | _ + 1, .to x y => ascL 12 x ∧ ascL 12 y
  | _ + 1, .word w => ascL 40 w
  | _ + 1, .abt t => ascL 40 t
  | _ + 1, .lng n => 0 ≤ n ∧ n ≤ 9999
  | _ + 1, .auto => True
  | k + 1, .no t => tsOk k t
  | k + 1, .both t u => tsOk k t ∧ tsOk k u
  | k + 1, .any t u => tsOk k t ∧ tsOk k u
def adr (x y : Str) : Str := x ++ ("@" : Str) ++ y
def tot (ws : List (List Int)) : Int := (ws.map fun ns => (ns.length : Int)).sum
def evS (o : PyData) (f : Str → Bool) : Bool := match o with
  | .str v => f v
  | _ => false
def evT (hs : List (Str × Str)) (ws : List (List Int)) : Ts → Bool
  | .frm x y => evS (firstH "from" hs) fun v => v == adr x y
  | .to x y => evS (firstH "to" hs) fun v => (Txt.split v (" " : Str)).any (· == adr x y)
  | .word w => (sortedL (allW hs ws)).any (· == w)
  | .abt t => evS (firstH "about" hs) fun v => subT t v
  | .lng n => decide (n < tot ws)
  | .auto => evS (firstH "auto" hs) fun _ => true
  | .no t => !evT hs ws t
  | .both t u => evT hs ws t && evT hs ws u
  | .any t u => evT hs ws t || evT hs ws u
/-! ### operations -/
theorem wInN {x : Str} {xs : List Str} : wO (opt κ (inD κ (.d (.str x)) (.n (xs.map .str)))) q = q (.d (.bool (xs.any (· == x)))) κ := by
  have : inD κ (.d (.str x)) (.n (xs.map .str)) = some (.d (.bool (xs.any (· == x)))) := by
    unfold inD inDV
    dsimp only
    show (match some (xs.map PyData.str) with
      | some ys => if flatD (.str x) = true ∧ ys.all flatD = true then some (ys.any fun y => PyData.eqv y (.str x)) else none
      | none => none).map _ = _
    dsimp only
    rw [if_pos ⟨rfl, flat_strL xs⟩, show (xs.map PyData.str).any (fun y => PyData.eqv y (.str x)) = xs.any (· == x) from any_strL xs x]; rfl
  rw [this]; exact propext Iff.rfl
theorem wInLs {x : Str} {xs : List Str} : wO (opt κ (inD κ (.d (.str x)) (.d (.list (xs.map .str))))) q = q (.d (.bool (xs.any (· == x)))) κ := by
  have : inD κ (.d (.str x)) (.d (.list (xs.map .str))) = some (.d (.bool (xs.any (· == x)))) := by
    unfold inD inDV
    dsimp only
    show (match some (xs.map PyData.str) with
      | some ys => if flatD (.str x) = true ∧ ys.all flatD = true then some (ys.any fun y => PyData.eqv y (.str x)) else none
      | none => none).map _ = _
    dsimp only
    rw [if_pos ⟨rfl, flat_strL xs⟩, show (xs.map PyData.str).any (fun y => PyData.eqv y (.str x)) = xs.any (· == x) from any_strL xs x]; rfl
  rw [this]; exact propext Iff.rfl
theorem wSubT {x y : Str} : wO (opt κ (inTD κ (.d (.str x)) (.d (.str y)))) q = q (.d (.bool (subT x y))) κ := propext Iff.rfl
theorem ints_map : ∀ ns : List Int, intsD (ns.map .int) = some ns
  | [] => rfl
  | n :: r => by rw [List.map_cons, intsD, ints_map r]; rfl
theorem sum_w {ns : List Int} : wO (opt κ (lstD sumF κ [.d (.list (ns.map .int))])) q = q (.d (.int ns.sum)) κ := by
  have : lstD sumF κ [.d (.list (ns.map .int))] = some (.d (.int ns.sum)) := by
    show ((sumF (ns.map .int)).map DV.d) = _
    unfold sumF
    rw [ints_map]; rfl
  rw [this]; exact propext Iff.rfl
def lenP : PyData → PyData
  | .tuple ds => .int ds.length
  | d => d
theorem lens_map (ws : List (List Int)) : (ws.map ntup).map lenP = (ws.map fun ns => (ns.length : Int)).map .int := by
  rw [List.map_map, List.map_map]
  refine List.map_congr_left fun ns _ => ?_
  show PyData.int ((ns.map PyData.int).length : Int) = _
  rw [List.length_map]; rfl
theorem adr_w (hk : KOk κ) {x y : Str} (lx : x.length ≤ 100) (ly : y.length ≤ 100) (h : q (.d (.str (adr x y))) κ) : wO (m_address_text [.d (.tuple [.str x, .str y])] κ) q := by
  unfold m_address_text
  have l1 : ("@" : Str).length = 1 := by decide +kernel
  walk_at "w"
  refine ⟨by omega, by rw [strLen_append]; omega, ?_⟩
  exact (finD0 (q := q) hk rfl).mpr h
variable {hs : List (Str × Str)} {bd : PyData} {ws : List (List Int)}
theorem test_from_w (hk : KOk κ) {x y : Str} (lx : x.length ≤ 100) (ly : y.length ≤ 100) (h : q (.d (.bool (evT hs ws (.frm x y)))) κ) : wO (m_test_from [.d (.tuple [.str x, .str y]), .d (letD hs bd)] κ) q := by
  unfold m_test_from
  walk_at "w"
  refine head_of_w hk ?_
  refine adr_w hk lx ly ?_
  have fin : ∀ x : PyData, q (.d x) κ → wO (fin κ.length (OutS.rt (.d x) κ)) q := fun x g => (finD0 (q := q) hk rfl).mpr g
  unfold evT evS at h
  rcases first_str "from" hs with e | ⟨p, mp, e⟩ <;> rw [e] at h ⊢
  · rw [wEqNS]; exact fin _ h
  · rw [wEqS]; exact fin _ h
theorem test_to_w (hk : KOk κ) (L : Let hs bd ws) {x y : Str} (lx : x.length ≤ 100) (ly : y.length ≤ 100) (h : q (.d (.bool (evT hs ws (.to x y)))) κ) : wO (m_test_to [.d (.tuple [.str x, .str y]), .d (letD hs bd)] κ) q := by
  unfold m_test_to
  walk_at "w"
  refine head_of_w hk ?_
  rw [fz_d]
  walk_at "t"
  rw [wIsnN]
  have fin : ∀ x : PyData, q (.d x) κ → wO (fin κ.length (OutS.rt (.d x) κ)) q := fun x g => (finD0 (q := q) hk rfl).mpr g
  unfold evT evS at h
  rcases first_str "to" hs with e | ⟨p, mp, e⟩ <;> rw [e] at h ⊢
  · walk_at "w"
    exact fin _ h
  · have lp := (L.h.2 p mp).1.2
    walk_at "w"
    rw [show isNone (.str p.2) = false from rfl]
    walk_at "w"
    refine adr_w hk lx ly ?_
    rw [wSplit ⟨by decide +kernel, by omega⟩, wInN]
    exact fin _ h
theorem test_about_w (hk : KOk κ) {t : Str} (h : q (.d (.bool (evT hs ws (.abt t)))) κ) : wO (m_test_about [.d (.str t), .d (letD hs bd)] κ) q := by
  unfold m_test_about
  walk_at "w"
  refine head_of_w hk ?_
  rw [fz_d]
  walk_at "t"
  rw [wIsnN]
  have fin : ∀ x : PyData, q (.d x) κ → wO (fin κ.length (OutS.rt (.d x) κ)) q := fun x g => (finD0 (q := q) hk rfl).mpr g
  unfold evT evS at h
  rcases first_str "about" hs with e | ⟨p, mp, e⟩ <;> rw [e] at h ⊢
  · walk_at "w"
    exact fin _ h
  · walk_at "w"
    rw [show isNone (.str p.2) = false from rfl]
    walk_at "w"
    rw [wSubT]
    exact fin _ h
theorem test_word_w (hk : KOk κ) (L : Let hs bd ws) {w : Str} (h : q (.d (.bool (evT hs ws (.word w)))) κ) : wO (m_test_word [.d (.str w), .d (letD hs bd)] κ) q := by
  unfold m_test_word
  walk_at "w"
  refine words_of_w hk L L.gd L.tup ?_
  rw [wInN]
  exact (finD0 (q := q) hk rfl).mpr h
theorem test_longer_w (hk : KOk κ) (L : Let hs bd ws) {n : Int} (h : q (.d (.bool (evT hs ws (.lng n)))) κ) : wO (m_test_longer [.d (.int n), .d (letD hs bd)] κ) q := by
  unfold m_test_longer
  walk_at "w"
  refine letter_writings_w hk (k := 3) (by decide) L.b ?_
  dsimp only
  refine lcPure (F := lenP) (fun d md => ?_) (by rw [List.length_nil, List.length_map]; have := (isBd_len 3 L.b).1; omega) ?_
  · obtain ⟨ns, _, rfl⟩ := List.mem_map.mp md
    refine ⟨_, rfl, fun q g => ?_⟩
    walk_at "w"
    exact g
  · rw [List.nil_append, lens_map, fz_n, sum_w]
    walk_at "w"
    exact (finD0 (q := q) hk rfl).mpr h
end

end Law

namespace Law
open DL L2 PyProof.Rows PySem PySem.Spec
local macro_rules | `(tactic| walk_at "w") => `(tactic| simp only [wDef0, wDef1, wDef2, wDef3, List.replicate, Nat.reduceSub, wSeq, wIf, wTb, wTr, wBin, wUn, wVar, wC, wCal, wCall, wCallK, wNil, wCons, wConsC, wLst, wTup, wNotT, wAndT, wOrT, wAnd, wOr, wNotE, wIfE, wChain, wNext, wSet, wSetC, wRet, wDrop, wAsg, wPar, wFor, wLc, wYes, wSl, wNoP, wPt, wRng1, wSrcA, wSrcS, wIsI, wIsI2, wCm, wMs, wRev, wPar3, wPar3k, wZipA, wZipLL, Option.bind_some, wDivm, wDget, wPNil, wPCons, wDisp, wDin, wDinS, wEqS, wEqB, wEqNS, wIsN, wInC, wOrdC, wInT, wInNT, wNinT, wNinNT, ix0, ix1,
  wOpt, tK_some, bK_some, bK_le, bK_lt, wGtI, wLtI, wLeI, wGeI, wModI, wFdivI, wMulI, wAddI, wSubI, wEqI, wNeI, wSlL, wSlN, wSlT, wSlS, wLenL, wLenT, wLenS, wIntT, wTupleN, wMin2, wAddNN, wAddLN, wAddNL, wAddLL, wAddTT, wAddSS, wMulN, wMulT, wMulS, fz_d, fz_n, fz_c, allD, put, truD, bName, bTup, bCons, bNil, wipeR,
  List.getElem?_cons_zero, List.getElem?_cons_succ, List.set_cons_zero, List.set_cons_succ, List.length_set, List.length_cons, List.length_nil, Option.map_some, Option.map_none, if_true, Bool.false_eq_true, if_false, Bool.not_true, Bool.not_false, List.map_cons, List.map_nil, true_and, and_true, Nat.reduceAdd, Nat.reduceLeDiff])
local macro_rules | `(tactic| walk_at "b") => `(tactic| simp (disch := assumption) only [ixB0, ixB1, ixB2, DL.subB0, DL.subB2, Option.bind_some, wDef0, wDef1, wDef2, wDef3, List.replicate, Nat.reduceSub, wSeq, wIf, wTb, wTr, wBin, wUn, wVar, wC, wCal, wCall, wCallK, wNil, wCons, wConsC, wLst, wTup, wNotT, wAndT, wOrT, wAnd, wOr, wNotE, wIfE, wChain, wNext, wSet, wSetC, wRet, wDrop, wAsg, wPar, wFor, wLc, wYes, wSl, wNoP, wPt, wRng1, wSrcA, wSrcS, wIsI, wIsI2, wCm, wMs, wRev, wPar3, wPar3k, wZipA, wZipLL, Option.bind_some, wDivm, wDget, wPNil, wPCons, wDisp, wDin, wDinS, wEqS, wEqB, wEqNS, wIsN, wInC, wOrdC, wInT, wInNT, wNinT, wNinNT, ix0, ix1,
  wOpt, tK_some, bK_some, bK_le, bK_lt, wGtI, wLtI, wLeI, wGeI, wModI, wFdivI, wMulI, wAddI, wSubI, wEqI, wNeI, wSlL, wSlN, wSlT, wSlS, wLenL, wLenT, wLenS, wIntT, wTupleN, wMin2, wAddNN, wAddLN, wAddNL, wAddLL, wAddTT, wAddSS, wMulN, wMulT, wMulS, fz_d, fz_n, fz_c, allD, put, truD, bName, bTup, bCons, bNil, wipeR,
  List.getElem?_cons_zero, List.getElem?_cons_succ, List.set_cons_zero, List.set_cons_succ, List.length_set, List.length_cons, List.length_nil, Option.map_some, Option.map_none, if_true, Bool.false_eq_true, if_false, Bool.not_true, Bool.not_false, List.map_cons, List.map_nil, true_and, and_true, Nat.reduceAdd, Nat.reduceLeDiff])
local macro_rules | `(tactic| walk_at "t") => `(tactic| (try walk_at "w"))
local macro_rules | `(tactic| walk_at "x") => `(tactic| simp (maxSteps := 4000000) only [wDef0, wDef1, wDef2, wDef3, List.replicate, Nat.reduceSub, wSeq, wIf, wTb, wTr, wBin, wUn, wVar, wC, wCal, wCall, wCallK, wNil, wCons, wConsC, wLst, wTup, wNotT, wAndT, wOrT, wAnd, wOr, wNotE, wIfE, wChain, wNext, wSet, wSetC, wRet, wDrop, wAsg, wPar, wFor, wLc, wYes, wSl, wNoP, wPt, wRng1, wSrcA, wSrcS, wIsI, wIsI2, wCm, wMs, wRev, wPar3, wPar3k, wZipA, wZipLL, Option.bind_some, wDivm, wDget, wPNil, wPCons, wDisp, wDin, wDinS, wEqS, wEqB, wEqNS, wIsN, wInC, wOrdC, wInT, wInNT, wNinT, wNinNT, ix0, ix1,
  wOpt, tK_some, bK_some, bK_le, bK_lt, wGtI, wLtI, wLeI, wGeI, wModI, wFdivI, wMulI, wAddI, wSubI, wEqI, wNeI, wSlL, wSlN, wSlT, wSlS, wLenL, wLenT, wLenS, wIntT, wTupleN, wMin2, wAddNN, wAddLN, wAddNL, wAddLL, wAddTT, wAddSS, wMulN, wMulT, wMulS, fz_d, fz_n, fz_c, allD, put, truD, bName, bTup, bCons, bNil, wipeR,
  List.getElem?_cons_zero, List.getElem?_cons_succ, List.set_cons_zero, List.set_cons_succ, List.length_set, List.length_cons, List.length_nil, Option.map_some, Option.map_none, if_true, Bool.false_eq_true, if_false, Bool.not_true, Bool.not_false, List.map_cons, List.map_nil, true_and, and_true, Nat.reduceAdd, Nat.reduceLeDiff])
section
variable {κ : Kap} {j N : Nat} {a b c : Int} {q Q : DV → Kap → Prop} {d : PyData} {hs : List (Str × Str)} {bd : PyData} {ws : List (List Int)} {f0 c0 a0 : Addr}
theorem ascL.up {n m : Nat} {x : Str} (h : ascL n x) (l : n ≤ m) : x.length ≤ m := Nat.le_trans h.1 l
/-- a leaf -/
def tsLeaf : Ts → Bool
  | .no _ => false
  | .both _ _ => false
  | .any _ _ => false
  | _ => true
theorem holds_plain_w (hk : KOk κ) (L : Let hs bd ws) {k : Nat} {t : Ts} (ok : tsOk (k + 1) t) (lf : tsLeaf t = true) (h : q (.d (.bool (evT hs ws t))) κ) : wO (m_holds_plain [.d (tsD t), .d (letD hs bd)] κ) q := by
  have fin : ∀ x : PyData, q (.d x) κ → wO (fin κ.length (OutS.rt (.d x) κ)) q := fun x g => (finD0 (q := q) hk rfl).mpr g
  have ix1' : ∀ {κ : Kap} {x y : PyData}, ixD κ (.d (.tuple [x, y])) (.d (.int 1)) = some (.d y) := fun {_ _ _} => rfl
  unfold m_holds_plain
  walk_at "w"
  have b1 : (("from" : Str) == ("auto" : Str)) = false := by decide +kernel
  have b2 : (("to" : Str) == ("auto" : Str)) = false := by decide +kernel
  have b3 : (("word" : Str) == ("auto" : Str)) = false := by decide +kernel
  have b4 : (("about" : Str) == ("auto" : Str)) = false := by decide +kernel
  have b5 : (("longer" : Str) == ("auto" : Str)) = false := by decide +kernel
  cases t with
  | no _ => cases lf
  | both _ _ => cases lf
  | any _ _ => cases lf
  | auto =>
    simp only [tsD, ixT0]
    walk_at "w"
    simp only [beq_self_eq_true]
    walk_at "w"
    refine head_of_w hk ?_
    rw [wIsnN]
    unfold evT evS at h
    rcases first_str "auto" hs with e | ⟨p, mp, e⟩ <;> rw [e] at h ⊢ <;> exact fin _ h
  | frm x y =>
    simp only [tsD, ixT0]
    walk_at "w"
    simp only [b1]
    walk_at "w"
    rw [dgetHit]
    dsimp only
    rw [wCallV rfl tblHit]
    walk_at "w"
    refine test_from_w (ws := ws) hk (ok.1.up (by decide)) (ok.2.up (by decide)) ?_
    exact fin _ h
  | to x y =>
    simp only [tsD, ixT0]
    walk_at "w"
    simp only [b2]
    walk_at "w"
    rw [dgetMiss (by decide +kernel), dgetHit]
    dsimp only
    rw [wCallV rfl ((tblMiss (by decide +kernel)).trans tblHit)]
    walk_at "w"
    refine test_to_w hk L (ok.1.up (by decide)) (ok.2.up (by decide)) ?_
    exact fin _ h
  | word w =>
    simp only [tsD, ixT0]
    walk_at "w"
    simp only [b3]
    walk_at "w"
    rw [dgetMiss (by decide +kernel), dgetMiss (by decide +kernel), dgetHit]
    dsimp only
    rw [wCallV rfl ((tblMiss (by decide +kernel)).trans ((tblMiss (by decide +kernel)).trans tblHit))]
    walk_at "w"
    refine test_word_w hk L ?_
    exact fin _ h
  | abt t =>
    simp only [tsD, ixT0]
    walk_at "w"
    simp only [b4]
    walk_at "w"
    rw [dgetMiss (by decide +kernel), dgetMiss (by decide +kernel), dgetMiss (by decide +kernel), dgetHit]
    dsimp only
    rw [wCallV rfl ((tblMiss (by decide +kernel)).trans ((tblMiss (by decide +kernel)).trans ((tblMiss (by decide +kernel)).trans tblHit)))]
    walk_at "w"
    refine test_about_w (ws := ws) hk ?_
    exact fin _ h
  | lng n =>
    simp only [tsD, ixT0]
    walk_at "w"
    simp only [b5]
    walk_at "w"
    rw [dgetMiss (by decide +kernel), dgetMiss (by decide +kernel), dgetMiss (by decide +kernel), dgetMiss (by decide +kernel), dgetHit]
    dsimp only
    rw [wCallV rfl ((tblMiss (by decide +kernel)).trans ((tblMiss (by decide +kernel)).trans ((tblMiss (by decide +kernel)).trans ((tblMiss (by decide +kernel)).trans tblHit))))]
    walk_at "w"
    refine test_longer_w hk L ?_
    exact fin _ h
/-! ### the calculus of closures, stars -/
theorem wStar1 {w : PyData} {r : List PyData} {ρ : Rho} {i j : Nat} (h : r.length ≤ 1000) : bStar 1 (bCons (bName i) (bCons (bName j) bNil)) (.d (.tuple (w :: r))) ρ κ = some ((ρ.set i (some (.d w))).set j (some (.d (.list r))), κ) := by
  unfold bStar
  dsimp only
  rw [if_pos ⟨by rw [List.length_cons]; omega, by rw [List.length_cons]; omega⟩]
  rfl
theorem wCallClo {i n : Nat} {z : Str} {dd : PyData} {mb : ME} {ma : MA} {ρ : Rho} (e : ρ[i]? = some (some (.d (cloD f0 c0 a0 z dd)))) : wO (mCallClo i f0 c0 a0 z n mb ma ρ κ) q = wO (ma ρ κ) fun xs κ1 => match xs with
    | [x] => wO (mb (some x :: some (.d dd) :: List.replicate n none) κ1) q
    | _ => False := by
  unfold mCallClo
  rw [e]
  dsimp only
  rw [if_pos ⟨rfl, rfl, rfl, rfl⟩]
  simp only [wO_bind]
  congr 1; funext xs κ1
  rcases xs with _ | ⟨x, _ | ⟨y, r⟩⟩ <;> rfl
theorem wCallLam {M : Addr → Addr → Addr → MF} {z : Str} {i : Nat} {me : ME} {ρ : Rho} (h : wO (me ρ κ) fun x κ1 => ∃ d b, ρ[i]? = some (some (.d d)) ∧ isRef d = true ∧ (∀ f c a : Addr, wO (M f c a [fz x, .d (cloD f c a z d)] κ1) fun y κ2 => y = .d b ∧ κ2 = κ1) ∧ q (.d b) κ1) : wO (mCallLam M z i me ρ κ) q := by
  unfold mCallLam
  rw [wO_bind]
  refine h.mono fun x κ1 ⟨d, b, e, hr, hm, g⟩ => ?_
  rw [e]
  dsimp only
  rw [if_pos hr]
  have hm' : ∀ f c a : Addr, M f c a [fz x, .d (cloD f c a z d)] κ1 = .ok (.d b) κ1 := fun f c a => by
    obtain ⟨y, κ2, e1, e2, e3⟩ := wO_of (hm f c a)
    rw [e1, e2, e3]
  rw [lamRes_of hm']
  exact g
theorem all2 {x y : Bool} : lstD allF κ [.d (.list [.bool x, .bool y])] = some (.d (.bool (x && y))) := by cases x <;> cases y <;> rfl
theorem any2B {x y : Bool} : lstD anyF κ [.d (.list [.bool x, .bool y])] = some (.d (.bool (x || y))) := by cases x <;> cases y <;> rfl
abbrev lmQ : Str := "holds.<locals>.<lambda>"
theorem holds_by_f : ∀ (n k : Nat) {κ : Kap} {q : DV → Kap → Prop} {t : Ts}, KOk κ → Let hs bd ws → tsOk k t → k ≤ n → q (.d (.bool (evT hs ws t))) κ → wO (r_holds_by f0 c0 a0 n [.d (tsD t), .d (cloD f0 c0 a0 lmQ (letD hs bd))] κ) q
  | 0, k, _, _, _, _, _, ok, hn, _ => by
    obtain rfl : k = 0 := Nat.le_zero.mp hn
    exact (show False from ok).elim
  | n + 1, 0, _, _, _, _, _, ok, _, _ => (show False from ok).elim
  | n + 1, k + 1, κ, q, t, hk, L, ok, hn, h => by
    have fin : ∀ x : PyData, q (.d x) κ → wO (fin κ.length (OutS.rt (.d x) κ)) q := fun x g => (finD0 (q := q) hk rfl).mpr g
    show wO (f_holds_by f0 c0 a0 (r_holds_by f0 c0 a0 n) [.d (tsD t), .d (cloD f0 c0 a0 lmQ (letD hs bd))] κ) q
    unfold f_holds_by
    have leaf : ∀ (w : Str) (r : List PyData), tsLeaf t = true → tsD t = .tuple (.str w :: r) → r.length ≤ 1000 → (w == ("not" : Str)) = false → [("both" : Str), "any"].any (· == w) = false → wO (mDef 2 6 (mSeq (mAsg (bStar 1 (bCons (bName 2) (bCons (bName 3) bNil))) (mVar 0)) (mSeq (mIf (mTb (mBin eqD (mVar 2) (mC (.str "not")))) (mRet (mNot (mCall (r_holds_by f0 c0 a0 n) (mCons (mBin ixD (mVar 3) (mC (.int 0))) (mCons (mVar 1) mNil))))) mNext) (mSeq (mIf (mTb (mBin inD (mVar 2) (mTup (mCons (mC (.str "both")) (mCons (mC (.str "any")) mNil))))) (mSeq (mSet 4 (mLc (mSrcA (mVar 3)) (bName 5) mYes (mCall (r_holds_by f0 c0 a0 n) (mCons (mVar 5) (mCons (mVar 1) mNil))) [5])) (mRet (mIfE (mTb (mBin eqD (mVar 2) (mC (.str "both")))) (mCal (lstD allF) (mCons (mVar 4) mNil)) (mCal (lstD anyF) (mCons (mVar 4) mNil))))) mNext) (mRet (mCallClo 1 f0 c0 a0 lmQ 0 mb_holds (mCons (mVar 0) mNil)))))) [.d (tsD t), .d (cloD f0 c0 a0 lmQ (letD hs bd))] κ) q := fun w r lf e lr w1 w2 => by
      walk_at "w"
      rw [e, wStar1 lr]
      dsimp only
      walk_at "w"
      simp only [w1]
      walk_at "w"
      simp only [show [PyData.str "both", PyData.str "any"] = strL [("both" : Str), "any"] from rfl, wInT, w2]
      walk_at "t"
      rw [wCallClo rfl]
      walk_at "w"
      unfold mb_holds
      walk_at "w"
      rw [← e]
      refine holds_plain_w hk L ok lf ?_
      exact fin _ h
    have two : ∀ (t u : Ts) (x0 x2 x3 : Option DV) (Q' : DV → Kap → Prop), tsOk k t → tsOk k u → Q' (.n [.bool (evT hs ws t), .bool (evT hs ws u)]) κ → wO (lcGo (bName 5) mYes (mCall (r_holds_by f0 c0 a0 n) (mCons (mVar 5) (mCons (mVar 1) mNil))) (x0 :: some (DV.d (cloD f0 c0 a0 lmQ (letD hs bd))) :: x2 :: x3 :: [none, none]) [tsD t, tsD u] [] κ) Q' := fun t u x0 x2 x3 Q' ot ou g => by
      rw [wLcCons]
      walk_at "w"
      refine holds_by_f n k hk L ot (by omega) ?_
      simp only [fz_d]
      refine ⟨by decide, ?_⟩
      rw [wLcCons]
      walk_at "w"
      refine holds_by_f n k hk L ou (by omega) ?_
      simp only [fz_d]
      exact ⟨by show (1 : Nat) < 1000000; decide, g⟩
    cases t with
    | no t =>
      walk_at "w"
      simp only [tsD]
      rw [wStar1 (by show (1 : Nat) ≤ 1000; decide)]
      dsimp only
      walk_at "w"
      simp only [beq_self_eq_true]
      walk_at "w"
      rw [show ∀ κ : Kap, ixD κ (.d (.list [tsD t])) (.d (.int 0)) = some (.d (tsD t)) from fun _ => rfl]
      walk_at "w"
      refine holds_by_f n k hk L ok (by omega) ?_
      walk_at "w"
      exact fin _ h
    | both t u =>
      walk_at "w"
      simp only [tsD]
      rw [wStar1 (by show (2 : Nat) ≤ 1000; decide)]
      dsimp only
      walk_at "w"
      simp only [show (("both" : Str) == ("not" : Str)) = false by decide +kernel]
      walk_at "w"
      simp only [show [PyData.str "both", PyData.str "any"] = strL [("both" : Str), "any"] from rfl, wInT, show [("both" : Str), "any"].any (· == ("both" : Str)) = true by decide +kernel]
      walk_at "t"
      refine two t u _ _ _ _ ok.1 ok.2 ?_
      simp only [beq_self_eq_true]
      walk_at "t"
      try simp only [fz_d]
      rw [all2]
      walk_at "t"
      exact fin _ h
    | any t u =>
      walk_at "w"
      simp only [tsD]
      rw [wStar1 (by show (2 : Nat) ≤ 1000; decide)]
      dsimp only
      walk_at "w"
      simp only [show (("any" : Str) == ("not" : Str)) = false by decide +kernel]
      walk_at "w"
      simp only [show [PyData.str "both", PyData.str "any"] = strL [("both" : Str), "any"] from rfl, wInT, show [("both" : Str), "any"].any (· == ("any" : Str)) = true by decide +kernel]
      walk_at "t"
      refine two t u _ _ _ _ ok.1 ok.2 ?_
      simp only [show (("any" : Str) == ("both" : Str)) = false by decide +kernel]
      walk_at "t"
      try simp only [fz_d]
      rw [any2B]
      walk_at "t"
      exact fin _ h
    | auto => exact leaf "auto" [] rfl rfl (by show (0 : Nat) ≤ 1000; decide) (by decide +kernel) (by decide +kernel)
    | frm x y => exact leaf "from" _ rfl rfl (by show (1 : Nat) ≤ 1000; decide) (by decide +kernel) (by decide +kernel)
    | to x y => exact leaf "to" _ rfl rfl (by show (1 : Nat) ≤ 1000; decide) (by decide +kernel) (by decide +kernel)
    | word w => exact leaf "word" _ rfl rfl (by show (1 : Nat) ≤ 1000; decide) (by decide +kernel) (by decide +kernel)
    | abt w => exact leaf "about" _ rfl rfl (by show (1 : Nat) ≤ 1000; decide) (by decide +kernel) (by decide +kernel)
    | lng w => exact leaf "longer" _ rfl rfl (by show (1 : Nat) ≤ 1000; decide) (by decide +kernel) (by decide +kernel)
end

end Law

namespace Law
open DL L2 PyProof.Rows PySem PySem.Spec
local macro_rules | `(tactic| walk_at "w") => `(tactic| simp only [wDef0, wDef1, wDef2, wDef3, List.replicate, Nat.reduceSub, wSeq, wIf, wTb, wTr, wBin, wUn, wVar, wC, wCal, wCall, wCallK, wNil, wCons, wConsC, wLst, wTup, wNotT, wAndT, wOrT, wAnd, wOr, wNotE, wIfE, wChain, wNext, wSet, wSetC, wRet, wDrop, wAsg, wPar, wFor, wLc, wYes, wSl, wNoP, wPt, wRng1, wSrcA, wSrcS, wIsI, wIsI2, wCm, wMs, wRev, wPar3, wPar3k, wZipA, wZipLL, Option.bind_some, wDivm, wDget, wPNil, wPCons, wDisp, wDin, wDinS, wEqS, wEqB, wEqNS, wIsN, wInC, wOrdC, wInT, wInNT, wNinT, wNinNT, ix0, ix1,
  wOpt, tK_some, bK_some, bK_le, bK_lt, wGtI, wLtI, wLeI, wGeI, wModI, wFdivI, wMulI, wAddI, wSubI, wEqI, wNeI, wSlL, wSlN, wSlT, wSlS, wLenL, wLenT, wLenS, wIntT, wTupleN, wMin2, wAddNN, wAddLN, wAddNL, wAddLL, wAddTT, wAddSS, wMulN, wMulT, wMulS, fz_d, fz_n, fz_c, allD, put, truD, bName, bTup, bCons, bNil, wipeR,
  List.getElem?_cons_zero, List.getElem?_cons_succ, List.set_cons_zero, List.set_cons_succ, List.length_set, List.length_cons, List.length_nil, Option.map_some, Option.map_none, if_true, Bool.false_eq_true, if_false, Bool.not_true, Bool.not_false, List.map_cons, List.map_nil, true_and, and_true, Nat.reduceAdd, Nat.reduceLeDiff])
local macro_rules | `(tactic| walk_at "b") => `(tactic| simp (disch := assumption) only [ixB0, ixB1, ixB2, DL.subB0, DL.subB2, Option.bind_some, wDef0, wDef1, wDef2, wDef3, List.replicate, Nat.reduceSub, wSeq, wIf, wTb, wTr, wBin, wUn, wVar, wC, wCal, wCall, wCallK, wNil, wCons, wConsC, wLst, wTup, wNotT, wAndT, wOrT, wAnd, wOr, wNotE, wIfE, wChain, wNext, wSet, wSetC, wRet, wDrop, wAsg, wPar, wFor, wLc, wYes, wSl, wNoP, wPt, wRng1, wSrcA, wSrcS, wIsI, wIsI2, wCm, wMs, wRev, wPar3, wPar3k, wZipA, wZipLL, Option.bind_some, wDivm, wDget, wPNil, wPCons, wDisp, wDin, wDinS, wEqS, wEqB, wEqNS, wIsN, wInC, wOrdC, wInT, wInNT, wNinT, wNinNT, ix0, ix1,
  wOpt, tK_some, bK_some, bK_le, bK_lt, wGtI, wLtI, wLeI, wGeI, wModI, wFdivI, wMulI, wAddI, wSubI, wEqI, wNeI, wSlL, wSlN, wSlT, wSlS, wLenL, wLenT, wLenS, wIntT, wTupleN, wMin2, wAddNN, wAddLN, wAddNL, wAddLL, wAddTT, wAddSS, wMulN, wMulT, wMulS, fz_d, fz_n, fz_c, allD, put, truD, bName, bTup, bCons, bNil, wipeR,
  List.getElem?_cons_zero, List.getElem?_cons_succ, List.set_cons_zero, List.set_cons_succ, List.length_set, List.length_cons, List.length_nil, Option.map_some, Option.map_none, if_true, Bool.false_eq_true, if_false, Bool.not_true, Bool.not_false, List.map_cons, List.map_nil, true_and, and_true, Nat.reduceAdd, Nat.reduceLeDiff])
local macro_rules | `(tactic| walk_at "t") => `(tactic| (try walk_at "w"))
local macro_rules | `(tactic| walk_at "x") => `(tactic| simp (maxSteps := 4000000) only [wDef0, wDef1, wDef2, wDef3, List.replicate, Nat.reduceSub, wSeq, wIf, wTb, wTr, wBin, wUn, wVar, wC, wCal, wCall, wCallK, wNil, wCons, wConsC, wLst, wTup, wNotT, wAndT, wOrT, wAnd, wOr, wNotE, wIfE, wChain, wNext, wSet, wSetC, wRet, wDrop, wAsg, wPar, wFor, wLc, wYes, wSl, wNoP, wPt, wRng1, wSrcA, wSrcS, wIsI, wIsI2, wCm, wMs, wRev, wPar3, wPar3k, wZipA, wZipLL, Option.bind_some, wDivm, wDget, wPNil, wPCons, wDisp, wDin, wDinS, wEqS, wEqB, wEqNS, wIsN, wInC, wOrdC, wInT, wInNT, wNinT, wNinNT, ix0, ix1,
  wOpt, tK_some, bK_some, bK_le, bK_lt, wGtI, wLtI, wLeI, wGeI, wModI, wFdivI, wMulI, wAddI, wSubI, wEqI, wNeI, wSlL, wSlN, wSlT, wSlS, wLenL, wLenT, wLenS, wIntT, wTupleN, wMin2, wAddNN, wAddLN, wAddNL, wAddLL, wAddTT, wAddSS, wMulN, wMulT, wMulS, fz_d, fz_n, fz_c, allD, put, truD, bName, bTup, bCons, bNil, wipeR,
  List.getElem?_cons_zero, List.getElem?_cons_succ, List.set_cons_zero, List.set_cons_succ, List.length_set, List.length_cons, List.length_nil, Option.map_some, Option.map_none, if_true, Bool.false_eq_true, if_false, Bool.not_true, Bool.not_false, List.map_cons, List.map_nil, true_and, and_true, Nat.reduceAdd, Nat.reduceLeDiff])
section
variable {κ : Kap} {j N : Nat} {a b c : Int} {q Q : DV → Kap → Prop} {d : PyData} {hs : List (Str × Str)} {bd : PyData} {ws : List (List Int)} {f0 c0 a0 : Addr}
theorem tup_ts : ∀ t : Ts, tupF (tsD t) = tsD t
  | .frm x y => by simp only [tsD, tupF, tupFs]
  | .to x y => by simp only [tsD, tupF, tupFs]
  | .word w => by simp only [tsD, tupF, tupFs]
  | .abt t => by simp only [tsD, tupF, tupFs]
  | .lng n => by simp only [tsD, tupF, tupFs]
  | .auto => by simp only [tsD, tupF, tupFs]
  | .no t => by simp only [tsD, tupF, tupFs, tup_ts t]
  | .both t u => by simp only [tsD, tupF, tupFs, tup_ts t, tup_ts u]
  | .any t u => by simp only [tsD, tupF, tupFs, tup_ts t, tup_ts u]
def tsW : Nat → Nat
  | 0 => 0
  | k + 1 => 100 + 2 * tsW k
theorem gd_ts : ∀ (k : Nat) {t : Ts}, tsOk k t → Gd 65536 (tsW k) (k + 1) (tsD t)
  | 0, _, h => (show False from h).elim
  | k + 1, t, h => by
    have gs : ∀ (n : Nat) {x : Str}, ascL n x → Gd 65536 n 0 (.str x) := fun n x h => gd_str h.1 h.2
    have w5 : ∀ x : Str, (decide (x.length ≤ 6) && x.cps.toList.all (fun c => decide (c < 128))) = true → Gd 65536 6 0 (.str x) := fun x h => gs 6 ⟨of_decide_eq_true (Bool.and_eq_true _ _ ▸ h).1, (Bool.and_eq_true _ _ ▸ h).2⟩
    have tri : ∀ {x y z : PyData} {W D : Nat}, Gd 65536 6 0 x → Gd 65536 W D y → Gd 65536 W D z → Gd 65536 (2 * W + 9) (D + 1) (.tuple [x, y, z]) := fun {x y z W D} hx hy hz => by
      refine ⟨?_, ?_, ?_⟩
      · simp [gd, gdAll, hx.g, hy.g, hz.g]
      · have := hx.w; have := hy.w; have := hz.w
        simp only [PyData.bulk, PyData.bulkAll]; omega
      · have := hx.p; have := hy.p; have := hz.p
        simp only [PyData.depth, PyData.depthAll]; omega
    cases t with
    | frm x y => exact (Gd.pair (w5 "from" (by decide +kernel)) (Gd.pair (gs 12 h.1) (gs 12 h.2))).up (by rw [tsW]; omega) (by omega)
    | to x y => exact (Gd.pair (w5 "to" (by decide +kernel)) (Gd.pair (gs 12 h.1) (gs 12 h.2))).up (by rw [tsW]; omega) (by omega)
    | word w => exact (Gd.pair (w5 "word" (by decide +kernel)) (gs 40 h)).up (by rw [tsW]; omega) (by omega)
    | abt t => exact (Gd.pair (w5 "about" (by decide +kernel)) (gs 40 h)).up (by rw [tsW]; omega) (by omega)
    | lng n =>
      have g : Gd 65536 0 0 (.int n) := ⟨by rw [gd]; exact decide_eq_true (by have := h.1; have := h.2; omega), Nat.le_refl _, Nat.le_refl _⟩
      exact (Gd.pair (w5 "longer" (by decide +kernel)) g).up (by rw [tsW]; omega) (by omega)
    | auto => exact ⟨by decide +kernel, by rw [tsW]; show (5 : Nat) ≤ _; omega, by show (1 : Nat) ≤ _; omega⟩
    | no t => exact (Gd.pair (w5 "not" (by decide +kernel)) (gd_ts k h)).up (by rw [tsW]; omega) (by omega)
    | both t u => exact (tri (w5 "both" (by decide +kernel)) (gd_ts k h.1) (gd_ts k h.2)).up (by rw [tsW]; omega) (by omega)
    | any t u => exact (tri (w5 "any" (by decide +kernel)) (gd_ts k h.1) (gd_ts k h.2)).up (by rw [tsW]; omega) (by omega)
theorem holds_w (hk : KOk κ) (L : Let hs bd ws) {t : Ts} {k : Nat} (ok : tsOk k t) (k4 : k ≤ 5) {x y : PyData} (gx : Gd 65536 200000 9 x) (tx : tupF x = tsD t) (gy : Gd 65536 200000 9 y) (ty : tupF y = letD hs bd)
    (h : q (.d (.bool (evT hs ws t))) κ) : wO (m_holds [.d x, .d y] κ) q := by
  unfold m_holds m_as_tuples
  walk_at "w"
  refine as_tuples_f 12 hk gy.g (Nat.le_trans gy.w (by decide)) (Nat.lt_of_le_of_lt gy.p (by decide)) ?_
  rw [ty, fz_d]
  walk_at "t"
  refine wCallLam ?_
  walk_at "w"
  refine as_tuples_f 12 hk gx.g (Nat.le_trans gx.w (by decide)) (Nat.lt_of_le_of_lt gx.p (by decide)) ?_
  rw [tx]
  refine ⟨letD hs bd, .bool (evT hs ws t), rfl, rfl, fun f c a => ?_, ?_⟩
  · unfold m_holds_by
    exact holds_by_f 12 k hk L ok (by omega) ⟨rfl, rfl⟩
  · exact (finD0 (q := q) hk rfl).mpr h
/-! ### the law's own look -/
end

end Law

namespace Law
open DL L2 PyProof.Rows PySem PySem.Spec
local macro_rules | `(tactic| walk_at "w") => `(tactic| simp only [wDef0, wDef1, wDef2, wDef3, List.replicate, Nat.reduceSub, wSeq, wIf, wTb, wTr, wBin, wUn, wVar, wC, wCal, wCall, wCallK, wNil, wCons, wConsC, wLst, wTup, wNotT, wAndT, wOrT, wAnd, wOr, wNotE, wIfE, wChain, wNext, wSet, wSetC, wRet, wDrop, wAsg, wPar, wFor, wLc, wYes, wSl, wNoP, wPt, wRng1, wSrcA, wSrcS, wIsI, wIsI2, wCm, wMs, wRev, wPar3, wPar3k, wZipA, wZipLL, Option.bind_some, wDivm, wDget, wPNil, wPCons, wDisp, wDin, wDinS, wEqS, wEqB, wEqNS, wIsN, wInC, wOrdC, wInT, wInNT, wNinT, wNinNT, ix0, ix1,
  wOpt, tK_some, bK_some, bK_le, bK_lt, wGtI, wLtI, wLeI, wGeI, wModI, wFdivI, wMulI, wAddI, wSubI, wEqI, wNeI, wSlL, wSlN, wSlT, wSlS, wLenL, wLenT, wLenS, wIntT, wTupleN, wMin2, wAddNN, wAddLN, wAddNL, wAddLL, wAddTT, wAddSS, wMulN, wMulT, wMulS, fz_d, fz_n, fz_c, allD, put, truD, bName, bTup, bCons, bNil, wipeR,
  List.getElem?_cons_zero, List.getElem?_cons_succ, List.set_cons_zero, List.set_cons_succ, List.length_set, List.length_cons, List.length_nil, Option.map_some, Option.map_none, if_true, Bool.false_eq_true, if_false, Bool.not_true, Bool.not_false, List.map_cons, List.map_nil, true_and, and_true, Nat.reduceAdd, Nat.reduceLeDiff])
local macro_rules | `(tactic| walk_at "b") => `(tactic| simp (disch := assumption) only [ixB0, ixB1, ixB2, DL.subB0, DL.subB2, Option.bind_some, wDef0, wDef1, wDef2, wDef3, List.replicate, Nat.reduceSub, wSeq, wIf, wTb, wTr, wBin, wUn, wVar, wC, wCal, wCall, wCallK, wNil, wCons, wConsC, wLst, wTup, wNotT, wAndT, wOrT, wAnd, wOr, wNotE, wIfE, wChain, wNext, wSet, wSetC, wRet, wDrop, wAsg, wPar, wFor, wLc, wYes, wSl, wNoP, wPt, wRng1, wSrcA, wSrcS, wIsI, wIsI2, wCm, wMs, wRev, wPar3, wPar3k, wZipA, wZipLL, Option.bind_some, wDivm, wDget, wPNil, wPCons, wDisp, wDin, wDinS, wEqS, wEqB, wEqNS, wIsN, wInC, wOrdC, wInT, wInNT, wNinT, wNinNT, ix0, ix1,
  wOpt, tK_some, bK_some, bK_le, bK_lt, wGtI, wLtI, wLeI, wGeI, wModI, wFdivI, wMulI, wAddI, wSubI, wEqI, wNeI, wSlL, wSlN, wSlT, wSlS, wLenL, wLenT, wLenS, wIntT, wTupleN, wMin2, wAddNN, wAddLN, wAddNL, wAddLL, wAddTT, wAddSS, wMulN, wMulT, wMulS, fz_d, fz_n, fz_c, allD, put, truD, bName, bTup, bCons, bNil, wipeR,
  List.getElem?_cons_zero, List.getElem?_cons_succ, List.set_cons_zero, List.set_cons_succ, List.length_set, List.length_cons, List.length_nil, Option.map_some, Option.map_none, if_true, Bool.false_eq_true, if_false, Bool.not_true, Bool.not_false, List.map_cons, List.map_nil, true_and, and_true, Nat.reduceAdd, Nat.reduceLeDiff])
local macro_rules | `(tactic| walk_at "t") => `(tactic| (try walk_at "w"))
local macro_rules | `(tactic| walk_at "x") => `(tactic| simp (maxSteps := 4000000) only [wDef0, wDef1, wDef2, wDef3, List.replicate, Nat.reduceSub, wSeq, wIf, wTb, wTr, wBin, wUn, wVar, wC, wCal, wCall, wCallK, wNil, wCons, wConsC, wLst, wTup, wNotT, wAndT, wOrT, wAnd, wOr, wNotE, wIfE, wChain, wNext, wSet, wSetC, wRet, wDrop, wAsg, wPar, wFor, wLc, wYes, wSl, wNoP, wPt, wRng1, wSrcA, wSrcS, wIsI, wIsI2, wCm, wMs, wRev, wPar3, wPar3k, wZipA, wZipLL, Option.bind_some, wDivm, wDget, wPNil, wPCons, wDisp, wDin, wDinS, wEqS, wEqB, wEqNS, wIsN, wInC, wOrdC, wInT, wInNT, wNinT, wNinNT, ix0, ix1,
  wOpt, tK_some, bK_some, bK_le, bK_lt, wGtI, wLtI, wLeI, wGeI, wModI, wFdivI, wMulI, wAddI, wSubI, wEqI, wNeI, wSlL, wSlN, wSlT, wSlS, wLenL, wLenT, wLenS, wIntT, wTupleN, wMin2, wAddNN, wAddLN, wAddNL, wAddLL, wAddTT, wAddSS, wMulN, wMulT, wMulS, fz_d, fz_n, fz_c, allD, put, truD, bName, bTup, bCons, bNil, wipeR,
  List.getElem?_cons_zero, List.getElem?_cons_succ, List.set_cons_zero, List.set_cons_succ, List.length_set, List.length_cons, List.length_nil, Option.map_some, Option.map_none, if_true, Bool.false_eq_true, if_false, Bool.not_true, Bool.not_false, List.map_cons, List.map_nil, true_and, and_true, Nat.reduceAdd, Nat.reduceLeDiff])
section
variable {κ : Kap} {j N : Nat} {a b c : Int} {q Q : DV → Kap → Prop} {d : PyData} {hs : List (Str × Str)} {bd : PyData} {ws : List (List Int)}
/-! ### deeds, rules -/
inductive Dd where
  | file (n : Str) | mark (n : Str) | on (x y : Str) | ans (t : Str) | drop | stop
def ddD : Dd → PyData
  | .file n => .tuple [.str "file", .str n]
  | .mark n => .tuple [.str "mark", .str n]
  | .on x y => .tuple [.str "on", .tuple [.str x, .str y]]
  | .ans t => .tuple [.str "answer", .str t]
  | .drop => .tuple [.str "drop"]
  | .stop => .tuple [.str "stop"]
abbrev Rl := Ts × List Dd
def rlD (r : Rl) : PyData := .tuple [tsD r.1, .tuple (r.2.map ddD)]
def rsD (rs : List Rl) : PyData := .tuple (rs.map rlD)
def ddOk : Dd → Prop
  | .file n => ascL 60 n
  | .mark n => ascL 60 n
  | .on x y => ascL 60 x ∧ ascL 60 y
  | .ans t => ascL 60 t
  | .drop => True
  | .stop => True
def rsOk (rs : List Rl) : Prop := rs.length ≤ 4 ∧ ∀ r ∈ rs, tsOk 3 r.1 ∧ r.2.length ≤ 4 ∧ ∀ d ∈ r.2, ddOk d
def isStop : Dd → Bool
  | .stop => true
  | _ => false
def upTo : List Dd → List Dd × Bool
  | [] => ([], false)
  | d :: r => if isStop d = true then ([], true) else (d :: (upTo r).1, (upTo r).2)
theorem upTo_len : ∀ ds : List Dd, (upTo ds).1.length ≤ ds.length
  | [] => Nat.le_refl _
  | d :: r => by
    rw [upTo]
    split
    · exact Nat.zero_le _
    · show (upTo r).1.length + 1 ≤ r.length + 1
      have := upTo_len r
      omega
theorem upTo_mem : ∀ (ds : List Dd) {d : Dd}, d ∈ (upTo ds).1 → d ∈ ds
  | [], _, m => m
  | e :: r, d, m => by
    rw [upTo] at m
    split at m
    · cases m
    · rcases List.mem_cons.mp m with rfl | m
      · exact List.mem_cons_self
      · exact List.mem_cons_of_mem _ (upTo_mem r m)
abbrev Dl := Nat × Dd
def pr1 (k : Nat) (ds : List Dd) : List Dl := ds.map fun d => (k, d)
def due (hs : List (Str × Str)) (ws : List (List Int)) : Nat → List Rl → List Dl
  | _, [] => []
  | k, r :: rs => if evT hs ws r.1 = true then pr1 k (upTo r.2).1 ++ (if (upTo r.2).2 = true then [] else due hs ws (k + 1) rs) else due hs ws (k + 1) rs
def dlD (p : Dl) : PyData := .tuple [.int (p.1 : Nat), ddD p.2]
def dueD (xs : List Dl) : List PyData := xs.map dlD
theorem due_len : ∀ (rs : List Rl) (k : Nat), (∀ r ∈ rs, r.2.length ≤ 4) → (due hs ws k rs).length ≤ 4 * rs.length
  | [], _, _ => Nat.zero_le _
  | r :: rs, k, h => by
    have ih := due_len rs (k + 1) fun x m => h x (List.mem_cons_of_mem _ m)
    have h1 := h r List.mem_cons_self
    have h2 := upTo_len r.2
    rw [due]
    split
    · rw [List.length_append]
      have : (pr1 k (upTo r.2).1).length = (upTo r.2).1.length := by unfold pr1; rw [List.length_map]
      split
      · rw [List.length_nil, List.length_cons]; omega
      · rw [List.length_cons]; omega
    · rw [List.length_cons]; omega
theorem due_ok : ∀ (rs : List Rl) (k : Nat), (∀ r ∈ rs, ∀ d ∈ r.2, ddOk d) → ∀ p ∈ due hs ws k rs, ddOk p.2 ∧ p.1 < k + rs.length
  | [], _, _, _, m => nomatch m
  | r :: rs, k, h, p, m => by
    have ih := due_ok rs (k + 1) fun x mx => h x (List.mem_cons_of_mem _ mx)
    rw [due] at m
    have tl : p ∈ due hs ws (k + 1) rs → ddOk p.2 ∧ p.1 < k + (r :: rs).length := fun m => by
      obtain ⟨h1, h2⟩ := ih p m
      exact ⟨h1, by rw [List.length_cons]; omega⟩
    split at m
    · rcases List.mem_append.mp m with m | m
      · unfold pr1 at m
        obtain ⟨d, md, rfl⟩ := List.mem_map.mp m
        exact ⟨h r List.mem_cons_self d (upTo_mem r.2 md), by rw [List.length_cons]; show k < _; omega⟩
      · split at m
        · cases m
        · exact tl m
    · exact tl m
theorem dd_head (d : Dd) : ∃ (w : Str) (r : List PyData), ddD d = .tuple (.str w :: r) ∧ (w == ("stop" : Str)) = isStop d := by
  have f : (("file" : Str) == ("stop" : Str)) = false := by decide +kernel
  have m : (("mark" : Str) == ("stop" : Str)) = false := by decide +kernel
  have o : (("on" : Str) == ("stop" : Str)) = false := by decide +kernel
  have a : (("answer" : Str) == ("stop" : Str)) = false := by decide +kernel
  cases d with
  | file n => exact ⟨_, _, rfl, f⟩
  | mark n => exact ⟨_, _, rfl, m⟩
  | on x y => exact ⟨_, _, rfl, o⟩
  | ans t => exact ⟨_, _, rfl, a⟩
  | drop => exact ⟨_, _, rfl, by decide +kernel⟩
  | stop => exact ⟨_, _, rfl, by decide +kernel⟩
/-! ### enumerate -/
theorem wEnumA {ma : MA} {ρ : Rho} {qi : List PyData → Kap → Prop} : wO (mEnumA ma ρ κ) qi = wO (ma ρ κ) fun xs κ1 => match xs with
    | [.d (.list ds)] => qi (enumD 0 ds) κ1
    | [.d (.tuple ds)] => qi (enumD 0 ds) κ1
    | _ => False := by
  unfold mEnumA; simp only [wO_bind]; congr 1; funext x κ1
  rcases x with _ | ⟨x, _ | ⟨y, r⟩⟩
  · rfl
  · cases x with
    | d y => cases y <;> rfl
    | c i => rfl
    | n xs => rfl
  · cases x with
    | d y => cases y <;> rfl
    | c i => rfl
    | n xs => rfl
/-! ### what is due -/
def dueS : MS := mSeq (mIf (mTb (mBin eqD (mBin ixD (mVar 6) (mC (.int 0))) (mC (.str "stop")))) (mRet (mVar 2)) (mNext)) (mDrop (mCm appF (mVar 2) (mCons (mTup (mCons (mVar 3) (mCons (mVar 6) (mNil)))) (mNil))))
theorem due_in {k : Nat} : ∀ (ds : List Dd) (acc : List Dl) (x0 x1 x4 x5 x6 : Option DV) (Z : Po), acc.length + ds.length ≤ 1000 → ((upTo ds).2 = false → ∀ x6, Z.nx [x0, x1, some (.c κ.length), some (.d (.int k)), x4, x5, x6] (κ ++ [cl (dueD (acc ++ pr1 k (upTo ds).1))])) →
    ((upTo ds).2 = true → Z.rt (.c κ.length) (κ ++ [cl (dueD (acc ++ pr1 k (upTo ds).1))])) → wP (forGo (bName 6) dueS (ds.map ddD) [x0, x1, some (.c κ.length), some (.d (.int k)), x4, x5, x6] (κ ++ [cl (dueD acc)])) Z
  | [], acc, x0, x1, x4, x5, x6, Z, _, h1, h2 => by
    rw [List.map_nil, wForNil]
    have := h1 rfl x6
    rw [show pr1 k (upTo []).1 = [] from rfl, List.append_nil] at this
    exact this
  | d :: r, acc, x0, x1, x4, x5, x6, Z, hl, h1, h2 => by
    rw [List.length_cons] at hl
    obtain ⟨w, t, e, es⟩ := dd_head d
    rw [List.map_cons, wForCons]
    simp only [bName]
    unfold dueS
    walk_at "w"
    rw [e]
    simp only [ixT0]
    walk_at "t"
    rw [es]
    rw [upTo] at h1 h2
    cases s : isStop d with
    | true =>
      rw [s, if_pos rfl] at h1 h2
      rw [if_pos rfl]
      have := h2 rfl
      rw [show pr1 k (([] : List Dd), true).1 = [] from rfl, List.append_nil] at this
      exact this
    | false =>
      rw [s, if_neg Bool.false_ne_true] at h1 h2
      rw [if_neg Bool.false_ne_true]
      walk_at "t"
      simp only [get_app]
      have ln : (dueD acc).length = acc.length := by unfold dueD; rw [List.length_map]
      rw [app_w (by rw [ln]; omega)]
      dsimp only
      rw [set_app1]
      have e2 : (dueD acc ++ [PyData.tuple [.int k, .tuple (.str w :: t)]]) = dueD (acc ++ [(k, d)]) := by
        unfold dueD
        rw [List.map_append]
        show _ = _ ++ [dlD (k, d)]
        unfold dlD
        rw [e]
      rw [e2]
      refine due_in r (acc ++ [(k, d)]) _ _ _ _ _ _ (by rw [List.length_append, List.length_singleton]; omega) (fun z x6 => ?_) (fun z => ?_)
      · have := h1 z x6
        rw [List.append_assoc]
        exact this
      · have := h2 z
        rw [List.append_assoc]
        exact this
noncomputable def dueO : MS := mIf (mTr (mCall m_holds (mCons (mVar 4) (mCons (mVar 1) (mNil))))) (mFor (mSrcA (mVar 5)) (bName 6) dueS) (mNext)
theorem tsOk_up : ∀ (k : Nat) {t : Ts}, tsOk k t → tsOk (k + 1) t
  | 0, _, h => (show False from h).elim
  | k + 1, t, h => by
    cases t with
    | no t => exact tsOk_up k (t := t) h
    | both t u => exact ⟨tsOk_up k (t := t) h.1, tsOk_up k (t := u) h.2⟩
    | any t u => exact ⟨tsOk_up k (t := t) h.1, tsOk_up k (t := u) h.2⟩
    | _ => exact h
theorem gd_ts3 {t : Ts} (h : tsOk 3 t) : Gd 65536 200000 9 (tsD t) := (gd_ts 3 h).up (by decide) (by decide)
theorem due_out (hk : KOk κ) (L : Let hs bd ws) : ∀ (rs : List Rl) (k : Nat) (acc : List Dl) (x0 x3 x4 x5 x6 : Option DV) (Z : Po), (∀ r ∈ rs, tsOk 3 r.1 ∧ r.2.length ≤ 4) → acc.length + 4 * rs.length ≤ 1000 →
    (∀ x3 x4 x5 x6, Z.nx [x0, some (.d (letD hs bd)), some (.c κ.length), x3, x4, x5, x6] (κ ++ [cl (dueD (acc ++ due hs ws k rs))])) → Z.rt (.c κ.length) (κ ++ [cl (dueD (acc ++ due hs ws k rs))]) →
    wP (forGo (bTup 2 (bCons (bName 3) (bCons (bTup 2 (bCons (bName 4) (bCons (bName 5) bNil))) bNil))) dueO (enumD k (rs.map rlD)) [x0, some (.d (letD hs bd)), some (.c κ.length), x3, x4, x5, x6] (κ ++ [cl (dueD acc)])) Z
  | [], k, acc, x0, x3, x4, x5, x6, Z, _, _, h1, _ => by
    rw [List.map_nil, enumD, wForNil]
    have := h1 x3 x4 x5 x6
    rw [due, List.append_nil] at this
    exact this
  | r :: rs, k, acc, x0, x3, x4, x5, x6, Z, ho, hl, h1, h2 => by
    rw [List.length_cons] at hl
    obtain ⟨o1, o2⟩ := ho r List.mem_cons_self
    have or' := fun x m => ho x (List.mem_cons_of_mem _ m)
    rw [List.map_cons, enumD, wForCons]
    have eb : bTup 2 (bCons (bName 3) (bCons (bTup 2 (bCons (bName 4) (bCons (bName 5) bNil))) bNil)) (.d (.tuple [.int (k : Nat), rlD r])) [x0, some (.d (letD hs bd)), some (.c κ.length), x3, x4, x5, x6] (κ ++ [cl (dueD acc)]) = some ([x0, some (.d (letD hs bd)), some (.c κ.length), some (.d (.int (k : Nat))), some (.d (tsD r.1)), some (.d (.tuple (r.2.map ddD))), x6], κ ++ [cl (dueD acc)]) := rfl
    rw [eb]
    dsimp only
    unfold dueO
    rw [due] at h1 h2
    walk_at "w"
    refine holds_w (KOk.appC hk) L o1 (by decide) (gd_ts3 o1) (tup_ts r.1) L.gd L.tup ?_
    walk_at "t"
    have cont : ∀ (xs : List Dl) (x6 : Option DV), xs ++ due hs ws (k + 1) rs = acc ++ (if evT hs ws r.1 = true then pr1 k (upTo r.2).1 ++ (if (upTo r.2).2 = true then [] else due hs ws (k + 1) rs) else due hs ws (k + 1) rs) → xs.length ≤ acc.length + 4 →
        wP (forGo (bTup 2 (bCons (bName 3) (bCons (bTup 2 (bCons (bName 4) (bCons (bName 5) bNil))) bNil))) dueO (enumD (k + 1) (rs.map rlD)) [x0, some (.d (letD hs bd)), some (.c κ.length), some (.d (.int (k : Nat))), some (.d (tsD r.1)), some (.d (.tuple (r.2.map ddD))), x6] (κ ++ [cl (dueD xs)])) Z := fun xs x6 e hx => by
      refine due_out hk L rs (k + 1) xs _ _ _ _ _ Z or' (by omega) (fun y3 y4 y5 y6 => ?_) ?_
      · rw [e]; exact h1 y3 y4 y5 y6
      · rw [e]; exact h2
    unfold dueO at cont
    cases ev : evT hs ws r.1 with
    | false =>
      rw [ev, if_neg Bool.false_ne_true] at cont
      rw [if_neg Bool.false_ne_true]
      exact cont acc _ rfl (by omega)
    | true =>
      rw [ev, if_pos rfl] at h1 h2 cont
      rw [if_pos rfl]
      refine due_in r.2 acc _ _ _ _ _ _ (by omega) (fun z x6' => ?_) (fun z => ?_)
      · rw [z, if_neg Bool.false_ne_true] at cont
        refine cont _ _ (by rw [List.append_assoc]) ?_
        rw [List.length_append]
        unfold pr1
        rw [List.length_map]
        have := upTo_len r.2
        omega
      · rw [z, if_pos rfl, List.append_nil] at h2
        exact h2
theorem deeds_due_w (hk : KOk κ) (L : Let hs bd ws) {rs : List Rl} (ok : rsOk rs) (h : q (.n (dueD (due hs ws 0 rs))) κ) : wO (m_deeds_due [.d (rsD rs), .d (letD hs bd)] κ) q := by
  unfold m_deeds_due
  walk_at "w"
  rw [wEnumA]
  unfold rsD
  walk_at "w"
  have fin : wO (fin κ.length (OutS.rt (.c κ.length) (κ ++ [cl (dueD (due hs ws 0 rs))]))) q := by
    rw [finC (ds := dueD (due hs ws 0 rs)) hk rfl (Nat.le_refl _) (by unfold lv; dsimp only; rw [get_app]; exact allD_map _)]
    exact h
  refine due_out hk L rs 0 [] _ _ _ _ _ _ (fun r m => ⟨(ok.2 r m).1, (ok.2 r m).2.1⟩) (by have := ok.1; simp; omega) (fun x3 x4 x5 x6 => ?_) ?_
  · walk_at "w"
    exact fin
  · exact fin
end

end Law

namespace Law
open DL L2 PyProof.Rows PySem PySem.Spec
local macro_rules | `(tactic| walk_at "w") => `(tactic| simp only [wDef0, wDef1, wDef2, wDef3, List.replicate, Nat.reduceSub, wSeq, wIf, wTb, wTr, wBin, wUn, wVar, wC, wCal, wCall, wCallK, wNil, wCons, wConsC, wLst, wTup, wNotT, wAndT, wOrT, wAnd, wOr, wNotE, wIfE, wChain, wNext, wSet, wSetC, wRet, wDrop, wAsg, wPar, wFor, wLc, wYes, wSl, wNoP, wPt, wRng1, wSrcA, wSrcS, wIsI, wIsI2, wCm, wMs, wRev, wPar3, wPar3k, wZipA, wZipLL, Option.bind_some, wDivm, wDget, wPNil, wPCons, wDisp, wDin, wDinS, wEqS, wEqB, wEqNS, wIsN, wInC, wOrdC, wInT, wInNT, wNinT, wNinNT, ix0, ix1,
  wOpt, tK_some, bK_some, bK_le, bK_lt, wGtI, wLtI, wLeI, wGeI, wModI, wFdivI, wMulI, wAddI, wSubI, wEqI, wNeI, wSlL, wSlN, wSlT, wSlS, wLenL, wLenT, wLenS, wIntT, wTupleN, wMin2, wAddNN, wAddLN, wAddNL, wAddLL, wAddTT, wAddSS, wMulN, wMulT, wMulS, fz_d, fz_n, fz_c, allD, put, truD, bName, bTup, bCons, bNil, wipeR,
  List.getElem?_cons_zero, List.getElem?_cons_succ, List.set_cons_zero, List.set_cons_succ, List.length_set, List.length_cons, List.length_nil, Option.map_some, Option.map_none, if_true, Bool.false_eq_true, if_false, Bool.not_true, Bool.not_false, List.map_cons, List.map_nil, true_and, and_true, Nat.reduceAdd, Nat.reduceLeDiff])
local macro_rules | `(tactic| walk_at "b") => `(tactic| simp (disch := assumption) only [ixB0, ixB1, ixB2, DL.subB0, DL.subB2, Option.bind_some, wDef0, wDef1, wDef2, wDef3, List.replicate, Nat.reduceSub, wSeq, wIf, wTb, wTr, wBin, wUn, wVar, wC, wCal, wCall, wCallK, wNil, wCons, wConsC, wLst, wTup, wNotT, wAndT, wOrT, wAnd, wOr, wNotE, wIfE, wChain, wNext, wSet, wSetC, wRet, wDrop, wAsg, wPar, wFor, wLc, wYes, wSl, wNoP, wPt, wRng1, wSrcA, wSrcS, wIsI, wIsI2, wCm, wMs, wRev, wPar3, wPar3k, wZipA, wZipLL, Option.bind_some, wDivm, wDget, wPNil, wPCons, wDisp, wDin, wDinS, wEqS, wEqB, wEqNS, wIsN, wInC, wOrdC, wInT, wInNT, wNinT, wNinNT, ix0, ix1,
  wOpt, tK_some, bK_some, bK_le, bK_lt, wGtI, wLtI, wLeI, wGeI, wModI, wFdivI, wMulI, wAddI, wSubI, wEqI, wNeI, wSlL, wSlN, wSlT, wSlS, wLenL, wLenT, wLenS, wIntT, wTupleN, wMin2, wAddNN, wAddLN, wAddNL, wAddLL, wAddTT, wAddSS, wMulN, wMulT, wMulS, fz_d, fz_n, fz_c, allD, put, truD, bName, bTup, bCons, bNil, wipeR,
  List.getElem?_cons_zero, List.getElem?_cons_succ, List.set_cons_zero, List.set_cons_succ, List.length_set, List.length_cons, List.length_nil, Option.map_some, Option.map_none, if_true, Bool.false_eq_true, if_false, Bool.not_true, Bool.not_false, List.map_cons, List.map_nil, true_and, and_true, Nat.reduceAdd, Nat.reduceLeDiff])
local macro_rules | `(tactic| walk_at "t") => `(tactic| (try walk_at "w"))
local macro_rules | `(tactic| walk_at "x") => `(tactic| simp (maxSteps := 4000000) only [wDef0, wDef1, wDef2, wDef3, List.replicate, Nat.reduceSub, wSeq, wIf, wTb, wTr, wBin, wUn, wVar, wC, wCal, wCall, wCallK, wNil, wCons, wConsC, wLst, wTup, wNotT, wAndT, wOrT, wAnd, wOr, wNotE, wIfE, wChain, wNext, wSet, wSetC, wRet, wDrop, wAsg, wPar, wFor, wLc, wYes, wSl, wNoP, wPt, wRng1, wSrcA, wSrcS, wIsI, wIsI2, wCm, wMs, wRev, wPar3, wPar3k, wZipA, wZipLL, Option.bind_some, wDivm, wDget, wPNil, wPCons, wDisp, wDin, wDinS, wEqS, wEqB, wEqNS, wIsN, wInC, wOrdC, wInT, wInNT, wNinT, wNinNT, ix0, ix1,
  wOpt, tK_some, bK_some, bK_le, bK_lt, wGtI, wLtI, wLeI, wGeI, wModI, wFdivI, wMulI, wAddI, wSubI, wEqI, wNeI, wSlL, wSlN, wSlT, wSlS, wLenL, wLenT, wLenS, wIntT, wTupleN, wMin2, wAddNN, wAddLN, wAddNL, wAddLL, wAddTT, wAddSS, wMulN, wMulT, wMulS, fz_d, fz_n, fz_c, allD, put, truD, bName, bTup, bCons, bNil, wipeR,
  List.getElem?_cons_zero, List.getElem?_cons_succ, List.set_cons_zero, List.set_cons_succ, List.length_set, List.length_cons, List.length_nil, Option.map_some, Option.map_none, if_true, Bool.false_eq_true, if_false, Bool.not_true, Bool.not_false, List.map_cons, List.map_nil, true_and, and_true, Nat.reduceAdd, Nat.reduceLeDiff])
section
variable {κ : Kap} {j N : Nat} {a b c : Int} {q Q : DV → Kap → Prop} {d : PyData} {hs : List (Str × Str)} {bd : PyData} {ws : List (List Int)}
/-! ### things, each once -/
def isTh : PyData → Prop
  | .str _ => True
  | .tuple [.str _, .str _] => True
  | .tuple [.int _, .str _] => True
  | _ => False
theorem cutD_take {xs : List PyData} {k : Int} (h : 0 ≤ k) : DL.cutD xs none (some k) = xs.take k.toNat := by
  unfold DL.cutD
  rw [HT.sIx_none, List.drop_zero, show HT.sIx xs.length xs.length (some k) = min k.toNat xs.length by
    show (if k < 0 then _ else _) = _
    rw [if_neg (by omega)], Nat.sub_zero]
  by_cases g : k.toNat ≤ xs.length
  · rw [Nat.min_eq_left g]
  · rw [Nat.min_eq_right (by omega), List.take_length, List.take_of_length_le (by omega)]
theorem isTh_cases {x : PyData} (h : isTh x) : (∃ s, x = .str s) ∨ (∃ s t, x = .tuple [.str s, .str t]) ∨ ∃ i t, x = .tuple [.int i, .str t] := by
  unfold isTh at h
  split at h
  · exact .inl ⟨_, rfl⟩
  · exact .inr (.inl ⟨_, _, rfl⟩)
  · exact .inr (.inr ⟨_, _, rfl⟩)
  · exact h.elim
theorem eqv_th {x y : PyData} (hx : isTh x) (hy : isTh y) : PyData.eqv x y = true ↔ x = y := by
  rcases isTh_cases hx with ⟨s, rfl⟩ | ⟨s, t, rfl⟩ | ⟨i, t, rfl⟩ <;> rcases isTh_cases hy with ⟨s', rfl⟩ | ⟨s', t', rfl⟩ | ⟨i', t', rfl⟩ <;> simp [PyData.eqv, PyData.eqvAll]
def onceP : List PyData → List PyData → List PyData
  | _, [] => []
  | pre, x :: r => if (pre.any fun z => PyData.eqv z x) = true then onceP (pre ++ [x]) r else x :: onceP (pre ++ [x]) r
theorem onceP_len : ∀ (r pre : List PyData), (onceP pre r).length ≤ r.length
  | [], _ => Nat.le_refl _
  | x :: r, pre => by
    rw [onceP]
    have := onceP_len r (pre ++ [x])
    split
    · rw [List.length_cons]; omega
    · rw [List.length_cons, List.length_cons]; omega
theorem onceP_mem : ∀ (r pre : List PyData) {x : PyData}, x ∈ onceP pre r → x ∈ r
  | [], _, _, m => m
  | y :: r, pre, x, m => by
    rw [onceP] at m
    split at m
    · exact List.mem_cons_of_mem _ (onceP_mem r _ m)
    · rcases List.mem_cons.mp m with rfl | m
      · exact List.mem_cons_self
      · exact List.mem_cons_of_mem _ (onceP_mem r _ m)
theorem onceP_snoc : ∀ (r pre : List PyData) (x : PyData), onceP pre (r ++ [x]) = onceP pre r ++ (if ((pre ++ r).any fun z => PyData.eqv z x) = true then [] else [x])
  | [], pre, x => by
    rw [List.nil_append, onceP, onceP, onceP, List.append_nil, List.nil_append]
  | y :: r, pre, x => by
    rw [List.cons_append, onceP, onceP, onceP_snoc r (pre ++ [y]) x, List.append_assoc, List.singleton_append]
    split <;> rfl
theorem onceP_any : ∀ (r pre : List PyData) (x : PyData), (∀ z ∈ pre ++ r, isTh z) → isTh x → ((pre ++ onceP pre r).any fun z => PyData.eqv z x) = ((pre ++ r).any fun z => PyData.eqv z x)
  | [], pre, x, _, _ => rfl
  | y :: r, pre, x, h, hx => by
    have ih := onceP_any r (pre ++ [y]) x (by rw [List.append_assoc]; exact h) hx
    rw [List.append_assoc, List.append_assoc, List.singleton_append, List.singleton_append] at ih
    rw [onceP]
    split
    · rename_i e
      rw [← ih]
      simp only [List.any_append, List.any_cons]
      have key : PyData.eqv y x = true → (pre.any fun z => PyData.eqv z x) = true := fun e2 => by
        obtain ⟨z, mz, ez⟩ := List.any_eq_true.mp e
        have h1 := (eqv_th (h z (List.mem_append_left _ mz)) (h y (List.mem_append_right _ List.mem_cons_self))).mp ez
        exact List.any_eq_true.mpr ⟨z, mz, by rw [h1]; exact e2⟩
      cases e3 : PyData.eqv y x with
      | false => rw [Bool.false_or]
      | true => rw [key e3]; simp
    · exact ih
theorem once_nil {r : List PyData} : (onceP [] r = []) ↔ r = [] := by
  cases r with
  | nil => exact ⟨fun _ => rfl, fun _ => rfl⟩
  | cons x r =>
    rw [onceP]
    simp
def thOk (n : Nat) (xs : List PyData) : Prop := xs.length ≤ n ∧ ∀ x ∈ xs, isTh x ∧ Gd 65536 300 1 x
theorem shaped_gd {N W D : Nat} {x : PyData} (h : Gd N W D x) (hD : D ≤ 64) : SeqAt.shaped x = true := by
  unfold SeqAt.shaped
  rw [lay_gd x h.g, decide_eq_true (Nat.le_trans h.p hD)]; rfl
theorem shaped_list {xs : List PyData} (h : ∀ x ∈ xs, Gd 65536 300 1 x) : SeqAt.shaped (.list xs) = true := by
  have g : gd 65536 (.list xs) = true := by rw [gd]; exact gdAll_iff.mpr fun x m => (h x m).g
  unfold SeqAt.shaped
  rw [lay_gd _ g, decide_eq_true (by rw [PyData.depth]; have := depthAll_le (D := 1) fun x m => (h x m).p; omega)]; rfl
theorem nodict {x : PyData} {N W D : Nat} (h : Gd N W D x) : x.hasDict = false := PyData.hasDict_of_canLay x (lay_gd x h.g)
theorem nodictL {xs : List PyData} (h : ∀ x ∈ xs, Gd 65536 300 1 x) : PyData.hasDictAll xs = false := by
  have g : gd 65536 (.list xs) = true := by rw [gd]; exact gdAll_iff.mpr fun x m => (h x m).g
  have := PyData.hasDict_of_canLay _ (lay_gd _ g)
  simpa [PyData.hasDict] using this
theorem wNinDD {x : PyData} {y : DV} {xs : List PyData} (hy : lv κ y = some xs) (hd : ∀ z, y ≠ .d z) (hx : Gd 65536 300 1 x) (hxs : ∀ x ∈ xs, Gd 65536 300 1 x) : wO (opt κ (ninDD κ (.d x) y)) q = q (.d (.bool (!xs.any fun z => PyData.eqv z x))) κ := by
  have d1 : dat κ (.d x) = some x := by
    unfold dat
    dsimp only
    rw [if_pos (nodict hx)]
  have d2 : dat κ y = some (.list xs) := by
    cases y with
    | d z => exact absurd rfl (hd z)
    | c i =>
      unfold dat
      dsimp only
      rw [hy, Option.bind_some, if_pos (nodictL hxs)]
    | n zs =>
      unfold dat
      dsimp only
      rw [hy, Option.bind_some, if_pos (nodictL hxs)]
  have : ninDD κ (.d x) y = some (.d (.bool (!xs.any fun z => PyData.eqv z x))) := by
    unfold ninDD inDeep
    rw [d1, d2]
    dsimp only
    rw [if_pos ⟨shaped_gd hx (by decide), shaped_list hxs⟩]; rfl
  rw [this]; exact propext Iff.rfl
theorem told_once_w (hk : KOk κ) {xs : List PyData} (ok : thOk 1000 xs) (h : q (.d (.tuple (onceP [] xs))) κ) : wO (m_told_once [.d (.list xs)] κ) q := by
  unfold m_told_once
  walk_at "w"
  rw [wEnumA]
  walk_at "w"
  have loop : ∀ (r pre acc : List PyData) (Q' : DV → Kap → Prop), pre ++ r = xs → acc.length ≤ pre.length → Q' (.n (acc ++ onceP pre r)) κ → wO (lcGo (bTup 2 (bCons (bName 1) (bCons (bName 2) bNil))) (mTb (mBin ninDD (mVar 2) (mSl slD (mVar 0) mNoP (mPt (mVar 1))))) (mVar 2) [some (.d (.list xs)), none, none] (enumD pre.length r) acc κ) Q' := by
    intro r
    induction r with
    | nil =>
      intro pre acc Q' _ _ g
      rw [enumD, wLcNil]
      rw [onceP, List.append_nil] at g
      exact g
    | cons x r ih =>
      intro pre acc Q' e la g
      have len := congrArg List.length e
      rw [List.length_append, List.length_cons] at len
      have l1 := ok.1
      rw [enumD, wLcCons]
      have eb : bTup 2 (bCons (bName 1) (bCons (bName 2) bNil)) (.d (.tuple [.int (pre.length : Nat), x])) [some (.d (.list xs)), none, none] κ = some ([some (.d (.list xs)), some (.d (.int (pre.length : Nat))), some (.d x)], κ) := rfl
      rw [eb]
      dsimp only
      walk_at "w"
      have cut : DL.cutD xs none (some (pre.length : Int)) = pre := by
        rw [cutD_take (by omega), ← e, Int.toNat_natCast, List.take_left]
      rw [cut]
      have mx : x ∈ xs := by rw [← e]; exact List.mem_append_right _ List.mem_cons_self
      rw [wNinDD (xs := pre) rfl (by simp) (ok.2 x mx).2 fun z mz => (ok.2 z (by rw [← e]; exact List.mem_append_left _ mz)).2]
      dsimp only
      rw [onceP] at g
      have e' : (pre ++ [x]) ++ r = xs := by rw [List.append_assoc]; exact e
      have ih' := ih (pre ++ [x])
      rw [List.length_append, List.length_singleton] at ih'
      cases s : pre.any fun z => PyData.eqv z x with
      | true =>
        rw [s, if_pos rfl] at g
        rw [Bool.not_true, if_neg Bool.false_ne_true]
        exact ih' acc Q' e' (by omega) g
      | false =>
        rw [s, if_neg Bool.false_ne_true] at g
        rw [Bool.not_false, if_pos rfl]
        refine ⟨by omega, ih' _ Q' e' (by rw [List.length_append, List.length_singleton]; omega) ?_⟩
        rw [List.append_assoc]
        exact g
  refine loop xs [] [] _ rfl (Nat.le_refl _) ?_
  rw [List.nil_append, fz_n, wTupleN]
  exact (finD0 (q := q) hk rfl).mpr h
/-! ### what is told of what is due -/
def dW : PyData → Str
  | .tuple [_, .tuple (.str w :: _)] => w
  | _ => ""
def dV : PyData → PyData
  | .tuple [_, .tuple [_, v]] => v
  | d => d
def dA : PyData → PyData
  | .tuple [k, .tuple [_, v]] => .tuple [k, v]
  | d => d
def bwD (w : Str) (xs : List Dl) : List PyData := ((dueD xs).filter fun d => dW d == w).map dV
def anD (xs : List Dl) : List PyData := ((dueD xs).filter fun d => dW d == ("answer" : Str)).map dA
def anyDrop (xs : List Dl) : Bool := (dueD xs).any fun d => dW d == ("drop" : Str)
def boxD (xs : List Dl) : List PyData := if anyDrop xs = true then [] else if onceP [] (bwD "file" xs) = [] ∧ bwD "on" xs = [] then [.str "in"] else onceP [] (bwD "file" xs)
def judD (xs : List Dl) : PyData := .tuple [.tuple (boxD xs), .tuple (onceP [] (bwD "mark" xs)), .tuple (onceP [] (bwD "on" xs)), .tuple (onceP [] (anD xs))]
end

end Law

namespace Law
open DL L2 PyProof.Rows PySem PySem.Spec
local macro_rules | `(tactic| walk_at "w") => `(tactic| simp only [wDef0, wDef1, wDef2, wDef3, List.replicate, Nat.reduceSub, wSeq, wIf, wTb, wTr, wBin, wUn, wVar, wC, wCal, wCall, wCallK, wNil, wCons, wConsC, wLst, wTup, wNotT, wAndT, wOrT, wAnd, wOr, wNotE, wIfE, wChain, wNext, wSet, wSetC, wRet, wDrop, wAsg, wPar, wFor, wLc, wYes, wSl, wNoP, wPt, wRng1, wSrcA, wSrcS, wIsI, wIsI2, wCm, wMs, wRev, wPar3, wPar3k, wZipA, wZipLL, Option.bind_some, wDivm, wDget, wPNil, wPCons, wDisp, wDin, wDinS, wEqS, wEqB, wEqNS, wIsN, wInC, wOrdC, wInT, wInNT, wNinT, wNinNT, ix0, ix1,
  wOpt, tK_some, bK_some, bK_le, bK_lt, wGtI, wLtI, wLeI, wGeI, wModI, wFdivI, wMulI, wAddI, wSubI, wEqI, wNeI, wSlL, wSlN, wSlT, wSlS, wLenL, wLenT, wLenS, wIntT, wTupleN, wMin2, wAddNN, wAddLN, wAddNL, wAddLL, wAddTT, wAddSS, wMulN, wMulT, wMulS, fz_d, fz_n, fz_c, allD, put, truD, bName, bTup, bCons, bNil, wipeR,
  List.getElem?_cons_zero, List.getElem?_cons_succ, List.set_cons_zero, List.set_cons_succ, List.length_set, List.length_cons, List.length_nil, Option.map_some, Option.map_none, if_true, Bool.false_eq_true, if_false, Bool.not_true, Bool.not_false, List.map_cons, List.map_nil, true_and, and_true, Nat.reduceAdd, Nat.reduceLeDiff])
local macro_rules | `(tactic| walk_at "b") => `(tactic| simp (disch := assumption) only [ixB0, ixB1, ixB2, DL.subB0, DL.subB2, Option.bind_some, wDef0, wDef1, wDef2, wDef3, List.replicate, Nat.reduceSub, wSeq, wIf, wTb, wTr, wBin, wUn, wVar, wC, wCal, wCall, wCallK, wNil, wCons, wConsC, wLst, wTup, wNotT, wAndT, wOrT, wAnd, wOr, wNotE, wIfE, wChain, wNext, wSet, wSetC, wRet, wDrop, wAsg, wPar, wFor, wLc, wYes, wSl, wNoP, wPt, wRng1, wSrcA, wSrcS, wIsI, wIsI2, wCm, wMs, wRev, wPar3, wPar3k, wZipA, wZipLL, Option.bind_some, wDivm, wDget, wPNil, wPCons, wDisp, wDin, wDinS, wEqS, wEqB, wEqNS, wIsN, wInC, wOrdC, wInT, wInNT, wNinT, wNinNT, ix0, ix1,
  wOpt, tK_some, bK_some, bK_le, bK_lt, wGtI, wLtI, wLeI, wGeI, wModI, wFdivI, wMulI, wAddI, wSubI, wEqI, wNeI, wSlL, wSlN, wSlT, wSlS, wLenL, wLenT, wLenS, wIntT, wTupleN, wMin2, wAddNN, wAddLN, wAddNL, wAddLL, wAddTT, wAddSS, wMulN, wMulT, wMulS, fz_d, fz_n, fz_c, allD, put, truD, bName, bTup, bCons, bNil, wipeR,
  List.getElem?_cons_zero, List.getElem?_cons_succ, List.set_cons_zero, List.set_cons_succ, List.length_set, List.length_cons, List.length_nil, Option.map_some, Option.map_none, if_true, Bool.false_eq_true, if_false, Bool.not_true, Bool.not_false, List.map_cons, List.map_nil, true_and, and_true, Nat.reduceAdd, Nat.reduceLeDiff])
local macro_rules | `(tactic| walk_at "t") => `(tactic| (try walk_at "w"))
local macro_rules | `(tactic| walk_at "x") => `(tactic| simp (maxSteps := 4000000) only [wDef0, wDef1, wDef2, wDef3, List.replicate, Nat.reduceSub, wSeq, wIf, wTb, wTr, wBin, wUn, wVar, wC, wCal, wCall, wCallK, wNil, wCons, wConsC, wLst, wTup, wNotT, wAndT, wOrT, wAnd, wOr, wNotE, wIfE, wChain, wNext, wSet, wSetC, wRet, wDrop, wAsg, wPar, wFor, wLc, wYes, wSl, wNoP, wPt, wRng1, wSrcA, wSrcS, wIsI, wIsI2, wCm, wMs, wRev, wPar3, wPar3k, wZipA, wZipLL, Option.bind_some, wDivm, wDget, wPNil, wPCons, wDisp, wDin, wDinS, wEqS, wEqB, wEqNS, wIsN, wInC, wOrdC, wInT, wInNT, wNinT, wNinNT, ix0, ix1,
  wOpt, tK_some, bK_some, bK_le, bK_lt, wGtI, wLtI, wLeI, wGeI, wModI, wFdivI, wMulI, wAddI, wSubI, wEqI, wNeI, wSlL, wSlN, wSlT, wSlS, wLenL, wLenT, wLenS, wIntT, wTupleN, wMin2, wAddNN, wAddLN, wAddNL, wAddLL, wAddTT, wAddSS, wMulN, wMulT, wMulS, fz_d, fz_n, fz_c, allD, put, truD, bName, bTup, bCons, bNil, wipeR,
  List.getElem?_cons_zero, List.getElem?_cons_succ, List.set_cons_zero, List.set_cons_succ, List.length_set, List.length_cons, List.length_nil, Option.map_some, Option.map_none, if_true, Bool.false_eq_true, if_false, Bool.not_true, Bool.not_false, List.map_cons, List.map_nil, true_and, and_true, Nat.reduceAdd, Nat.reduceLeDiff])
section
variable {κ : Kap} {j N : Nat} {a b c : Int} {q Q : DV → Kap → Prop} {d : PyData} {hs : List (Str × Str)} {bd : PyData} {ws : List (List Int)}
def xsOk (xs : List Dl) : Prop := xs.length ≤ 16 ∧ ∀ p ∈ xs, ddOk p.2 ∧ p.1 ≤ 60000 ∧ isStop p.2 = false
theorem dl_ex {p : Dl} (h : isStop p.2 = false) : ∃ (w : Str) (r : List PyData), dlD p = .tuple [.int (p.1 : Nat), .tuple (.str w :: r)] ∧ dW (dlD p) = w ∧ ((w == ("drop" : Str)) = true ∧ r = [] ∨ (w == ("drop" : Str)) = false ∧ ∃ v, r = [v] ∧ dV (dlD p) = v ∧ dA (dlD p) = .tuple [.int (p.1 : Nat), v]) := by
  obtain ⟨k, d⟩ := p
  cases d with
  | stop => cases h
  | drop => exact ⟨_, _, rfl, rfl, .inl ⟨by decide +kernel, rfl⟩⟩
  | file n => exact ⟨_, _, rfl, rfl, .inr ⟨by decide +kernel, _, rfl, rfl, rfl⟩⟩
  | mark n => exact ⟨_, _, rfl, rfl, .inr ⟨by decide +kernel, _, rfl, rfl, rfl⟩⟩
  | on x y => exact ⟨_, _, rfl, rfl, .inr ⟨by decide +kernel, _, rfl, rfl, rfl⟩⟩
  | ans t => exact ⟨_, _, rfl, rfl, .inr ⟨by decide +kernel, _, rfl, rfl, rfl⟩⟩
theorem th_val {p : Dl} (h : isStop p.2 = false) (ok : ddOk p.2) (hn : p.1 ≤ 60000) (hd : (dW (dlD p) == ("drop" : Str)) = false) : (isTh (dV (dlD p)) ∧ Gd 65536 300 1 (dV (dlD p))) ∧ ((dW (dlD p) == ("answer" : Str)) = true → isTh (dA (dlD p)) ∧ Gd 65536 300 1 (dA (dlD p))) := by
  obtain ⟨k, d⟩ := p
  have gs : ∀ {x : Str}, ascL 60 x → Gd 65536 60 0 (.str x) := fun h => gd_str h.1 h.2
  have nf : (("file" : Str) == ("answer" : Str)) = false := by decide +kernel
  have nm : (("mark" : Str) == ("answer" : Str)) = false := by decide +kernel
  have no : (("on" : Str) == ("answer" : Str)) = false := by decide +kernel
  have dd : (("drop" : Str) == ("drop" : Str)) = true := by decide +kernel
  have gk : Gd 65536 0 0 (.int (k : Nat)) := ⟨by rw [gd]; exact decide_eq_true (by have : k ≤ 60000 := hn; omega), Nat.le_refl _, Nat.le_refl _⟩
  cases d with
  | stop => cases h
  | drop =>
    have hd : (("drop" : Str) == ("drop" : Str)) = false := hd
    rw [dd] at hd; cases hd
  | file n => exact ⟨⟨True.intro, (gs ok).up (by decide) (by decide)⟩, fun e => by have e : (("file" : Str) == ("answer" : Str)) = true := e; rw [nf] at e; cases e⟩
  | mark n => exact ⟨⟨True.intro, (gs ok).up (by decide) (by decide)⟩, fun e => by have e : (("mark" : Str) == ("answer" : Str)) = true := e; rw [nm] at e; cases e⟩
  | on x y => exact ⟨⟨True.intro, (Gd.pair (gs ok.1) (gs ok.2)).up (by decide) (by decide)⟩, fun e => by have e : (("on" : Str) == ("answer" : Str)) = true := e; rw [no] at e; cases e⟩
  | ans t => exact ⟨⟨True.intro, (gs ok).up (by decide) (by decide)⟩, fun _ => ⟨True.intro, (Gd.pair gk (gs ok)).up (by decide) (by decide)⟩⟩
theorem dueD_len {xs : List Dl} : (dueD xs).length = xs.length := by unfold dueD; rw [List.length_map]
theorem bw_ok {w : Str} {xs : List Dl} (ok : xsOk xs) (hw : (w == ("drop" : Str)) = false) : thOk 16 (bwD w xs) := by
  refine ⟨?_, fun x m => ?_⟩
  · unfold bwD
    rw [List.length_map]
    exact Nat.le_trans (List.length_filter_le _ _) (by rw [dueD_len]; exact ok.1)
  · unfold bwD at m
    obtain ⟨y, my, rfl⟩ := List.mem_map.mp m
    obtain ⟨my, ey⟩ := List.mem_filter.mp my
    unfold dueD at my
    obtain ⟨p, mp, rfl⟩ := List.mem_map.mp my
    obtain ⟨o1, o2, o3⟩ := ok.2 p mp
    exact (th_val o3 o1 o2 (by rw [eq_of_beq ey]; exact hw)).1
theorem an_ok {xs : List Dl} (ok : xsOk xs) : thOk 16 (anD xs) := by
  refine ⟨?_, fun x m => ?_⟩
  · unfold anD
    rw [List.length_map]
    exact Nat.le_trans (List.length_filter_le _ _) (by rw [dueD_len]; exact ok.1)
  · unfold anD at m
    obtain ⟨y, my, rfl⟩ := List.mem_map.mp m
    obtain ⟨my, ey⟩ := List.mem_filter.mp my
    unfold dueD at my
    obtain ⟨p, mp, rfl⟩ := List.mem_map.mp my
    obtain ⟨o1, o2, o3⟩ := ok.2 p mp
    exact (th_val o3 o1 o2 (by rw [eq_of_beq ey]; decide +kernel)).2 ey
theorem thOk.up {n m : Nat} {xs : List PyData} (h : thOk n xs) (l : n ≤ m) : thOk m xs := ⟨Nat.le_trans h.1 l, h.2⟩
/-- a comprehension over what is due, by a word -/
theorem due_lc {xs : List Dl} (ok : xsOk xs) {w : Str} {ρ : Rho} {el : ME} {F : PyData → PyData} {t : MT} (hw : (w == ("drop" : Str)) = false) (h8 : 8 < ρ.length)
    (ht : ∀ (p : Dl) (q : DV → Kap → Prop) (qt : Bool → Kap → Prop) (v : Str) (r : List PyData), dlD p = .tuple [.int (p.1 : Nat), .tuple (.str v :: r)] → qt (v == w) κ → wO (t ((ρ.set 7 (some (.d (.int (p.1 : Nat))))).set 8 (some (.d (.tuple (.str v :: r))))) κ) qt)
    (he : ∀ (p : Dl) (q : DV → Kap → Prop) (v : Str) (x : PyData), dlD p = .tuple [.int (p.1 : Nat), .tuple [.str v, x]] → q (.d (F (dlD p))) κ → wO (el ((ρ.set 7 (some (.d (.int (p.1 : Nat))))).set 8 (some (.d (.tuple [.str v, x])))) κ) q)
    (h : q (.n (((dueD xs).filter fun d => dW d == w).map F)) κ) : wO (lcGo (bTup 2 (bCons (bName 7) (bCons (bName 8) bNil))) t el ρ (dueD xs) [] κ) q := by
  refine lcFilt (P := fun d => dW d == w) (F := F) _ _ (fun d md => ?_) (by rw [dueD_len, List.length_nil]; have := ok.1; omega) ?_
  · unfold dueD at md
    obtain ⟨p, mp, rfl⟩ := List.mem_map.mp md
    obtain ⟨o1, o2, o3⟩ := ok.2 p mp
    obtain ⟨v, r, e1, e2, e3⟩ := dl_ex o3
    refine ⟨_, by rw [e1]; rfl, fun qt g => ?_, fun hp q g => ?_⟩
    · refine ht p (fun _ _ => True) qt v r e1 ?_
      rw [← e2]; exact g
    · rcases e3 with ⟨e4, _⟩ | ⟨_, x, rfl, _, _⟩
      · rw [e2] at hp
        rw [eq_of_beq hp] at e4
        rw [hw] at e4; cases e4
      · exact he p q v x e1 g
  · rw [List.nil_append]; exact h
theorem due_xs {rs : List Rl} (ok : rsOk rs) : xsOk (due hs ws 0 rs) := by
  refine ⟨Nat.le_trans (due_len rs 0 fun r m => (ok.2 r m).2.1) (by have := ok.1; omega), fun p m => ?_⟩
  obtain ⟨h1, h2⟩ := due_ok rs 0 (fun r mr d md => (ok.2 r mr).2.2 d md) p m
  refine ⟨h1, by have := ok.1; omega, ?_⟩
  have ns : ∀ ds : List Dd, ∀ d ∈ (upTo ds).1, isStop d = false := by
    intro ds
    induction ds with
    | nil => intro d m; cases m
    | cons e r ih =>
      intro d m
      rw [upTo] at m
      split at m
      · cases m
      · rename_i he
        rcases List.mem_cons.mp m with rfl | m
        · exact Bool.eq_false_iff.mpr he
        · exact ih d m
  have go : ∀ (rs : List Rl) (k : Nat), ∀ p ∈ due hs ws k rs, isStop p.2 = false := by
    intro rs
    induction rs with
    | nil => intro k p m; cases m
    | cons r rs ih =>
      intro k p m
      rw [due] at m
      split at m
      · rcases List.mem_append.mp m with m | m
        · unfold pr1 at m
          obtain ⟨d, md, rfl⟩ := List.mem_map.mp m
          exact ns r.2 d md
        · split at m
          · cases m
          · exact ih _ p m
      · exact ih _ p m
  exact go rs 0 p m
theorem wDcCons {i : Nat} {mv : ME} {w : Str} {ρ : Rho} {r : List PyData} {acc : List (PyData × PyData)} (hi : i < ρ.length) (h : wO (mv (ρ.set i (some (.d (.str w)))) κ) fun z κ4 => ∃ e, fz z = .d e ∧ acc.length < 1000 ∧ dgetD acc (.str w) = none ∧ wO (dcGo (bName i) mYes (mVar i) mv ρ r (acc ++ [(.str w, e)]) κ4) q) :
    wO (dcGo (bName i) mYes (mVar i) mv ρ (.str w :: r) acc κ) q := by
  rw [dcGo]
  simp only [bName, wO_bind, wO_noex, wYes, if_true]
  rw [wVar, List.getElem?_set_self hi]
  dsimp only
  rw [wO_bind, wO_noex]
  refine h.mono fun z κ4 ⟨e, e1, e2, e3, e4⟩ => ?_
  rw [e1]
  dsimp only
  rw [if_pos ⟨e2, rfl, e3⟩]
  exact e4
theorem wDcNil {g : MG} {t : MT} {mk mv : ME} {ρ : Rho} {acc : List (PyData × PyData)} : wO (dcGo g t mk mv ρ [] acc κ) q = q (.d (.dict acc)) κ := propext Iff.rfl
theorem any_w {ds : List PyData} {P : PyData → Bool} (h : q (.d (.bool (ds.any P))) κ) : wO (opt κ (lstD anyF κ [.d (.list (ds.map fun d => PyData.bool (P d)))])) q := by
  have e : ∀ ds : List PyData, boolsD (ds.map fun d => PyData.bool (P d)) = some (ds.map P) := by
    intro ds
    induction ds with
    | nil => rfl
    | cons d r ih => rw [List.map_cons, boolsD, ih]; rfl
  show wO (opt κ ((anyF (ds.map fun d => PyData.bool (P d))).map DV.d)) q
  unfold anyF
  rw [e]
  show q (.d (.bool ((ds.map P).any id))) κ
  rw [List.any_map]
  exact h
theorem wEqTup0 {xs : List PyData} (h : ∀ x ∈ xs, Gd 65536 300 1 x) : wO (opt κ (eqD κ (.d (.tuple xs)) (.d (.tuple [])))) q = q (.d (.bool xs.isEmpty)) κ := by
  have nd : (PyData.tuple xs).hasDict = false := by rw [PyData.hasDict]; exact nodictL h
  have dp : (PyData.tuple xs).depth ≤ 64 := by rw [PyData.depth]; have := depthAll_le (D := 1) fun x m => (h x m).p; omega
  have : eqD κ (.d (.tuple xs)) (.d (.tuple [])) = some (.d (.bool xs.isEmpty)) := by
    unfold eqD eqDV dat
    dsimp only
    rw [if_pos nd, if_pos (show (PyData.tuple []).hasDict = false from rfl)]
    dsimp only
    rw [if_pos dp]
    cases xs <;> rfl
  rw [this]; exact propext Iff.rfl
theorem wEqLst0 {xs : List PyData} {y : DV} (hy : lv κ y = some xs) (h : ∀ x ∈ xs, Gd 65536 300 1 x) : wO (opt κ (eqD κ y (.n []))) q = q (.d (.bool xs.isEmpty)) κ := by
  have nd : (PyData.list xs).hasDict = false := by rw [PyData.hasDict]; exact nodictL h
  have dp : (PyData.list xs).depth ≤ 64 := by rw [PyData.depth]; have := depthAll_le (D := 1) fun x m => (h x m).p; omega
  have d1 : dat κ y = some (.list xs) := by
    cases y with
    | d z =>
      cases z with
      | list zs =>
        have : zs = xs := Option.some.inj hy
        subst this
        unfold dat
        dsimp only
        rw [if_pos nd]
      | _ => cases hy
    | c i =>
      unfold dat
      dsimp only
      rw [hy, Option.bind_some, if_pos (nodictL h)]
    | n zs =>
      unfold dat
      dsimp only
      rw [hy, Option.bind_some, if_pos (nodictL h)]
  have d2 : dat κ (.n []) = some (.list []) := rfl
  have : eqD κ y (.n []) = some (.d (.bool xs.isEmpty)) := by
    unfold eqD eqDV
    rw [d1, d2]
    dsimp only
    rw [if_pos dp]
    cases xs <;> rfl
  rw [this]; exact propext Iff.rfl
theorem judged_w (hk : KOk κ) (L : Let hs bd ws) {rs : List Rl} (ok : rsOk rs) {x y : PyData} (gx : Gd 65536 200000 9 x) (tx : tupF x = rsD rs) (gy : Gd 65536 200000 9 y) (ty : tupF y = letD hs bd)
    (h : q (.d (judD (due hs ws 0 rs))) κ) : wO (m_judged [.d x, .d y] κ) q := by
  unfold m_judged m_as_tuples
  walk_at "w"
  refine as_tuples_f 12 hk gx.g (Nat.le_trans gx.w (by decide)) (Nat.lt_of_le_of_lt gx.p (by decide)) ?_
  refine as_tuples_f 12 hk gy.g (Nat.le_trans gy.w (by decide)) (Nat.lt_of_le_of_lt gy.p (by decide)) ?_
  rw [tx, ty, fz_d, fz_d]
  refine deeds_due_w hk L ok ?_
  have xo : xsOk (due hs ws 0 rs) := due_xs ok
  generalize due hs ws 0 rs = xs at h xo
  rw [fz_n]
  unfold mDc
  simp only [wO_bind]
  walk_at "w"
  have nf : (("file" : Str) == ("drop" : Str)) = false := by decide +kernel
  have nm : (("mark" : Str) == ("drop" : Str)) = false := by decide +kernel
  have no : (("on" : Str) == ("drop" : Str)) = false := by decide +kernel
  have na : (("answer" : Str) == ("drop" : Str)) = false := by decide +kernel
  have row : ∀ (w : Str) (Q' : DV → Kap → Prop), (w == ("drop" : Str)) = false → Q' (.n (bwD w xs)) κ → wO (mLc (mSrcA (mVar 2)) (bTup 2 (bCons (bName 7) (bCons (bName 8) bNil))) (mTb (mBin eqD (mBin ixD (mVar 8) (mC (.int 0))) (mVar 6))) (mBin ixD (mVar 8) (mC (.int 1))) [7, 8]
      [some (.d x), some (.d y), some (.d (.list (dueD xs))), none, none, none, some (.d (.str w)), none, none] κ) Q' := fun w Q' hw g => by
    walk_at "w"
    refine due_lc xo hw (by simp) (fun p q qt v r e g => ?_) (fun p q v x e g => ?_) g
    · walk_at "w"
      simp only [ixT0]
      walk_at "t"
      exact g
    · walk_at "w"
      rw [show dV (dlD p) = x by rw [e]; rfl] at g
      exact g
  refine wDcCons (by simp) (row "file" _ nf ⟨_, rfl, by simp, rfl, ?_⟩)
  refine wDcCons (by simp) (row "mark" _ nm ⟨_, rfl, by simp, ?_, ?_⟩)
  · rw [List.nil_append, dgetMiss (by decide +kernel)]; rfl
  refine wDcCons (by simp) (row "on" _ no ⟨_, rfl, by simp, ?_, ?_⟩)
  · rw [List.nil_append, List.singleton_append, dgetMiss (by decide +kernel), dgetMiss (by decide +kernel)]; rfl
  rw [wDcNil]
  simp only [List.nil_append, List.singleton_append, List.cons_append, fz_d, fz_n]
  have k1 : dgetD [(.str "file", .list (bwD "file" xs)), (.str "mark", .list (bwD "mark" xs)), (.str "on", .list (bwD "on" xs))] (.str "file") = some (.list (bwD "file" xs)) := dgetHit
  have k2 : dgetD [(.str "file", .list (bwD "file" xs)), (.str "mark", .list (bwD "mark" xs)), (.str "on", .list (bwD "on" xs))] (.str "mark") = some (.list (bwD "mark" xs)) := by rw [dgetMiss (by decide +kernel), dgetHit]
  have k3 : dgetD [(.str "file", .list (bwD "file" xs)), (.str "mark", .list (bwD "mark" xs)), (.str "on", .list (bwD "on" xs))] (.str "on") = some (.list (bwD "on" xs)) := by rw [dgetMiss (by decide +kernel), dgetMiss (by decide +kernel), dgetHit]
  refine due_lc (w := "answer") (F := dA) xo na (by simp) (fun p q qt v r e g => ?_) (fun p q v x e g => ?_) ?_
  · walk_at "w"
    simp only [ixT0]
    walk_at "t"
    exact g
  · walk_at "w"
    rw [show dA (dlD p) = .tuple [.int (p.1 : Nat), x] by rw [e]; rfl] at g
    exact g
  rw [show ((dueD xs).filter fun d => dW d == ("answer" : Str)).map dA = anD xs from rfl]
  simp only [k1, k2, k3, fz_n]
  have of := bw_ok xo nf
  have om := bw_ok xo nm
  have oo := bw_ok xo no
  have oa := an_ok xo
  refine told_once_w hk (of.up (by decide)) ?_
  rw [fz_d]
  refine lcPure (F := fun d => .bool (dW d == ("drop" : Str))) (fun d md => ?_) (by rw [dueD_len, List.length_nil]; have := xo.1; omega) ?_
  · unfold dueD at md
    obtain ⟨p, mp, rfl⟩ := List.mem_map.mp md
    obtain ⟨o1, o2, o3⟩ := xo.2 p mp
    obtain ⟨v, r, e1, e2, e3⟩ := dl_ex o3
    refine ⟨_, by rw [e1]; rfl, fun q g => ?_⟩
    walk_at "w"
    simp only [ixT0]
    walk_at "t"
    rw [← e2]
    exact g
  rw [List.nil_append, fz_n]
  refine any_w (P := fun d => dW d == ("drop" : Str)) ?_
  have tail : ∀ (B : List PyData), boxD xs = B → wO (m_told_once [.d (.list (bwD "mark" xs))] κ) (fun x κ1 => wO (m_told_once [.d (.list (bwD "on" xs))] κ1) fun x_4 κ1 => wO (m_told_once [.d (.list (anD xs))] κ1) fun x_5 κ1 =>
      match Option.map (fun x => PyData.tuple B :: x) (allD [fz x, fz x_4, fz x_5]) with
      | some ds => ds.length ≤ 1000 ∧ wO (fin κ.length (OutS.rt (DV.d (PyData.tuple ds)) κ1)) q
      | none => False) := fun B eB => by
    refine told_once_w hk (om.up (by decide)) ?_
    refine told_once_w hk (oo.up (by decide)) ?_
    refine told_once_w hk (oa.up (by decide)) ?_
    simp only [fz_d, allD, Option.map_some]
    refine ⟨by show (4 : Nat) ≤ 1000; decide, ?_⟩
    rw [finD0 hk rfl, ← eB]
    exact h
  have gO : ∀ {l : List PyData}, thOk 16 l → ∀ x ∈ onceP [] l, Gd 65536 300 1 x := fun o x m => (o.2 x (onceP_mem _ _ m)).2
  unfold boxD anyDrop at tail
  walk_at "t"
  cases ad : (dueD xs).any fun d => dW d == ("drop" : Str) with
  | true =>
    rw [ad, if_pos rfl] at tail
    rw [if_pos rfl]
    exact tail [] rfl
  | false =>
    rw [ad, if_neg Bool.false_ne_true] at tail
    rw [if_neg Bool.false_ne_true]
    rw [wEqTup0 (gO of)]
    dsimp only
    have lo : lv κ (.d (.list (bwD "on" xs))) = some (bwD "on" xs) := rfl
    cases ef : (onceP [] (bwD "file" xs)).isEmpty with
    | true =>
      have ef' := List.isEmpty_iff.mp ef
      rw [if_pos rfl, wEqLst0 lo (fun x m => (oo.2 x m).2)]
      dsimp only
      cases eo : (bwD "on" xs).isEmpty with
      | true =>
        rw [if_pos rfl]
        exact tail [.str "in"] (if_pos ⟨ef', List.isEmpty_iff.mp eo⟩)
      | false =>
        rw [if_neg Bool.false_ne_true]
        exact tail _ (if_neg fun z => by rw [List.isEmpty_iff.mpr z.2] at eo; cases eo)
    | false =>
      rw [if_neg Bool.false_ne_true]
      exact tail _ (if_neg fun z => by rw [List.isEmpty_iff.mpr z.1] at ef; cases ef)
end

end Law

namespace Law
open DL L2 PyProof.Rows PySem PySem.Spec
local macro_rules | `(tactic| walk_at "w") => `(tactic| simp only [wDef0, wDef1, wDef2, wDef3, List.replicate, Nat.reduceSub, wSeq, wIf, wTb, wTr, wBin, wUn, wVar, wC, wCal, wCall, wCallK, wNil, wCons, wConsC, wLst, wTup, wNotT, wAndT, wOrT, wAnd, wOr, wNotE, wIfE, wChain, wNext, wSet, wSetC, wRet, wDrop, wAsg, wPar, wFor, wLc, wYes, wSl, wNoP, wPt, wRng1, wSrcA, wSrcS, wIsI, wIsI2, wCm, wMs, wRev, wPar3, wPar3k, wZipA, wZipLL, Option.bind_some, wDivm, wDget, wPNil, wPCons, wDisp, wDin, wDinS, wEqS, wEqB, wEqNS, wIsN, wInC, wOrdC, wInT, wInNT, wNinT, wNinNT, ix0, ix1,
  wOpt, tK_some, bK_some, bK_le, bK_lt, wGtI, wLtI, wLeI, wGeI, wModI, wFdivI, wMulI, wAddI, wSubI, wEqI, wNeI, wSlL, wSlN, wSlT, wSlS, wLenL, wLenT, wLenS, wIntT, wTupleN, wMin2, wAddNN, wAddLN, wAddNL, wAddLL, wAddTT, wAddSS, wMulN, wMulT, wMulS, fz_d, fz_n, fz_c, allD, put, truD, bName, bTup, bCons, bNil, wipeR,
  List.getElem?_cons_zero, List.getElem?_cons_succ, List.set_cons_zero, List.set_cons_succ, List.length_set, List.length_cons, List.length_nil, Option.map_some, Option.map_none, if_true, Bool.false_eq_true, if_false, Bool.not_true, Bool.not_false, List.map_cons, List.map_nil, true_and, and_true, Nat.reduceAdd, Nat.reduceLeDiff])
local macro_rules | `(tactic| walk_at "b") => `(tactic| simp (disch := assumption) only [ixB0, ixB1, ixB2, DL.subB0, DL.subB2, Option.bind_some, wDef0, wDef1, wDef2, wDef3, List.replicate, Nat.reduceSub, wSeq, wIf, wTb, wTr, wBin, wUn, wVar, wC, wCal, wCall, wCallK, wNil, wCons, wConsC, wLst, wTup, wNotT, wAndT, wOrT, wAnd, wOr, wNotE, wIfE, wChain, wNext, wSet, wSetC, wRet, wDrop, wAsg, wPar, wFor, wLc, wYes, wSl, wNoP, wPt, wRng1, wSrcA, wSrcS, wIsI, wIsI2, wCm, wMs, wRev, wPar3, wPar3k, wZipA, wZipLL, Option.bind_some, wDivm, wDget, wPNil, wPCons, wDisp, wDin, wDinS, wEqS, wEqB, wEqNS, wIsN, wInC, wOrdC, wInT, wInNT, wNinT, wNinNT, ix0, ix1,
  wOpt, tK_some, bK_some, bK_le, bK_lt, wGtI, wLtI, wLeI, wGeI, wModI, wFdivI, wMulI, wAddI, wSubI, wEqI, wNeI, wSlL, wSlN, wSlT, wSlS, wLenL, wLenT, wLenS, wIntT, wTupleN, wMin2, wAddNN, wAddLN, wAddNL, wAddLL, wAddTT, wAddSS, wMulN, wMulT, wMulS, fz_d, fz_n, fz_c, allD, put, truD, bName, bTup, bCons, bNil, wipeR,
  List.getElem?_cons_zero, List.getElem?_cons_succ, List.set_cons_zero, List.set_cons_succ, List.length_set, List.length_cons, List.length_nil, Option.map_some, Option.map_none, if_true, Bool.false_eq_true, if_false, Bool.not_true, Bool.not_false, List.map_cons, List.map_nil, true_and, and_true, Nat.reduceAdd, Nat.reduceLeDiff])
local macro_rules | `(tactic| walk_at "t") => `(tactic| (try walk_at "w"))
local macro_rules | `(tactic| walk_at "x") => `(tactic| simp (maxSteps := 4000000) only [wDef0, wDef1, wDef2, wDef3, List.replicate, Nat.reduceSub, wSeq, wIf, wTb, wTr, wBin, wUn, wVar, wC, wCal, wCall, wCallK, wNil, wCons, wConsC, wLst, wTup, wNotT, wAndT, wOrT, wAnd, wOr, wNotE, wIfE, wChain, wNext, wSet, wSetC, wRet, wDrop, wAsg, wPar, wFor, wLc, wYes, wSl, wNoP, wPt, wRng1, wSrcA, wSrcS, wIsI, wIsI2, wCm, wMs, wRev, wPar3, wPar3k, wZipA, wZipLL, Option.bind_some, wDivm, wDget, wPNil, wPCons, wDisp, wDin, wDinS, wEqS, wEqB, wEqNS, wIsN, wInC, wOrdC, wInT, wInNT, wNinT, wNinNT, ix0, ix1,
  wOpt, tK_some, bK_some, bK_le, bK_lt, wGtI, wLtI, wLeI, wGeI, wModI, wFdivI, wMulI, wAddI, wSubI, wEqI, wNeI, wSlL, wSlN, wSlT, wSlS, wLenL, wLenT, wLenS, wIntT, wTupleN, wMin2, wAddNN, wAddLN, wAddNL, wAddLL, wAddTT, wAddSS, wMulN, wMulT, wMulS, fz_d, fz_n, fz_c, allD, put, truD, bName, bTup, bCons, bNil, wipeR,
  List.getElem?_cons_zero, List.getElem?_cons_succ, List.set_cons_zero, List.set_cons_succ, List.length_set, List.length_cons, List.length_nil, Option.map_some, Option.map_none, if_true, Bool.false_eq_true, if_false, Bool.not_true, Bool.not_false, List.map_cons, List.map_nil, true_and, and_true, Nat.reduceAdd, Nat.reduceLeDiff])
section
variable {κ : Kap} {j N : Nat} {a b c : Int} {q Q : DV → Kap → Prop} {d : PyData}
theorem same_bool (n : Nat) {x : Bool} (hk : KOk κ) (h : q (.d (.bool true)) κ) : wO (r__law_same (n + 1) [.d (.bool x), .d (.bool x)] κ) q := by
  show wO (f__law_same (r__law_same n) [.d (.bool x), .d (.bool x)] κ) q
  unfold f__law_same
  walk_at "w"
  have t1 : isT "list" (dvD (DV.d (.bool x))) = false := rfl
  have t2 : isT "tuple" (dvD (DV.d (.bool x))) = false := rfl
  have t3 : isT "bool" (dvD (DV.d (.bool x))) = true := rfl
  have t4 : isT "str" (dvD (DV.d (.bool x))) = false := rfl
  have t5 : isNone (.bool x) = false := rfl
  simp only [t1, t2, t3, t4, t5, Bool.or_self, Bool.false_or, Bool.or_false, Bool.true_or, beq_self_eq_true, if_true, Bool.false_eq_true, if_false]
  exact ⟨rfl, rfl, rfl, rfl, (finD0 (q := q) hk rfl).mpr h⟩
theorem same_bools (n : Nat) {xs : List Bool} (hl : xs.length ≤ 100000) (hk : KOk κ) (h : q (.d (.bool true)) κ) : wO (r__law_same (n + 2) [.d (.list (xs.map .bool)), .d (.list (xs.map .bool))] κ) q := by
  refine same_list (n + 1) (by rw [List.length_map]; exact hl) (fun x mx q g => ?_) hk h
  obtain ⟨y, _, rfl⟩ := List.mem_map.mp mx
  exact same_bool n hk g
theorem same_refl : ∀ (n : Nat) {d : PyData} {κ : Kap} {q : DV → Kap → Prop}, KOk κ → gd N d = true → d.bulk ≤ 900000 → d.depth < n → q (.d (.bool true)) κ → wO (r__law_same n [.d d, .d d] κ) q
  | 0, _, _, _, _, _, _, hp, _ => absurd hp (Nat.not_lt_zero _)
  | n + 1, d, κ, q, hk, hg, hw, hp, h => by
    have fin : q (.d (.bool true)) κ → wO (fin κ.length (OutS.rt (.d (.bool true)) κ)) q := fun g => (finD0 (q := q) hk rfl).mpr g
    have seq : ∀ (xs : List PyData) (κ' : Kap), κ' = κ → (∀ x ∈ xs, gd N x = true ∧ x.bulk ≤ 900000 ∧ x.depth < n) → xs.length ≤ 900000 → ∀ ρ : Rho, wO (lcGo (bTup 2 (bCons (bName 2) (bCons (bName 3) bNil))) mYes (mCall (r__law_same n) (mCons (mVar 2) (mCons (mVar 3) mNil))) (some (.d d) :: some (.d d) :: none :: none :: ρ) (zipD xs xs) [] κ) fun x κ1 => wO (opt κ1 (lstD allF κ1 [fz x])) fun x κ' => wO (DL.fin κ.length (OutS.rt x κ')) q := fun xs κ' ek hx hl ρ => by
      refine lcAll (P := fun _ => true) (fun e me => ?_) (by rw [zipD_selfL]; omega) ?_
      · obtain ⟨x, mx, rfl⟩ := zipD_self me
        obtain ⟨a1, a2, a3⟩ := hx x mx
        refine ⟨_, rfl, fun q g => ?_⟩
        walk_at "w"
        exact same_refl n hk a1 a2 a3 g
      · rw [show (zipD xs xs).all (fun _ => true) = true by simp]
        exact (finD0 (q := q) hk rfl).mpr h
    cases d with
    | list xs =>
      show wO (f__law_same (r__law_same n) [.d (.list xs), .d (.list xs)] κ) q
      unfold f__law_same
      walk_at "w"
      have t1 : isT "list" (dvD (DV.d (.list xs))) = true := rfl
      have t2 : isT "tuple" (dvD (DV.d (.list xs))) = false := rfl
      simp only [t1, t2, wNeB, Bool.true_or, Bool.or_false, beq_self_eq_true, Bool.not_true, if_true, Bool.false_eq_true, if_false]
      refine ⟨rfl, rfl, rfl, rfl, rfl, ?_⟩
      rw [PyData.bulk] at hw
      rw [PyData.depth] at hp
      exact seq xs κ rfl (fun x mx => ⟨gd_memL hg mx, by have := mem_bulk mx; omega, by have := dep_mem mx; omega⟩) (Nat.le_trans len_bulk hw) []
    | tuple xs =>
      show wO (f__law_same (r__law_same n) [.d (.tuple xs), .d (.tuple xs)] κ) q
      unfold f__law_same
      walk_at "w"
      have t1 : isT "list" (dvD (DV.d (.tuple xs))) = false := rfl
      have t2 : isT "tuple" (dvD (DV.d (.tuple xs))) = true := rfl
      simp only [t1, t2, wNeB, Bool.true_or, Bool.false_or, Bool.or_true, Bool.or_false, beq_self_eq_true, Bool.not_true, if_true, Bool.false_eq_true, if_false]
      refine ⟨rfl, rfl, rfl, rfl, rfl, ?_⟩
      rw [wZipTT]
      rw [PyData.bulk] at hw
      rw [PyData.depth] at hp
      exact seq xs κ rfl (fun x mx => ⟨gd_mem hg mx, by have := mem_bulk mx; omega, by have := dep_mem mx; omega⟩) (Nat.le_trans len_bulk hw) []
    | dict _ => simp [gd] at hg
    | none =>
      show wO (f__law_same (r__law_same n) [.d .none, .d .none] κ) q
      unfold f__law_same
      walk_at "w"
      have t1 : isT "list" (dvD (DV.d .none)) = false := rfl
      have t2 : isT "tuple" (dvD (DV.d .none)) = false := rfl
      have t3 : isT "bool" (dvD (DV.d .none)) = false := rfl
      have t4 : isT "str" (dvD (DV.d .none)) = false := rfl
      have t5 : isNone .none = true := rfl
      have e : ∀ κ : Kap, eqD κ (.d .none) (.d .none) = some (.d (.bool true)) := fun κ => by
        unfold eqD eqDV dat
        simp [PyData.hasDict, PyData.depth, PyData.eqv]
      simp only [t1, t2, t3, t4, t5, e, Bool.or_self, Bool.false_or, Bool.or_false, Bool.true_or, beq_self_eq_true, if_true, Bool.false_eq_true, if_false]
      refine ⟨rfl, ?_⟩
      walk_at "t"
      exact ⟨rfl, rfl, fin h⟩
    | bool b => exact same_bool n hk h
    | int i =>
      show wO (f__law_same (r__law_same n) [.d (.int i), .d (.int i)] κ) q
      unfold f__law_same
      walk_at "w"
      have t1 : isT "list" (dvD (DV.d (.int i))) = false := rfl
      have t2 : isT "tuple" (dvD (DV.d (.int i))) = false := rfl
      have t3 : isT "bool" (dvD (DV.d (.int i))) = false := rfl
      have t4 : isT "str" (dvD (DV.d (.int i))) = false := rfl
      have t6 : isT "int" (dvD (DV.d (.int i))) = true := rfl
      have t5 : isNone (.int i) = false := rfl
      simp only [t1, t2, t3, t4, t5, t6, Bool.or_self, Bool.false_or, Bool.or_false, Bool.true_or, beq_self_eq_true, if_true, Bool.false_eq_true, if_false, Bool.not_false]
      exact ⟨rfl, rfl, rfl, rfl, fin h⟩
    | str x => exact same_str n hk h
end

end Law

namespace Law
open DL L2 PyProof.Rows PySem PySem.Spec
local macro_rules | `(tactic| walk_at "w") => `(tactic| simp only [wDef0, wDef1, wDef2, wDef3, List.replicate, Nat.reduceSub, wSeq, wIf, wTb, wTr, wBin, wUn, wVar, wC, wCal, wCall, wCallK, wNil, wCons, wConsC, wLst, wTup, wNotT, wAndT, wOrT, wAnd, wOr, wNotE, wIfE, wChain, wNext, wSet, wSetC, wRet, wDrop, wAsg, wPar, wFor, wLc, wYes, wSl, wNoP, wPt, wRng1, wSrcA, wSrcS, wIsI, wIsI2, wCm, wMs, wRev, wPar3, wPar3k, wZipA, wZipLL, Option.bind_some, wDivm, wDget, wPNil, wPCons, wDisp, wDin, wDinS, wEqS, wEqB, wEqNS, wIsN, wInC, wOrdC, wInT, wInNT, wNinT, wNinNT, ix0, ix1,
  wOpt, tK_some, bK_some, bK_le, bK_lt, wGtI, wLtI, wLeI, wGeI, wModI, wFdivI, wMulI, wAddI, wSubI, wEqI, wNeI, wSlL, wSlN, wSlT, wSlS, wLenL, wLenT, wLenS, wIntT, wTupleN, wMin2, wAddNN, wAddLN, wAddNL, wAddLL, wAddTT, wAddSS, wMulN, wMulT, wMulS, fz_d, fz_n, fz_c, allD, put, truD, bName, bTup, bCons, bNil, wipeR,
  List.getElem?_cons_zero, List.getElem?_cons_succ, List.set_cons_zero, List.set_cons_succ, List.length_set, List.length_cons, List.length_nil, Option.map_some, Option.map_none, if_true, Bool.false_eq_true, if_false, Bool.not_true, Bool.not_false, List.map_cons, List.map_nil, true_and, and_true, Nat.reduceAdd, Nat.reduceLeDiff])
local macro_rules | `(tactic| walk_at "b") => `(tactic| simp (disch := assumption) only [ixB0, ixB1, ixB2, DL.subB0, DL.subB2, Option.bind_some, wDef0, wDef1, wDef2, wDef3, List.replicate, Nat.reduceSub, wSeq, wIf, wTb, wTr, wBin, wUn, wVar, wC, wCal, wCall, wCallK, wNil, wCons, wConsC, wLst, wTup, wNotT, wAndT, wOrT, wAnd, wOr, wNotE, wIfE, wChain, wNext, wSet, wSetC, wRet, wDrop, wAsg, wPar, wFor, wLc, wYes, wSl, wNoP, wPt, wRng1, wSrcA, wSrcS, wIsI, wIsI2, wCm, wMs, wRev, wPar3, wPar3k, wZipA, wZipLL, Option.bind_some, wDivm, wDget, wPNil, wPCons, wDisp, wDin, wDinS, wEqS, wEqB, wEqNS, wIsN, wInC, wOrdC, wInT, wInNT, wNinT, wNinNT, ix0, ix1,
  wOpt, tK_some, bK_some, bK_le, bK_lt, wGtI, wLtI, wLeI, wGeI, wModI, wFdivI, wMulI, wAddI, wSubI, wEqI, wNeI, wSlL, wSlN, wSlT, wSlS, wLenL, wLenT, wLenS, wIntT, wTupleN, wMin2, wAddNN, wAddLN, wAddNL, wAddLL, wAddTT, wAddSS, wMulN, wMulT, wMulS, fz_d, fz_n, fz_c, allD, put, truD, bName, bTup, bCons, bNil, wipeR,
  List.getElem?_cons_zero, List.getElem?_cons_succ, List.set_cons_zero, List.set_cons_succ, List.length_set, List.length_cons, List.length_nil, Option.map_some, Option.map_none, if_true, Bool.false_eq_true, if_false, Bool.not_true, Bool.not_false, List.map_cons, List.map_nil, true_and, and_true, Nat.reduceAdd, Nat.reduceLeDiff])
local macro_rules | `(tactic| walk_at "t") => `(tactic| (try walk_at "w"))
local macro_rules | `(tactic| walk_at "x") => `(tactic| simp (maxSteps := 4000000) only [wDef0, wDef1, wDef2, wDef3, List.replicate, Nat.reduceSub, wSeq, wIf, wTb, wTr, wBin, wUn, wVar, wC, wCal, wCall, wCallK, wNil, wCons, wConsC, wLst, wTup, wNotT, wAndT, wOrT, wAnd, wOr, wNotE, wIfE, wChain, wNext, wSet, wSetC, wRet, wDrop, wAsg, wPar, wFor, wLc, wYes, wSl, wNoP, wPt, wRng1, wSrcA, wSrcS, wIsI, wIsI2, wCm, wMs, wRev, wPar3, wPar3k, wZipA, wZipLL, Option.bind_some, wDivm, wDget, wPNil, wPCons, wDisp, wDin, wDinS, wEqS, wEqB, wEqNS, wIsN, wInC, wOrdC, wInT, wInNT, wNinT, wNinNT, ix0, ix1,
  wOpt, tK_some, bK_some, bK_le, bK_lt, wGtI, wLtI, wLeI, wGeI, wModI, wFdivI, wMulI, wAddI, wSubI, wEqI, wNeI, wSlL, wSlN, wSlT, wSlS, wLenL, wLenT, wLenS, wIntT, wTupleN, wMin2, wAddNN, wAddLN, wAddNL, wAddLL, wAddTT, wAddSS, wMulN, wMulT, wMulS, fz_d, fz_n, fz_c, allD, put, truD, bName, bTup, bCons, bNil, wipeR,
  List.getElem?_cons_zero, List.getElem?_cons_succ, List.set_cons_zero, List.set_cons_succ, List.length_set, List.length_cons, List.length_nil, Option.map_some, Option.map_none, if_true, Bool.false_eq_true, if_false, Bool.not_true, Bool.not_false, List.map_cons, List.map_nil, true_and, and_true, Nat.reduceAdd, Nat.reduceLeDiff])
section
variable {κ : Kap} {j N : Nat} {a b c : Str} {q Q : DV → Kap → Prop} {d : PyData}
/-! ### texts of names -/
theorem spl_sp : ∀ (p acc r : List Nat), (∀ c ∈ p, c ≠ 32) → TL.spl [32] 0 acc (p ++ 32 :: r) = (acc ++ p) :: TL.spl [32] 0 [] r
  | [], acc, r, _ => by
    rw [List.nil_append, List.append_nil, TL.spl_hit (by simp [TL.pre])]
    rfl
  | x :: p, acc, r, h => by
    have hx := h x List.mem_cons_self
    rw [List.cons_append, TL.spl_miss (by simp [TL.pre]; exact hx), spl_sp p (acc ++ [x]) r fun c m => h c (List.mem_cons_of_mem _ m), List.append_assoc, List.singleton_append]
theorem spl_end : ∀ (p acc : List Nat), (∀ c ∈ p, c ≠ 32) → TL.spl [32] 0 acc p = [acc ++ p]
  | [], acc, _ => by rw [TL.spl_nil, List.append_nil]
  | x :: p, acc, h => by
    have hx := h x List.mem_cons_self
    rw [TL.spl_miss (by simp [TL.pre]; exact hx), spl_end p (acc ++ [x]) fun c m => h c (List.mem_cons_of_mem _ m), List.append_assoc, List.singleton_append]
theorem split2 {x y : Str} (hx : ∀ c ∈ x.cps.toList, c ≠ 32) (hy : ∀ c ∈ y.cps.toList, c ≠ 32) : Txt.split (x ++ (" " : Str) ++ y) (" " : Str) = [x, y] := by
  have sp : TL.tl (" " : Str) = [32] := by decide +kernel
  refine TL.map_tl_inj ?_
  rw [TL.split_spl _ _ (by rw [sp]; decide) (TL.kind_ok (by decide +kernel)), TL.tl_append, TL.tl_append, sp, List.append_assoc, List.singleton_append, spl_sp _ _ _ hx, spl_end _ _ hy]
  rfl
theorem app_sep {P : Nat → Bool} {s : Nat} (hs : P s = false) : ∀ {p p' r r' : List Nat}, p.all P = true → p'.all P = true → p ++ s :: r = p' ++ s :: r' → p = p' ∧ r = r'
  | [], [], r, r', _, _, e => ⟨rfl, (List.cons.inj e).2⟩
  | [], x :: p', r, r', _, h, e => by
    have := (List.cons.inj e).1
    rw [List.all_cons, Bool.and_eq_true, ← this, hs] at h
    exact absurd h.1 (by decide)
  | x :: p, [], r, r', h, _, e => by
    have := (List.cons.inj e).1
    rw [List.all_cons, Bool.and_eq_true, this, hs] at h
    exact absurd h.1 (by decide)
  | x :: p, y :: p', r, r', h, h', e => by
    rw [List.all_cons, Bool.and_eq_true] at h h'
    obtain ⟨e1, e2⟩ := List.cons.inj e
    obtain ⟨f1, f2⟩ := app_sep hs h.2 h'.2 e2
    exact ⟨by rw [e1, f1], f2⟩
theorem tl_adr {x y : Str} : (adr x y).cps.toList = x.cps.toList ++ 64 :: y.cps.toList := by
  have sp : TL.tl ("@" : Str) = [64] := by decide +kernel
  show TL.tl (x ++ ("@" : Str) ++ y) = _
  rw [TL.tl_append, TL.tl_append, sp, List.append_assoc, List.singleton_append]
theorem adr_inj {x y z w : Str} (hx : nmOk x) (hz : nmOk z) (e : adr x y = adr z w) : x = z ∧ y = w := by
  have e := congrArg (fun s : Str => s.cps.toList) e
  rw [tl_adr, tl_adr] at e
  obtain ⟨f, g⟩ := app_sep (P := wordC) (s := 64) (by decide) hx.2 hz.2 e
  exact ⟨TL.ext_tl f, TL.ext_tl g⟩
theorem adr_eq {x y z w : Str} (hx : nmOk x) (hz : nmOk z) : (adr x y == adr z w) = (x == z && y == w) := by
  by_cases h : x = z ∧ y = w
  · obtain ⟨rfl, rfl⟩ := h; simp
  · have : adr x y ≠ adr z w := fun e => h (adr_inj hx hz e)
    rw [beq_eq_false_iff_ne.mpr this]
    symm
    rw [Bool.and_eq_false_iff]
    by_cases hx : x = z
    · exact .inr (beq_eq_false_iff_ne.mpr fun e => h ⟨hx, e⟩)
    · exact .inl (beq_eq_false_iff_ne.mpr hx)
theorem wordC_sp {c : Nat} (h : wordC c = true) : c ≠ 32 ∧ c < 128 := by
  unfold wordC at h
  simp only [Bool.or_eq_true, decide_eq_true_eq] at h
  omega
theorem adr_sp {x y : Str} (hx : nmOk x) (hy : nmOk y) : ∀ c ∈ (adr x y).cps.toList, c ≠ 32 ∧ c < 128 := fun c m => by
  rw [tl_adr] at m
  rcases List.mem_append.mp m with m | m
  · exact wordC_sp (List.all_eq_true.mp hx.2 c m)
  · rcases List.mem_cons.mp m with rfl | m
    · decide
    · exact wordC_sp (List.all_eq_true.mp hy.2 c m)
theorem adr_len {x y : Str} (hx : nmOk x) (hy : nmOk y) : (adr x y).length ≤ 17 := by
  unfold adr
  rw [strLen_append, strLen_append]
  have := hx.1; have := hy.1
  have : ("@" : Str).length = 1 := by decide +kernel
  omega
theorem nm_asc {x : Str} (h : nmOk x) {n : Nat} (hn : 8 ≤ n) : ascL n x := ⟨Nat.le_trans h.1 hn, List.all_eq_true.mpr fun c m => decide_eq_true (wordC_sp (List.all_eq_true.mp h.2 c m)).2⟩
/-! ### the known letter -/
def toT (a b c : Str) : Str := adr c b ++ (" " : Str) ++ adr a a
def knH (a b c : Str) : List (Str × Str) := [("from", adr a b), ("to", toT a b c), ("about", "Re X-ray"), ("about", "more")]
abbrev zeT : Str := "Zeta=ab\n9to5 mmmmmmmmmmmmmm"
abbrev seN : List Int := [353, 65, 8217, 98, 304, 115, 178]
def inH : List (Str × Str) := [("about", "deep"), ("auto", "no")]
abbrev wdD (ns : List Int) : PyData := .tuple [.str "words", ntup ns]
abbrev ptD (xs : List PyData) : PyData := .tuple [.str "parts", .tuple xs]
def knB2 : PyData := ptD [.tuple [.tuple (hD inH), wdD (ords zeT)], .tuple [.tuple (hD []), wdD seN]]
def knB : PyData := ptD [.tuple [.tuple (hD []), wdD (ords "one")], .tuple [.tuple (hD []), knB2]]
def knW : List (List Int) := [ords "one", ords zeT, seN]
theorem hs_nil : hsOk [] := ⟨by decide, fun _ m => (List.not_mem_nil m).elim⟩
theorem hs_in : hsOk inH := by
  have key : (decide (inH.length ≤ 12) && inH.all fun p => decide (p.1.length ≤ 100) && decide (p.2.length ≤ 100) && p.1.cps.toList.all (fun c => decide (c < 128)) && p.2.cps.toList.all (fun c => decide (c < 128))) = true := by decide +kernel
  rw [Bool.and_eq_true] at key
  refine ⟨of_decide_eq_true key.1, fun p m => ?_⟩
  have := List.all_eq_true.mp key.2 p m
  simp only [Bool.and_eq_true, decide_eq_true_eq] at this
  exact ⟨this.1.1, this.1.2, this.2⟩
theorem bd_words {k : Nat} {ns : List Int} (h : (decide (ns.length ≤ 300) && ns.all fun n => decide (0 ≤ n) && decide (n < 65536)) = true) : isBd (k + 1) (wdD ns) [ns] := by
  rw [Bool.and_eq_true] at h
  refine .inl ⟨ns, of_decide_eq_true h.1, fun n m => ?_, rfl, rfl⟩
  have := List.all_eq_true.mp h.2 n m
  simp only [Bool.and_eq_true, decide_eq_true_eq] at this
  exact this
theorem kn_bd : isBd 3 knB knW := by
  have b2 : isBd 2 knB2 [ords zeT, seN] := by
    refine .inr ⟨[(inH, wdD (ords zeT), [ords zeT]), ([], wdD seN, [seN])], by decide, fun p m => ?_, rfl, rfl⟩
    simp only [List.mem_cons, List.not_mem_nil, or_false] at m
    rcases m with rfl | rfl
    · exact ⟨bd_words (by decide +kernel), hs_in⟩
    · exact ⟨bd_words (by decide +kernel), hs_nil⟩
  refine .inr ⟨[([], wdD (ords "one"), [ords "one"]), ([], knB2, [ords zeT, seN])], by decide, fun p m => ?_, rfl, rfl⟩
  simp only [List.mem_cons, List.not_mem_nil, or_false] at m
  rcases m with rfl | rfl
  · exact ⟨bd_words (by decide +kernel), hs_nil⟩
  · exact ⟨b2, hs_nil⟩
theorem to_len {a b c : Str} (n : N3 a b c) : (toT a b c).length ≤ 35 := by
  unfold toT
  rw [strLen_append, strLen_append]
  have := adr_len n.oz n.oy; have := adr_len n.ox n.ox
  have : (" " : Str).length = 1 := by decide +kernel
  omega
theorem asc_of2 {x : Str} (h : ∀ c ∈ x.cps.toList, c < 128) : x.cps.toList.all (fun c => decide (c < 128)) = true := List.all_eq_true.mpr fun c m => decide_eq_true (h c m)
theorem kn_let {a b c : Str} (n : N3 a b c) : Let (knH a b c) knB knW := by
  refine ⟨⟨by show (4 : Nat) ≤ 12; decide, fun p m => ?_⟩, kn_bd⟩
  have lit : ∀ x : Str, (decide (x.length ≤ 100) && x.cps.toList.all (fun c => decide (c < 128))) = true → x.length ≤ 100 ∧ x.cps.toList.all (fun c => decide (c < 128)) = true := fun x h => by
    rw [Bool.and_eq_true] at h; exact ⟨of_decide_eq_true h.1, h.2⟩
  have l1 := lit "from" (by decide +kernel); have l2 := lit "to" (by decide +kernel); have l3 := lit "about" (by decide +kernel)
  have l4 := lit "Re X-ray" (by decide +kernel); have l5 := lit "more" (by decide +kernel)
  have la := adr_len n.ox n.oy; have lt := to_len n
  unfold knH at m
  simp only [List.mem_cons, List.not_mem_nil, or_false] at m
  rcases m with rfl | rfl | rfl | rfl
  · exact ⟨⟨l1.1, by show (adr a b).length ≤ 100; omega⟩, l1.2, asc_of2 fun c m => (adr_sp n.ox n.oy c m).2⟩
  · refine ⟨⟨l2.1, by show (toT a b c).length ≤ 100; omega⟩, l2.2, asc_of2 fun x m => ?_⟩
    have m : x ∈ TL.tl (adr c b ++ (" " : Str) ++ adr a a) := m
    rw [TL.tl_append, TL.tl_append] at m
    rcases List.mem_append.mp m with m | m
    · rcases List.mem_append.mp m with m | m
      · exact (adr_sp n.oz n.oy x m).2
      · have : ∀ x ∈ TL.tl (" " : Str), x < 128 := fun x m => by
          have key : (TL.tl (" " : Str)).all (fun c => decide (c < 128)) = true := by decide +kernel
          exact of_decide_eq_true (List.all_eq_true.mp key x m)
        exact this x m
    · exact (adr_sp n.ox n.ox x m).2
  · exact ⟨⟨l3.1, l4.1⟩, l3.2, l4.2⟩
  · exact ⟨⟨l3.1, l5.1⟩, l3.2, l5.2⟩
theorem signs_w (hk : KOk κ) {x : Str} (hl : x.length ≤ 100000) (h : q (.d (.tuple ((ords x).map .int))) κ) : wO (m__law_signs [.d (.str x)] κ) q := by
  unfold m__law_signs
  walk_at "w"
  refine ords_lc (j := 0) (fun c q g => ?_) hl ?_
  · walk_at "w"
    exact g
  · rw [fz_n, wTupleN]
    exact (finD0 (q := q) hk rfl).mpr h
theorem to_asc {a b c : Str} : c ++ ("@" : Str) ++ b ++ (" " : Str) ++ a ++ ("@" : Str) ++ a = toT a b c := by
  refine TL.ext_tl ?_
  unfold toT adr
  simp only [TL.tl_append, List.append_assoc]
theorem known_w (hk : KOk κ) (n : N3 a b c) (h : q (.d (letD (knH a b c) knB)) κ) : wO (m__law_known [.d (.str a), .d (.str b), .d (.str c)] κ) q := by
  unfold m__law_known
  have la := n.ox.1; have lb := n.oy.1; have lc := n.oz.1
  have l1 : ("@" : Str).length = 1 := by decide +kernel
  have l2 : (" " : Str).length = 1 := by decide +kernel
  have l3 : ("m" : Str).length = 1 := by decide +kernel
  have l4 : ("Zeta=ab\n9to5 " : Str).length = 13 := by decide +kernel
  walk_at "w"
  refine ⟨⟨by decide, by decide, by rw [l3]; decide⟩, ?_⟩
  rw [show repS ("m" : Str) (14 : Int).toNat = "mmmmmmmmmmmmmm" by decide +kernel]
  refine ⟨by decide +kernel, ?_⟩
  rw [show ("Zeta=ab\n9to5 " : Str) ++ ("mmmmmmmmmmmmmm" : Str) = zeT by decide +kernel]
  refine signs_w hk (by decide +kernel) ?_
  walk_at "t"
  refine ⟨by omega, by simp only [strLen_append]; omega, by omega, by simp only [strLen_append]; omega, by simp only [strLen_append]; omega, by simp only [strLen_append]; omega, by simp only [strLen_append]; omega, by simp only [strLen_append]; omega, ?_⟩
  refine signs_w hk (by decide +kernel) ?_
  walk_at "t"
  rw [to_asc]
  exact (finD0 (q := q) hk rfl).mpr h
theorem fh_cons {m : Str} {p : Str × Str} {r : List (Str × Str)} : firstH m (p :: r) = if (p.1 == m) = true then .str p.2 else firstH m r := rfl
theorem fh_about : firstH "about" (knH a b c) = .str "Re X-ray" := by
  unfold knH
  rw [fh_cons, if_neg (show ¬ (("from" : Str) == "about") = true by decide +kernel), fh_cons, if_neg (show ¬ (("to" : Str) == "about") = true by decide +kernel), fh_cons, if_pos (show (("about" : Str) == "about") = true by decide +kernel)]
theorem fh_auto : firstH "auto" (knH a b c) = .none := by
  unfold knH
  rw [fh_cons, if_neg (show ¬ (("from" : Str) == "auto") = true by decide +kernel), fh_cons, if_neg (show ¬ (("to" : Str) == "auto") = true by decide +kernel), fh_cons, if_neg (show ¬ (("about" : Str) == "auto") = true by decide +kernel), fh_cons, if_neg (show ¬ (("about" : Str) == "auto") = true by decide +kernel)]
  rfl
theorem fh_to : firstH "to" (knH a b c) = .str (toT a b c) := by
  unfold knH
  rw [fh_cons, if_neg (show ¬ (("from" : Str) == "to") = true by decide +kernel), fh_cons, if_pos (show (("to" : Str) == "to") = true by decide +kernel)]
theorem fh_from : firstH "from" (knH a b c) = .str (adr a b) := by
  unfold knH
  rw [fh_cons, if_pos (show (("from" : Str) == "from") = true by decide +kernel)]
theorem sortedL_of {xs ys : List Str} (e : (onceL [] xs).Perm ys) (h : ys.Pairwise fun a b => txtLe a b = true) : sortedL xs = ys := by
  unfold sortedL
  rw [sortS_perm e]
  unfold sortS
  exact List.mergeSort_of_pairwise h
def toldL : List Str := ["9to5", "a", "ab", "b", "mmmmmmmmmmmm", "one", "ray", "re", "s", "x", "zeta"]
theorem kn_words : sortedL (allW (knH a b c) knW) = toldL := by
  unfold allW aboutW
  rw [fh_about]
  exact sortedL_of (by decide +kernel) (by decide +kernel)
theorem ev_word {w : Str} : evT (knH a b c) knW (.word w) = toldL.any (· == w) := by
  show (sortedL (allW (knH a b c) knW)).any (· == w) = _
  rw [kn_words]
theorem ev_abt {t : Str} : evT (knH a b c) knW (.abt t) = subT t "Re X-ray" := by
  show evS (firstH "about" (knH a b c)) _ = _
  rw [fh_about]; rfl
theorem ev_auto : evT (knH a b c) knW .auto = false := by
  show evS (firstH "auto" (knH a b c)) _ = _
  rw [fh_auto]; rfl
theorem ev_lng {i : Int} : evT (knH a b c) knW (.lng i) = decide (i < 37) := by
  show decide (i < tot knW) = _
  rw [show tot knW = 37 by decide +kernel]
theorem ev_frm (n : N3 a b c) {x y : Str} (hx : nmOk x) : evT (knH a b c) knW (.frm x y) = (a == x && b == y) := by
  show evS (firstH "from" (knH a b c)) _ = _
  rw [fh_from]
  exact adr_eq n.ox hx
theorem ev_to (n : N3 a b c) {x y : Str} (hx : nmOk x) : evT (knH a b c) knW (.to x y) = ((c == x && b == y) || (a == x && a == y)) := by
  show evS (firstH "to" (knH a b c)) _ = _
  rw [fh_to]
  show (Txt.split (adr c b ++ (" " : Str) ++ adr a a) (" " : Str)).any (· == adr x y) = _
  rw [split2 (fun x m => (adr_sp n.oz n.oy x m).1) (fun x m => (adr_sp n.ox n.ox x m).1)]
  show ((adr c b == adr x y) || ((adr a a == adr x y) || false)) = _
  rw [adr_eq n.oz hx, adr_eq n.ox hx, Bool.or_false]
end

end Law

namespace Law
open DL L2 PyProof.Rows PySem PySem.Spec
local macro_rules | `(tactic| walk_at "w") => `(tactic| simp only [wDef0, wDef1, wDef2, wDef3, List.replicate, Nat.reduceSub, wSeq, wIf, wTb, wTr, wBin, wUn, wVar, wC, wCal, wCall, wCallK, wNil, wCons, wConsC, wLst, wTup, wNotT, wAndT, wOrT, wAnd, wOr, wNotE, wIfE, wChain, wNext, wSet, wSetC, wRet, wDrop, wAsg, wPar, wFor, wLc, wYes, wSl, wNoP, wPt, wRng1, wSrcA, wSrcS, wIsI, wIsI2, wCm, wMs, wRev, wPar3, wPar3k, wZipA, wZipLL, Option.bind_some, wDivm, wDget, wPNil, wPCons, wDisp, wDin, wDinS, wEqS, wEqB, wEqNS, wIsN, wInC, wOrdC, wInT, wInNT, wNinT, wNinNT, ix0, ix1,
  wOpt, tK_some, bK_some, bK_le, bK_lt, wGtI, wLtI, wLeI, wGeI, wModI, wFdivI, wMulI, wAddI, wSubI, wEqI, wNeI, wSlL, wSlN, wSlT, wSlS, wLenL, wLenT, wLenS, wIntT, wTupleN, wMin2, wAddNN, wAddLN, wAddNL, wAddLL, wAddTT, wAddSS, wMulN, wMulT, wMulS, fz_d, fz_n, fz_c, allD, put, truD, bName, bTup, bCons, bNil, wipeR,
  List.getElem?_cons_zero, List.getElem?_cons_succ, List.set_cons_zero, List.set_cons_succ, List.length_set, List.length_cons, List.length_nil, Option.map_some, Option.map_none, if_true, Bool.false_eq_true, if_false, Bool.not_true, Bool.not_false, List.map_cons, List.map_nil, true_and, and_true, Nat.reduceAdd, Nat.reduceLeDiff])
local macro_rules | `(tactic| walk_at "b") => `(tactic| simp (disch := assumption) only [ixB0, ixB1, ixB2, DL.subB0, DL.subB2, Option.bind_some, wDef0, wDef1, wDef2, wDef3, List.replicate, Nat.reduceSub, wSeq, wIf, wTb, wTr, wBin, wUn, wVar, wC, wCal, wCall, wCallK, wNil, wCons, wConsC, wLst, wTup, wNotT, wAndT, wOrT, wAnd, wOr, wNotE, wIfE, wChain, wNext, wSet, wSetC, wRet, wDrop, wAsg, wPar, wFor, wLc, wYes, wSl, wNoP, wPt, wRng1, wSrcA, wSrcS, wIsI, wIsI2, wCm, wMs, wRev, wPar3, wPar3k, wZipA, wZipLL, Option.bind_some, wDivm, wDget, wPNil, wPCons, wDisp, wDin, wDinS, wEqS, wEqB, wEqNS, wIsN, wInC, wOrdC, wInT, wInNT, wNinT, wNinNT, ix0, ix1,
  wOpt, tK_some, bK_some, bK_le, bK_lt, wGtI, wLtI, wLeI, wGeI, wModI, wFdivI, wMulI, wAddI, wSubI, wEqI, wNeI, wSlL, wSlN, wSlT, wSlS, wLenL, wLenT, wLenS, wIntT, wTupleN, wMin2, wAddNN, wAddLN, wAddNL, wAddLL, wAddTT, wAddSS, wMulN, wMulT, wMulS, fz_d, fz_n, fz_c, allD, put, truD, bName, bTup, bCons, bNil, wipeR,
  List.getElem?_cons_zero, List.getElem?_cons_succ, List.set_cons_zero, List.set_cons_succ, List.length_set, List.length_cons, List.length_nil, Option.map_some, Option.map_none, if_true, Bool.false_eq_true, if_false, Bool.not_true, Bool.not_false, List.map_cons, List.map_nil, true_and, and_true, Nat.reduceAdd, Nat.reduceLeDiff])
local macro_rules | `(tactic| walk_at "t") => `(tactic| (try walk_at "w"))
local macro_rules | `(tactic| walk_at "x") => `(tactic| simp (maxSteps := 4000000) only [wDef0, wDef1, wDef2, wDef3, List.replicate, Nat.reduceSub, wSeq, wIf, wTb, wTr, wBin, wUn, wVar, wC, wCal, wCall, wCallK, wNil, wCons, wConsC, wLst, wTup, wNotT, wAndT, wOrT, wAnd, wOr, wNotE, wIfE, wChain, wNext, wSet, wSetC, wRet, wDrop, wAsg, wPar, wFor, wLc, wYes, wSl, wNoP, wPt, wRng1, wSrcA, wSrcS, wIsI, wIsI2, wCm, wMs, wRev, wPar3, wPar3k, wZipA, wZipLL, Option.bind_some, wDivm, wDget, wPNil, wPCons, wDisp, wDin, wDinS, wEqS, wEqB, wEqNS, wIsN, wInC, wOrdC, wInT, wInNT, wNinT, wNinNT, ix0, ix1,
  wOpt, tK_some, bK_some, bK_le, bK_lt, wGtI, wLtI, wLeI, wGeI, wModI, wFdivI, wMulI, wAddI, wSubI, wEqI, wNeI, wSlL, wSlN, wSlT, wSlS, wLenL, wLenT, wLenS, wIntT, wTupleN, wMin2, wAddNN, wAddLN, wAddNL, wAddLL, wAddTT, wAddSS, wMulN, wMulT, wMulS, fz_d, fz_n, fz_c, allD, put, truD, bName, bTup, bCons, bNil, wipeR,
  List.getElem?_cons_zero, List.getElem?_cons_succ, List.set_cons_zero, List.set_cons_succ, List.length_set, List.length_cons, List.length_nil, Option.map_some, Option.map_none, if_true, Bool.false_eq_true, if_false, Bool.not_true, Bool.not_false, List.map_cons, List.map_nil, true_and, and_true, Nat.reduceAdd, Nat.reduceLeDiff])
section
variable {κ : Kap} {j N : Nat} {a b c : Str} {q Q : DV → Kap → Prop} {d : PyData} {hs : List (Str × Str)} {bd : PyData} {ws : List (List Int)}
theorem wDef4 {nl : Nat} {s : MS} {x y z w : DV} : wO (mDef 4 nl s [x, y, z, w] κ) q = wP (s (some x :: some y :: some z :: some w :: List.replicate (nl - 4) none) κ) { nx := fun ρ κ' => wO (fin κ.length (.nx ρ κ')) q, rt := fun x κ' => wO (fin κ.length (.rt x κ')) q } := wDef rfl
theorem wIsB {x y : Bool} : wO (opt κ (isD κ (.d (.bool x)) (.d (.bool y)))) q = q (.d (.bool (decide (x = y)))) κ := propext Iff.rfl
theorem gd_ts3' {t : Ts} (h : tsOk 3 t) : Gd 65536 200000 9 (tsD t) := (gd_ts 3 h).up (by decide) (by decide)
theorem tests_lc {v : Bool} (hk : KOk κ) (L : Let hs bd ws) (ts : List Ts) (ok : ∀ t ∈ ts, tsOk 3 t ∧ evT hs ws t = v) (hn : ts.length ≤ 1000) {ρ : Rho} (h8 : 8 < ρ.length) (h0 : ρ[0]? = some (some (.d (letD hs bd)))) (h : q (.n (ts.map fun _ => .bool true)) κ) :
    wO (lcGo (bName 8) mYes (mBin isD (mCall m_holds (mCons (mVar 8) (mCons (mVar 0) mNil))) (mC (.bool v))) ρ (ts.map tsD) [] κ) q := by
  refine lcPure (F := fun _ => .bool true) (fun d md => ?_) (by rw [List.length_map, List.length_nil]; omega) (by rw [List.nil_append, List.map_map]; exact h)
  obtain ⟨t, mt, rfl⟩ := List.mem_map.mp md
  obtain ⟨o, e⟩ := ok t mt
  refine ⟨ρ.set 8 (some (.d (tsD t))), rfl, fun q hq => ?_⟩
  have g8 : (ρ.set 8 (some (.d (tsD t))))[8]? = some (some (.d (tsD t))) := by
    rw [List.getElem?_set_self h8]
  have g0 : (ρ.set 8 (some (.d (tsD t))))[0]? = some (some (.d (letD hs bd))) := by
    rw [List.getElem?_set_ne (by decide)]; exact h0
  simp only [wBin, wCall, wCons, wNil, wVar, g8, g0, wC]
  refine holds_w hk L o (by decide) (gd_ts3' o) (tup_ts t) L.gd L.tup ?_
  walk_at "t"
  rw [wIsB, e, decide_eq_true rfl]
  exact hq
theorem allT {ts : List Ts} (h : q (.d (.bool true)) κ) : wO (opt κ (lstD allF κ [.d (.list (ts.map fun _ => PyData.bool true))])) q := by
  have := all_w (κ := κ) (q := q) (ds := ts.map fun _ => PyData.none) (P := fun _ => true) (by rw [show (ts.map fun _ => PyData.none).all (fun _ => true) = true by induction ts <;> simp_all]; exact h)
  rw [List.map_map] at this
  exact this
def rightT (a b c : Str) : List Ts := [.frm a b, .to c b, .to a a, .abt "X-r", .word "zeta", .lng 36]
def wrongT (a b c : Str) : List Ts := [.frm b a, .to a b, .abt "x-r", .abt "more", .word "zet", .lng 37, .auto, .word "mmmmmmmmmmm", .abt "deep"]
def someT (a b c : Str) : List Ts := [.both (.frm a b) (.no (.frm b a)), .any (.frm b a) (.word "zeta"), .no (.both (.frm a b) (.to a b))]
theorem ascB {n : Nat} {x : Str} (h : (decide (x.length ≤ n) && x.cps.toList.all (fun c => decide (c < 128))) = true) : ascL n x := by
  rw [Bool.and_eq_true] at h; exact ⟨of_decide_eq_true h.1, h.2⟩
theorem right_ok (n : N3 a b c) : ∀ t ∈ rightT a b c, tsOk 3 t ∧ evT (knH a b c) knW t = true := by
  have oa := nm_asc n.ox (show 8 ≤ 12 by decide); have ob := nm_asc n.oy (show 8 ≤ 12 by decide); have oc := nm_asc n.oz (show 8 ≤ 12 by decide)
  intro t m
  unfold rightT at m
  simp only [List.mem_cons, List.not_mem_nil, or_false] at m
  rcases m with rfl | rfl | rfl | rfl | rfl | rfl
  · exact ⟨⟨oa, ob⟩, by rw [ev_frm n n.ox]; simp⟩
  · exact ⟨⟨oc, ob⟩, by rw [ev_to n n.oz]; simp⟩
  · exact ⟨⟨oa, oa⟩, by rw [ev_to n n.ox]; simp⟩
  · exact ⟨ascB (by decide +kernel), by rw [ev_abt]; decide +kernel⟩
  · exact ⟨ascB (by decide +kernel), by rw [ev_word]; decide +kernel⟩
  · exact ⟨by show (0 : Int) ≤ 36 ∧ (36 : Int) ≤ 9999; decide, by rw [ev_lng]; decide⟩
theorem wrong_ok (n : N3 a b c) : ∀ t ∈ wrongT a b c, tsOk 3 t ∧ evT (knH a b c) knW t = false := by
  have oa := nm_asc n.ox (show 8 ≤ 12 by decide); have ob := nm_asc n.oy (show 8 ≤ 12 by decide); have oc := nm_asc n.oz (show 8 ≤ 12 by decide)
  have ab := beq_eq_false_iff_ne.mpr n.xy
  have ac := beq_eq_false_iff_ne.mpr n.xz.symm
  intro t m
  unfold wrongT at m
  simp only [List.mem_cons, List.not_mem_nil, or_false] at m
  rcases m with rfl | rfl | rfl | rfl | rfl | rfl | rfl | rfl | rfl
  · exact ⟨⟨ob, oa⟩, by rw [ev_frm n n.oy, ab]; rfl⟩
  · exact ⟨⟨oa, ob⟩, by rw [ev_to n n.ox, ac, ab]; simp⟩
  · exact ⟨ascB (by decide +kernel), by rw [ev_abt]; decide +kernel⟩
  · exact ⟨ascB (by decide +kernel), by rw [ev_abt]; decide +kernel⟩
  · exact ⟨ascB (by decide +kernel), by rw [ev_word]; decide +kernel⟩
  · exact ⟨by show (0 : Int) ≤ 37 ∧ (37 : Int) ≤ 9999; decide, by rw [ev_lng]; decide⟩
  · exact ⟨True.intro, ev_auto⟩
  · exact ⟨ascB (by decide +kernel), by rw [ev_word]; decide +kernel⟩
  · exact ⟨ascB (by decide +kernel), by rw [ev_abt]; decide +kernel⟩
theorem some_ok (n : N3 a b c) : ∀ t ∈ someT a b c, tsOk 3 t ∧ evT (knH a b c) knW t = true := by
  have R := right_ok n
  have W := wrong_ok n
  have oa := nm_asc n.ox (show 8 ≤ 12 by decide); have ob := nm_asc n.oy (show 8 ≤ 12 by decide); have oc := nm_asc n.oz (show 8 ≤ 12 by decide)
  have e1 := (R (.frm a b) (by unfold rightT; simp)).2
  have e2 := (W (.frm b a) (by unfold wrongT; simp)).2
  have e3 := (R (.word "zeta") (by unfold rightT; simp)).2
  have e4 := (W (.to a b) (by unfold wrongT; simp)).2
  intro t m
  unfold someT at m
  simp only [List.mem_cons, List.not_mem_nil, or_false] at m
  rcases m with rfl | rfl | rfl
  · exact ⟨⟨⟨oa, ob⟩, ⟨ob, oa⟩⟩, by show (evT _ _ (.frm a b) && !evT _ _ (.frm b a)) = true; rw [e1, e2]; rfl⟩
  · exact ⟨⟨⟨ob, oa⟩, ascB (by decide +kernel)⟩, by show (evT _ _ (.frm b a) || evT _ _ (.word "zeta")) = true; rw [e2, e3]; rfl⟩
  · exact ⟨⟨⟨oa, ob⟩, ⟨oa, ob⟩⟩, by show (!(evT _ _ (.frm a b) && evT _ _ (.to a b))) = true; rw [e1, e4]; rfl⟩
theorem au_let : Let [("auto", "")] (wdD []) [[]] := by
  refine ⟨⟨by decide, fun p m => ?_⟩, bd_words (by decide)⟩
  rw [List.mem_singleton.mp m]
  have key : (decide (("auto" : Str).length ≤ 100) && decide (("" : Str).length ≤ 100) && ("auto" : Str).cps.toList.all (fun c => decide (c < 128)) && ("" : Str).cps.toList.all (fun c => decide (c < 128))) = true := by decide +kernel
  simp only [Bool.and_eq_true, decide_eq_true_eq] at key
  exact ⟨key.1.1, key.1.2, key.2⟩
theorem ixL0 {x : PyData} {r : List PyData} : ixD κ (.d (.list (x :: r))) (.d (.int 0)) = some (.d x) := by
  show (atI (x :: r) 0).map DV.d = _
  unfold atI ixN
  rw [if_pos (Int.le_refl 0), if_pos (by rw [List.length_cons]; omega)]; rfl
theorem ixL1 {x y : PyData} {r : List PyData} : ixD κ (.d (.list (x :: y :: r))) (.d (.int 1)) = some (.d y) := by
  show (atI (x :: y :: r) 1).map DV.d = _
  unfold atI ixN
  rw [if_pos (by decide), if_pos (by simp only [List.length_cons]; omega)]; rfl
theorem ixL4 {x y z u v : PyData} {r : List PyData} : ixD κ (.d (.list (x :: y :: z :: u :: v :: r))) (.d (.int 4)) = some (.d v) := by
  show (atI (x :: y :: z :: u :: v :: r) 4).map DV.d = _
  unfold atI ixN
  rw [if_pos (by decide), if_pos (by simp only [List.length_cons]; omega)]; rfl
theorem tests_right_w (hk : KOk κ) (n : N3 a b c) (h : q (.d (.bool true)) κ) : wO (m__law_tests_right [.d (letD (knH a b c) knB), .d (.str a), .d (.str b), .d (.str c)] κ) q := by
  have L := kn_let n
  unfold m__law_tests_right
  have l3 : ("m" : Str).length = 1 := by decide +kernel
  rw [wDef4]
  walk_at "x"
  refine ⟨⟨by decide, by decide, by rw [l3]; decide⟩, ?_⟩
  rw [show repS ("m" : Str) (12 : Int).toNat = "mmmmmmmmmmmm" by decide +kernel]
  refine words_of_w hk L L.gd L.tup ?_
  walk_at "t"
  unfold m__law_same
  rw [kn_words]
  refine same_strs 10 (xs := toldL) (by decide) hk ?_
  walk_at "t"
  refine ⟨⟨by decide, by decide, by rw [l3]; decide⟩, ?_⟩
  rw [show repS ("m" : Str) (11 : Int).toNat = "mmmmmmmmmmm" by decide +kernel]
  refine tests_lc (v := true) hk L (rightT a b c) (right_ok n) (show (6 : Nat) ≤ 1000 by decide) (show 8 < 9 by decide) rfl ?_
  rw [fz_n]
  refine allT ?_
  walk_at "x"
  refine tests_lc (v := false) hk L (wrongT a b c) (wrong_ok n) (show (9 : Nat) ≤ 1000 by decide) (show 8 < 9 by decide) rfl ?_
  rw [fz_n]
  refine allT ?_
  walk_at "x"
  refine holds_w hk au_let (t := .auto) (k := 1) True.intro (by decide) (gd_ts3' (t := .auto) True.intro) (tup_ts .auto) au_let.gd au_let.tup ?_
  rw [show evT [("auto", "")] [[]] .auto = true by decide +kernel]
  walk_at "t"
  rw [wIsnT]
  simp only [List.cons_append, List.nil_append, ixL0, ixL1, ixL4]
  walk_at "x"
  refine tests_lc (v := true) hk L (someT a b c) (some_ok n) (show (3 : Nat) ≤ 1000 by decide) (show 8 < 9 by decide) rfl ?_
  rw [fz_n]
  refine allT ?_
  exact (finD0 (q := q) hk rfl).mpr h
end

end Law

namespace Law
open DL L2 PyProof.Rows PySem PySem.Spec
local macro_rules | `(tactic| walk_at "w") => `(tactic| simp only [wDef0, wDef1, wDef2, wDef3, List.replicate, Nat.reduceSub, wSeq, wIf, wTb, wTr, wBin, wUn, wVar, wC, wCal, wCall, wCallK, wNil, wCons, wConsC, wLst, wTup, wNotT, wAndT, wOrT, wAnd, wOr, wNotE, wIfE, wChain, wNext, wSet, wSetC, wRet, wDrop, wAsg, wPar, wFor, wLc, wYes, wSl, wNoP, wPt, wRng1, wSrcA, wSrcS, wIsI, wIsI2, wCm, wMs, wRev, wPar3, wPar3k, wZipA, wZipLL, Option.bind_some, wDivm, wDget, wPNil, wPCons, wDisp, wDin, wDinS, wEqS, wEqB, wEqNS, wIsN, wInC, wOrdC, wInT, wInNT, wNinT, wNinNT, ix0, ix1,
  wOpt, tK_some, bK_some, bK_le, bK_lt, wGtI, wLtI, wLeI, wGeI, wModI, wFdivI, wMulI, wAddI, wSubI, wEqI, wNeI, wSlL, wSlN, wSlT, wSlS, wLenL, wLenT, wLenS, wIntT, wTupleN, wMin2, wAddNN, wAddLN, wAddNL, wAddLL, wAddTT, wAddSS, wMulN, wMulT, wMulS, fz_d, fz_n, fz_c, allD, put, truD, bName, bTup, bCons, bNil, wipeR,
  List.getElem?_cons_zero, List.getElem?_cons_succ, List.set_cons_zero, List.set_cons_succ, List.length_set, List.length_cons, List.length_nil, Option.map_some, Option.map_none, if_true, Bool.false_eq_true, if_false, Bool.not_true, Bool.not_false, List.map_cons, List.map_nil, true_and, and_true, Nat.reduceAdd, Nat.reduceLeDiff])
local macro_rules | `(tactic| walk_at "b") => `(tactic| simp (disch := assumption) only [ixB0, ixB1, ixB2, DL.subB0, DL.subB2, Option.bind_some, wDef0, wDef1, wDef2, wDef3, List.replicate, Nat.reduceSub, wSeq, wIf, wTb, wTr, wBin, wUn, wVar, wC, wCal, wCall, wCallK, wNil, wCons, wConsC, wLst, wTup, wNotT, wAndT, wOrT, wAnd, wOr, wNotE, wIfE, wChain, wNext, wSet, wSetC, wRet, wDrop, wAsg, wPar, wFor, wLc, wYes, wSl, wNoP, wPt, wRng1, wSrcA, wSrcS, wIsI, wIsI2, wCm, wMs, wRev, wPar3, wPar3k, wZipA, wZipLL, Option.bind_some, wDivm, wDget, wPNil, wPCons, wDisp, wDin, wDinS, wEqS, wEqB, wEqNS, wIsN, wInC, wOrdC, wInT, wInNT, wNinT, wNinNT, ix0, ix1,
  wOpt, tK_some, bK_some, bK_le, bK_lt, wGtI, wLtI, wLeI, wGeI, wModI, wFdivI, wMulI, wAddI, wSubI, wEqI, wNeI, wSlL, wSlN, wSlT, wSlS, wLenL, wLenT, wLenS, wIntT, wTupleN, wMin2, wAddNN, wAddLN, wAddNL, wAddLL, wAddTT, wAddSS, wMulN, wMulT, wMulS, fz_d, fz_n, fz_c, allD, put, truD, bName, bTup, bCons, bNil, wipeR,
  List.getElem?_cons_zero, List.getElem?_cons_succ, List.set_cons_zero, List.set_cons_succ, List.length_set, List.length_cons, List.length_nil, Option.map_some, Option.map_none, if_true, Bool.false_eq_true, if_false, Bool.not_true, Bool.not_false, List.map_cons, List.map_nil, true_and, and_true, Nat.reduceAdd, Nat.reduceLeDiff])
local macro_rules | `(tactic| walk_at "t") => `(tactic| (try walk_at "w"))
local macro_rules | `(tactic| walk_at "x") => `(tactic| simp (maxSteps := 4000000) only [wDef0, wDef1, wDef2, wDef3, List.replicate, Nat.reduceSub, wSeq, wIf, wTb, wTr, wBin, wUn, wVar, wC, wCal, wCall, wCallK, wNil, wCons, wConsC, wLst, wTup, wNotT, wAndT, wOrT, wAnd, wOr, wNotE, wIfE, wChain, wNext, wSet, wSetC, wRet, wDrop, wAsg, wPar, wFor, wLc, wYes, wSl, wNoP, wPt, wRng1, wSrcA, wSrcS, wIsI, wIsI2, wCm, wMs, wRev, wPar3, wPar3k, wZipA, wZipLL, Option.bind_some, wDivm, wDget, wPNil, wPCons, wDisp, wDin, wDinS, wEqS, wEqB, wEqNS, wIsN, wInC, wOrdC, wInT, wInNT, wNinT, wNinNT, ix0, ix1,
  wOpt, tK_some, bK_some, bK_le, bK_lt, wGtI, wLtI, wLeI, wGeI, wModI, wFdivI, wMulI, wAddI, wSubI, wEqI, wNeI, wSlL, wSlN, wSlT, wSlS, wLenL, wLenT, wLenS, wIntT, wTupleN, wMin2, wAddNN, wAddLN, wAddNL, wAddLL, wAddTT, wAddSS, wMulN, wMulT, wMulS, fz_d, fz_n, fz_c, allD, put, truD, bName, bTup, bCons, bNil, wipeR,
  List.getElem?_cons_zero, List.getElem?_cons_succ, List.set_cons_zero, List.set_cons_succ, List.length_set, List.length_cons, List.length_nil, Option.map_some, Option.map_none, if_true, Bool.false_eq_true, if_false, Bool.not_true, Bool.not_false, List.map_cons, List.map_nil, true_and, and_true, Nat.reduceAdd, Nat.reduceLeDiff])
section
variable {κ : Kap} {j N : Nat} {a b c : Str} {q Q : DV → Kap → Prop} {d : PyData} {hs : List (Str × Str)} {bd : PyData} {ws : List (List Int)}
/-! ### the rules -/
abbrev yT : Ts := .word "one"
def R1 (a b c : Str) : List Rl := [(yT, [.file a, .stop, .drop]), (yT, [.mark b])]
def R2 (a b c : Str) : List Rl := [(yT, [.file a, .mark b, .drop, .stop]), (yT, [.mark c])]
def R3 (a b c : Str) : List Rl := [(yT, [.file a, .file c]), (.auto, [.drop]), (yT, [.file a, .file b])]
def R4 : List Rl := [(yT, [.ans "x", .ans "y", .ans "x"]), (yT, [.ans "x"])]
def R5 (a b c : Str) : List Rl := [(yT, [.on a b]), (yT, [.on a b, .on c b])]
def R6 (a b c : Str) : List Rl := [(yT, [.on a b, .file c, .drop]), (.auto, [.stop]), (yT, [.mark c])]
def R7 (a b : Str) : List Rl := [(yT, [.mark a]), (.auto, [.file b])]
def rss (a b c : Str) : List (List Rl) := [R1 a b c, R2 a b c, R3 a b c, R4, R5 a b c, R6 a b c, R7 a b]
theorem ev_yes : evT (knH a b c) knW yT = true := by rw [ev_word]; decide +kernel
theorem rs_ok (n : N3 a b c) : ∀ rs ∈ rss a b c, rsOk rs := by
  have ga := nm_asc n.ox (show 8 ≤ 60 by decide); have gb := nm_asc n.oy (show 8 ≤ 60 by decide); have gc := nm_asc n.oz (show 8 ≤ 60 by decide)
  have gx : ascL 60 "x" := ascB (by decide +kernel)
  have gy : ascL 60 "y" := ascB (by decide +kernel)
  have oy : tsOk 3 yT := ascB (n := 40) (by decide +kernel)
  have oo : tsOk 3 .auto := True.intro
  intro rs m
  unfold rss at m
  simp only [List.mem_cons, List.not_mem_nil, or_false] at m
  have one : ∀ (rs : List Rl), rs.length ≤ 4 → (∀ r ∈ rs, tsOk 3 r.1 ∧ r.2.length ≤ 4 ∧ ∀ d ∈ r.2, ddOk d) → rsOk rs := fun rs h g => ⟨h, g⟩
  rcases m with rfl | rfl | rfl | rfl | rfl | rfl | rfl <;> refine one _ (by show _ ≤ 4; first | exact (show (2 : Nat) ≤ 4 by decide) | exact (show (3 : Nat) ≤ 4 by decide)) fun r m => ?_
  all_goals
    simp only [R1, R2, R3, R4, R5, R6, R7, List.mem_cons, List.not_mem_nil, or_false] at m
    first
      | (rcases m with rfl | rfl | rfl)
      | (rcases m with rfl | rfl)
  all_goals
    refine ⟨by assumption, by first | exact (show (1 : Nat) ≤ 4 by decide) | exact (show (2 : Nat) ≤ 4 by decide) | exact (show (3 : Nat) ≤ 4 by decide) | exact (show (4 : Nat) ≤ 4 by decide), fun d m => ?_⟩
    simp only [List.mem_cons, List.not_mem_nil, or_false] at m
    first
      | (rcases m with rfl | rfl | rfl | rfl)
      | (rcases m with rfl | rfl | rfl)
      | (rcases m with rfl | rfl)
      | (subst m)
  all_goals first | assumption | exact True.intro | exact ⟨by assumption, by assumption⟩
theorem eqvS {x y : Str} : PyData.eqv (.str x) (.str y) = (x == y) := by simp [PyData.eqv]
theorem eqvP {x y z w : Str} : PyData.eqv (.tuple [.str x, .str y]) (.tuple [.str z, .str w]) = (x == z && y == w) := by simp [PyData.eqv, PyData.eqvAll]
def E1 (a b c : Str) : PyData := .tuple [.tuple [.str a], .tuple [], .tuple [], .tuple []]
theorem jd1 (n : N3 a b c) : judD (due (knH a b c) knW 0 (R1 a b c)) = E1 a b c := by
  have ab := beq_eq_false_iff_ne.mpr n.xy; have bc := beq_eq_false_iff_ne.mpr n.yz; have ac := beq_eq_false_iff_ne.mpr n.xz
  have ba := beq_eq_false_iff_ne.mpr n.xy.symm; have cb := beq_eq_false_iff_ne.mpr n.yz.symm; have ca := beq_eq_false_iff_ne.mpr n.xz.symm
  have e : due (knH a b c) knW 0 (R1 a b c) = [(0, .file a)] := by simp only [R1, due, ev_yes, ev_auto, upTo, isStop, pr1, if_true, List.map_cons, List.map_nil, List.append_nil, List.nil_append, List.cons_append, Bool.false_eq_true, if_false, reduceIte, Nat.zero_add, Nat.reduceAdd]
  rw [e]; unfold judD boxD E1
  rw [show anyDrop [(0, .file a)] = false by kernel_rfl, show bwD "file" [(0, .file a)] = [.str a] by kernel_rfl, show bwD "mark" [(0, .file a)] = [] by kernel_rfl, show bwD "on" [(0, .file a)] = [] by kernel_rfl, show anD [(0, .file a)] = [] by kernel_rfl]
  simp [onceP, eqvS, eqvP, ab, bc, ac, ba, cb, ca]
def E2 (a b c : Str) : PyData := .tuple [.tuple [], .tuple [.str b], .tuple [], .tuple []]
theorem jd2 (n : N3 a b c) : judD (due (knH a b c) knW 0 (R2 a b c)) = E2 a b c := by
  have ab := beq_eq_false_iff_ne.mpr n.xy; have bc := beq_eq_false_iff_ne.mpr n.yz; have ac := beq_eq_false_iff_ne.mpr n.xz
  have ba := beq_eq_false_iff_ne.mpr n.xy.symm; have cb := beq_eq_false_iff_ne.mpr n.yz.symm; have ca := beq_eq_false_iff_ne.mpr n.xz.symm
  have e : due (knH a b c) knW 0 (R2 a b c) = [(0, .file a), (0, .mark b), (0, .drop)] := by simp only [R2, due, ev_yes, ev_auto, upTo, isStop, pr1, if_true, List.map_cons, List.map_nil, List.append_nil, List.nil_append, List.cons_append, Bool.false_eq_true, if_false, reduceIte, Nat.zero_add, Nat.reduceAdd]
  rw [e]; unfold judD boxD E2
  rw [show anyDrop [(0, .file a), (0, .mark b), (0, .drop)] = true by kernel_rfl, show bwD "mark" [(0, .file a), (0, .mark b), (0, .drop)] = [.str b] by kernel_rfl, show bwD "on" [(0, .file a), (0, .mark b), (0, .drop)] = [] by kernel_rfl, show anD [(0, .file a), (0, .mark b), (0, .drop)] = [] by kernel_rfl]
  simp [onceP, eqvS, eqvP, ab, bc, ac, ba, cb, ca]
def E3 (a b c : Str) : PyData := .tuple [.tuple [.str a, .str c, .str b], .tuple [], .tuple [], .tuple []]
theorem jd3 (n : N3 a b c) : judD (due (knH a b c) knW 0 (R3 a b c)) = E3 a b c := by
  have ab := beq_eq_false_iff_ne.mpr n.xy; have bc := beq_eq_false_iff_ne.mpr n.yz; have ac := beq_eq_false_iff_ne.mpr n.xz
  have ba := beq_eq_false_iff_ne.mpr n.xy.symm; have cb := beq_eq_false_iff_ne.mpr n.yz.symm; have ca := beq_eq_false_iff_ne.mpr n.xz.symm
  have e : due (knH a b c) knW 0 (R3 a b c) = [(0, .file a), (0, .file c), (2, .file a), (2, .file b)] := by simp only [R3, due, ev_yes, ev_auto, upTo, isStop, pr1, if_true, List.map_cons, List.map_nil, List.append_nil, List.nil_append, List.cons_append, Bool.false_eq_true, if_false, reduceIte, Nat.zero_add, Nat.reduceAdd]
  rw [e]; unfold judD boxD E3
  rw [show anyDrop [(0, .file a), (0, .file c), (2, .file a), (2, .file b)] = false by kernel_rfl, show bwD "file" [(0, .file a), (0, .file c), (2, .file a), (2, .file b)] = [.str a, .str c, .str a, .str b] by kernel_rfl, show bwD "mark" [(0, .file a), (0, .file c), (2, .file a), (2, .file b)] = [] by kernel_rfl, show bwD "on" [(0, .file a), (0, .file c), (2, .file a), (2, .file b)] = [] by kernel_rfl, show anD [(0, .file a), (0, .file c), (2, .file a), (2, .file b)] = [] by kernel_rfl]
  simp [onceP, eqvS, eqvP, ab, bc, ac, ba, cb, ca]
def E4 : PyData := .tuple [.tuple [.str "in"], .tuple [], .tuple [], .tuple [.tuple [.int 0, .str "x"], .tuple [.int 0, .str "y"], .tuple [.int 1, .str "x"]]]
theorem jd4 (n : N3 a b c) : judD (due (knH a b c) knW 0 (R4)) = E4 := by
  have ab := beq_eq_false_iff_ne.mpr n.xy; have bc := beq_eq_false_iff_ne.mpr n.yz; have ac := beq_eq_false_iff_ne.mpr n.xz
  have ba := beq_eq_false_iff_ne.mpr n.xy.symm; have cb := beq_eq_false_iff_ne.mpr n.yz.symm; have ca := beq_eq_false_iff_ne.mpr n.xz.symm
  have e : due (knH a b c) knW 0 (R4) = [(0, .ans "x"), (0, .ans "y"), (0, .ans "x"), (1, .ans "x")] := by simp only [R4, due, ev_yes, ev_auto, upTo, isStop, pr1, if_true, List.map_cons, List.map_nil, List.append_nil, List.nil_append, List.cons_append, Bool.false_eq_true, if_false, reduceIte, Nat.zero_add, Nat.reduceAdd]
  rw [e]; unfold judD boxD E4
  rw [show anyDrop [(0, .ans "x"), (0, .ans "y"), (0, .ans "x"), (1, .ans "x")] = false by kernel_rfl, show bwD "file" [(0, .ans "x"), (0, .ans "y"), (0, .ans "x"), (1, .ans "x")] = [] by kernel_rfl, show bwD "mark" [(0, .ans "x"), (0, .ans "y"), (0, .ans "x"), (1, .ans "x")] = [] by kernel_rfl, show bwD "on" [(0, .ans "x"), (0, .ans "y"), (0, .ans "x"), (1, .ans "x")] = [] by kernel_rfl, show anD [(0, .ans "x"), (0, .ans "y"), (0, .ans "x"), (1, .ans "x")] = [.tuple [.int (0 : Nat), .str "x"], .tuple [.int (0 : Nat), .str "y"], .tuple [.int (0 : Nat), .str "x"], .tuple [.int (1 : Nat), .str "x"]] by kernel_rfl]
  rw [show onceP [] [.tuple [.int (0 : Nat), .str "x"], .tuple [.int (0 : Nat), .str "y"], .tuple [.int (0 : Nat), .str "x"], .tuple [.int (1 : Nat), .str "x"]] = [.tuple [.int 0, .str "x"], .tuple [.int 0, .str "y"], .tuple [.int 1, .str "x"]] by kernel_rfl]
  simp [onceP]
def E5 (a b c : Str) : PyData := .tuple [.tuple [], .tuple [], .tuple [.tuple [.str a, .str b], .tuple [.str c, .str b]], .tuple []]
theorem jd5 (n : N3 a b c) : judD (due (knH a b c) knW 0 (R5 a b c)) = E5 a b c := by
  have ab := beq_eq_false_iff_ne.mpr n.xy; have bc := beq_eq_false_iff_ne.mpr n.yz; have ac := beq_eq_false_iff_ne.mpr n.xz
  have ba := beq_eq_false_iff_ne.mpr n.xy.symm; have cb := beq_eq_false_iff_ne.mpr n.yz.symm; have ca := beq_eq_false_iff_ne.mpr n.xz.symm
  have e : due (knH a b c) knW 0 (R5 a b c) = [(0, .on a b), (1, .on a b), (1, .on c b)] := by simp only [R5, due, ev_yes, ev_auto, upTo, isStop, pr1, if_true, List.map_cons, List.map_nil, List.append_nil, List.nil_append, List.cons_append, Bool.false_eq_true, if_false, reduceIte, Nat.zero_add, Nat.reduceAdd]
  rw [e]; unfold judD boxD E5
  rw [show anyDrop [(0, .on a b), (1, .on a b), (1, .on c b)] = false by kernel_rfl, show bwD "file" [(0, .on a b), (1, .on a b), (1, .on c b)] = [] by kernel_rfl, show bwD "mark" [(0, .on a b), (1, .on a b), (1, .on c b)] = [] by kernel_rfl, show bwD "on" [(0, .on a b), (1, .on a b), (1, .on c b)] = [.tuple [.str a, .str b], .tuple [.str a, .str b], .tuple [.str c, .str b]] by kernel_rfl, show anD [(0, .on a b), (1, .on a b), (1, .on c b)] = [] by kernel_rfl]
  simp [onceP, eqvS, eqvP, ab, bc, ac, ba, cb, ca]
def E6 (a b c : Str) : PyData := .tuple [.tuple [], .tuple [.str c], .tuple [.tuple [.str a, .str b]], .tuple []]
theorem jd6 (n : N3 a b c) : judD (due (knH a b c) knW 0 (R6 a b c)) = E6 a b c := by
  have ab := beq_eq_false_iff_ne.mpr n.xy; have bc := beq_eq_false_iff_ne.mpr n.yz; have ac := beq_eq_false_iff_ne.mpr n.xz
  have ba := beq_eq_false_iff_ne.mpr n.xy.symm; have cb := beq_eq_false_iff_ne.mpr n.yz.symm; have ca := beq_eq_false_iff_ne.mpr n.xz.symm
  have e : due (knH a b c) knW 0 (R6 a b c) = [(0, .on a b), (0, .file c), (0, .drop), (2, .mark c)] := by simp only [R6, due, ev_yes, ev_auto, upTo, isStop, pr1, if_true, List.map_cons, List.map_nil, List.append_nil, List.nil_append, List.cons_append, Bool.false_eq_true, if_false, reduceIte, Nat.zero_add, Nat.reduceAdd]
  rw [e]; unfold judD boxD E6
  rw [show anyDrop [(0, .on a b), (0, .file c), (0, .drop), (2, .mark c)] = true by kernel_rfl, show bwD "mark" [(0, .on a b), (0, .file c), (0, .drop), (2, .mark c)] = [.str c] by kernel_rfl, show bwD "on" [(0, .on a b), (0, .file c), (0, .drop), (2, .mark c)] = [.tuple [.str a, .str b]] by kernel_rfl, show anD [(0, .on a b), (0, .file c), (0, .drop), (2, .mark c)] = [] by kernel_rfl]
  simp [onceP, eqvS, eqvP, ab, bc, ac, ba, cb, ca]
def E7 (a b c : Str) : PyData := .tuple [.tuple [.str "in"], .tuple [.str a], .tuple [], .tuple []]
theorem jd7 (n : N3 a b c) : judD (due (knH a b c) knW 0 (R7 a b)) = E7 a b c := by
  have ab := beq_eq_false_iff_ne.mpr n.xy; have bc := beq_eq_false_iff_ne.mpr n.yz; have ac := beq_eq_false_iff_ne.mpr n.xz
  have ba := beq_eq_false_iff_ne.mpr n.xy.symm; have cb := beq_eq_false_iff_ne.mpr n.yz.symm; have ca := beq_eq_false_iff_ne.mpr n.xz.symm
  have e : due (knH a b c) knW 0 (R7 a b) = [(0, .mark a)] := by simp only [R7, due, ev_yes, ev_auto, upTo, isStop, pr1, if_true, List.map_cons, List.map_nil, List.append_nil, List.nil_append, List.cons_append, Bool.false_eq_true, if_false, reduceIte, Nat.zero_add, Nat.reduceAdd]
  rw [e]; unfold judD boxD E7
  rw [show anyDrop [(0, .mark a)] = false by kernel_rfl, show bwD "file" [(0, .mark a)] = [] by kernel_rfl, show bwD "mark" [(0, .mark a)] = [.str a] by kernel_rfl, show bwD "on" [(0, .mark a)] = [] by kernel_rfl, show anD [(0, .mark a)] = [] by kernel_rfl]
  simp [onceP, eqvS, eqvP, ab, bc, ac, ba, cb, ca]
theorem gd_list2 {N W D W' D' : Nat} {x y : PyData} (h : Gd N W D x) (h' : Gd N W' D' y) : Gd N (W + 1 + (W' + 1)) (max D D' + 1) (.list [x, y]) := by
  refine ⟨?_, ?_, ?_⟩
  · simp [gd, gdAll, h.g, h'.g]
  · have := h.w; have := h'.w
    simp only [PyData.bulk, PyData.bulkAll]; omega
  · have := h.p; have := h'.p
    simp only [PyData.depth, PyData.depthAll]; omega
theorem gd_dd {d : Dd} (h : ddOk d) : Gd 65536 300 2 (ddD d) ∧ tupF (ddD d) = ddD d := by
  have gs : ∀ (n : Nat) {x : Str}, ascL n x → Gd 65536 n 0 (.str x) := fun n x h => gd_str h.1 h.2
  have w6 : ∀ x : Str, (decide (x.length ≤ 6) && x.cps.toList.all (fun c => decide (c < 128))) = true → Gd 65536 6 0 (.str x) := fun x h => gs 6 ⟨of_decide_eq_true (Bool.and_eq_true _ _ ▸ h).1, (Bool.and_eq_true _ _ ▸ h).2⟩
  cases d with
  | file n => exact ⟨(Gd.pair (w6 "file" (by decide +kernel)) (gs 60 h)).up (by decide) (by decide), by simp only [ddD, tupF, tupFs]⟩
  | mark n => exact ⟨(Gd.pair (w6 "mark" (by decide +kernel)) (gs 60 h)).up (by decide) (by decide), by simp only [ddD, tupF, tupFs]⟩
  | on x y => exact ⟨(Gd.pair (w6 "on" (by decide +kernel)) (Gd.pair (gs 60 h.1) (gs 60 h.2))).up (by decide) (by decide), by simp only [ddD, tupF, tupFs]⟩
  | ans t => exact ⟨(Gd.pair (w6 "answer" (by decide +kernel)) (gs 60 h)).up (by decide) (by decide), by simp only [ddD, tupF, tupFs]⟩
  | drop => exact ⟨⟨by decide +kernel, by decide +kernel, by decide +kernel⟩, by simp only [ddD, tupF, tupFs]⟩
  | stop => exact ⟨⟨by decide +kernel, by decide +kernel, by decide +kernel⟩, by simp only [ddD, tupF, tupFs]⟩
theorem tupFs_id {xs : List PyData} (h : ∀ x ∈ xs, tupF x = x) : tupFs xs = xs := by
  induction xs with
  | nil => rw [tupFs]
  | cons x r ih => rw [tupFs, h x List.mem_cons_self, ih fun y m => h y (List.mem_cons_of_mem _ m)]
theorem gd_rs {rs : List Rl} (ok : rsOk rs) : Gd 65536 30000 6 (rsD rs) ∧ tupF (rsD rs) = rsD rs := by
  have one : ∀ r ∈ rs, Gd 65536 3000 5 (rlD r) ∧ tupF (rlD r) = rlD r := fun r m => by
    obtain ⟨o1, o2, o3⟩ := ok.2 r m
    have g2 : Gd 65536 (4 * 301) 3 (.tuple (r.2.map ddD)) := Gd.tup (fun x mx => by
      obtain ⟨d, md, rfl⟩ := List.mem_map.mp mx
      exact (gd_dd (o3 d md)).1) (by rw [List.length_map]; exact o2)
    refine ⟨(Gd.pair (gd_ts 3 o1) g2).up (by decide) (by decide), ?_⟩
    unfold rlD
    rw [tupF, tupFs, tupFs, tupFs, tup_ts, tupF, tupFs_id fun x mx => by
      obtain ⟨d, md, rfl⟩ := List.mem_map.mp mx
      exact (gd_dd (o3 d md)).2]
  refine ⟨(Gd.tup (N := 65536) (W := 3000) (D := 5) (n := 4) (fun x mx => by
    obtain ⟨r, mr, rfl⟩ := List.mem_map.mp mx
    exact (one r mr).1) (by rw [List.length_map]; exact ok.1)).up (by decide) (by decide), ?_⟩
  unfold rsD
  rw [tupF, tupFs_id fun x mx => by
    obtain ⟨r, mr, rfl⟩ := List.mem_map.mp mx
    exact (one r mr).2]
theorem gd_jud {xs : List Dl} (xo : xsOk xs) : Gd 65536 40000 3 (judD xs) := by
  have of := bw_ok xo (show (("file" : Str) == ("drop" : Str)) = false by decide +kernel)
  have om := bw_ok xo (show (("mark" : Str) == ("drop" : Str)) = false by decide +kernel)
  have oo := bw_ok xo (show (("on" : Str) == ("drop" : Str)) = false by decide +kernel)
  have oa := an_ok xo
  have g : ∀ {l : List PyData}, thOk 16 l → Gd 65536 (16 * 301) 2 (.tuple (onceP [] l)) := fun {l} o => Gd.tup (fun x m => (o.2 x (onceP_mem _ _ m)).2) (Nat.le_trans (onceP_len _ _) o.1)
  have gb : Gd 65536 (16 * 301) 2 (.tuple (boxD xs)) := by
    unfold boxD
    split
    · exact ⟨by decide +kernel, by decide +kernel, by decide +kernel⟩
    · split
      · exact ⟨by decide +kernel, by decide +kernel, by decide +kernel⟩
      · exact g of
  unfold judD
  refine (Gd.tup (N := 65536) (W := 16 * 301) (D := 2) (n := 4) (fun x m => ?_) (by show (4 : Nat) ≤ 4; decide)).up (by decide) (by decide)
  simp only [List.mem_cons, List.not_mem_nil, or_false] at m
  rcases m with rfl | rfl | rfl | rfl
  · exact gb
  · exact g om
  · exact g oo
  · exact g oa
theorem jud_lc (hk : KOk κ) (L : Let hs bd ws) : ∀ (rl : List (List Rl)) (acc : List PyData) {ρ : Rho} {q : DV → Kap → Prop}, (∀ rs ∈ rl, rsOk rs) → acc.length + rl.length ≤ 1000 → 9 < ρ.length → ρ[0]? = some (some (.d (letD hs bd))) → q (.n (acc ++ rl.map fun rs => judD (due hs ws 0 rs))) κ →
    wO (lcGo (bName 9) mYes (mCall m_judged (mCons (mVar 9) (mCons (mVar 0) mNil))) ρ (rl.map rsD) acc κ) q
  | [], acc, ρ, q, _, _, _, _, h => by rw [List.map_nil, List.append_nil] at h; exact h
  | rs :: r, acc, ρ, q, ok, hl, h9, h0, h => by
    have o := ok rs List.mem_cons_self
    rw [List.length_cons] at hl
    rw [List.map_cons, wLcCons]
    have g9 : (ρ.set 9 (some (.d (rsD rs))))[9]? = some (some (.d (rsD rs))) := by
      rw [List.getElem?_set_self h9]
    have g0 : (ρ.set 9 (some (.d (rsD rs))))[0]? = some (some (.d (letD hs bd))) := by
      rw [List.getElem?_set_ne (by decide)]; exact h0
    simp only [bName, wYes, if_true, wCall, wCons, wNil, wVar, g9, g0]
    refine judged_w hk L o ((gd_rs o).1.up (by decide) (by decide)) (gd_rs o).2 L.gd L.tup ?_
    simp only [fz_d]
    refine ⟨by omega, jud_lc hk L r (acc ++ [_]) (fun rs m => ok rs (List.mem_cons_of_mem _ m)) (by rw [List.length_append, List.length_singleton]; omega) h9 h0 ?_⟩
    rw [List.append_assoc]; exact h
end

end Law

namespace Law
open DL L2 PyProof.Rows PySem PySem.Spec
local macro_rules | `(tactic| walk_at "w") => `(tactic| simp only [wDef0, wDef1, wDef2, wDef3, List.replicate, Nat.reduceSub, wSeq, wIf, wTb, wTr, wBin, wUn, wVar, wC, wCal, wCall, wCallK, wNil, wCons, wConsC, wLst, wTup, wNotT, wAndT, wOrT, wAnd, wOr, wNotE, wIfE, wChain, wNext, wSet, wSetC, wRet, wDrop, wAsg, wPar, wFor, wLc, wYes, wSl, wNoP, wPt, wRng1, wSrcA, wSrcS, wIsI, wIsI2, wCm, wMs, wRev, wPar3, wPar3k, wZipA, wZipLL, Option.bind_some, wDivm, wDget, wPNil, wPCons, wDisp, wDin, wDinS, wEqS, wEqB, wEqNS, wIsN, wInC, wOrdC, wInT, wInNT, wNinT, wNinNT, ix0, ix1,
  wOpt, tK_some, bK_some, bK_le, bK_lt, wGtI, wLtI, wLeI, wGeI, wModI, wFdivI, wMulI, wAddI, wSubI, wEqI, wNeI, wSlL, wSlN, wSlT, wSlS, wLenL, wLenT, wLenS, wIntT, wTupleN, wMin2, wAddNN, wAddLN, wAddNL, wAddLL, wAddTT, wAddSS, wMulN, wMulT, wMulS, fz_d, fz_n, fz_c, allD, put, truD, bName, bTup, bCons, bNil, wipeR,
  List.getElem?_cons_zero, List.getElem?_cons_succ, List.set_cons_zero, List.set_cons_succ, List.length_set, List.length_cons, List.length_nil, Option.map_some, Option.map_none, if_true, Bool.false_eq_true, if_false, Bool.not_true, Bool.not_false, List.map_cons, List.map_nil, true_and, and_true, Nat.reduceAdd, Nat.reduceLeDiff])
local macro_rules | `(tactic| walk_at "b") => `(tactic| simp (disch := assumption) only [ixB0, ixB1, ixB2, DL.subB0, DL.subB2, Option.bind_some, wDef0, wDef1, wDef2, wDef3, List.replicate, Nat.reduceSub, wSeq, wIf, wTb, wTr, wBin, wUn, wVar, wC, wCal, wCall, wCallK, wNil, wCons, wConsC, wLst, wTup, wNotT, wAndT, wOrT, wAnd, wOr, wNotE, wIfE, wChain, wNext, wSet, wSetC, wRet, wDrop, wAsg, wPar, wFor, wLc, wYes, wSl, wNoP, wPt, wRng1, wSrcA, wSrcS, wIsI, wIsI2, wCm, wMs, wRev, wPar3, wPar3k, wZipA, wZipLL, Option.bind_some, wDivm, wDget, wPNil, wPCons, wDisp, wDin, wDinS, wEqS, wEqB, wEqNS, wIsN, wInC, wOrdC, wInT, wInNT, wNinT, wNinNT, ix0, ix1,
  wOpt, tK_some, bK_some, bK_le, bK_lt, wGtI, wLtI, wLeI, wGeI, wModI, wFdivI, wMulI, wAddI, wSubI, wEqI, wNeI, wSlL, wSlN, wSlT, wSlS, wLenL, wLenT, wLenS, wIntT, wTupleN, wMin2, wAddNN, wAddLN, wAddNL, wAddLL, wAddTT, wAddSS, wMulN, wMulT, wMulS, fz_d, fz_n, fz_c, allD, put, truD, bName, bTup, bCons, bNil, wipeR,
  List.getElem?_cons_zero, List.getElem?_cons_succ, List.set_cons_zero, List.set_cons_succ, List.length_set, List.length_cons, List.length_nil, Option.map_some, Option.map_none, if_true, Bool.false_eq_true, if_false, Bool.not_true, Bool.not_false, List.map_cons, List.map_nil, true_and, and_true, Nat.reduceAdd, Nat.reduceLeDiff])
local macro_rules | `(tactic| walk_at "t") => `(tactic| (try walk_at "w"))
local macro_rules | `(tactic| walk_at "x") => `(tactic| simp (maxSteps := 4000000) only [wDef0, wDef1, wDef2, wDef3, List.replicate, Nat.reduceSub, wSeq, wIf, wTb, wTr, wBin, wUn, wVar, wC, wCal, wCall, wCallK, wNil, wCons, wConsC, wLst, wTup, wNotT, wAndT, wOrT, wAnd, wOr, wNotE, wIfE, wChain, wNext, wSet, wSetC, wRet, wDrop, wAsg, wPar, wFor, wLc, wYes, wSl, wNoP, wPt, wRng1, wSrcA, wSrcS, wIsI, wIsI2, wCm, wMs, wRev, wPar3, wPar3k, wZipA, wZipLL, Option.bind_some, wDivm, wDget, wPNil, wPCons, wDisp, wDin, wDinS, wEqS, wEqB, wEqNS, wIsN, wInC, wOrdC, wInT, wInNT, wNinT, wNinNT, ix0, ix1,
  wOpt, tK_some, bK_some, bK_le, bK_lt, wGtI, wLtI, wLeI, wGeI, wModI, wFdivI, wMulI, wAddI, wSubI, wEqI, wNeI, wSlL, wSlN, wSlT, wSlS, wLenL, wLenT, wLenS, wIntT, wTupleN, wMin2, wAddNN, wAddLN, wAddNL, wAddLL, wAddTT, wAddSS, wMulN, wMulT, wMulS, fz_d, fz_n, fz_c, allD, put, truD, bName, bTup, bCons, bNil, wipeR,
  List.getElem?_cons_zero, List.getElem?_cons_succ, List.set_cons_zero, List.set_cons_succ, List.length_set, List.length_cons, List.length_nil, Option.map_some, Option.map_none, if_true, Bool.false_eq_true, if_false, Bool.not_true, Bool.not_false, List.map_cons, List.map_nil, true_and, and_true, Nat.reduceAdd, Nat.reduceLeDiff])
section
variable {κ : Kap} {j N : Nat} {a b c : Str} {q Q : DV → Kap → Prop} {d : PyData} {hs : List (Str × Str)} {bd : PyData} {ws : List (List Int)}
theorem getK {x : Cell} : (κ ++ [x])[κ.length]? = some x := by simp
theorem setK {x y : Cell} : (κ ++ [x]).set κ.length y = κ ++ [y] := by
  rw [List.set_append_right _ _ (Nat.le_refl _), Nat.sub_self]; rfl
theorem appK {ys : List DV} {x : PyData} : appF ys [.d x] = if ys.length < 1000000 then some (.d .none, ys ++ [.d x]) else none := rfl
theorem wAddCN {ds y : List PyData} : wO (opt (κ ++ [cl ds]) (addB (κ ++ [cl ds]) (.c κ.length) (.n y))) q = (ds.length + y.length ≤ 16000000 ∧ q (.n (ds ++ y)) (κ ++ [cl ds])) := by
  have e : lv (κ ++ [cl ds]) (.c κ.length) = some ds := by
    show (match (κ ++ [cl ds])[κ.length]? with | some (.lst xs) => allD xs | _ => none) = some ds
    rw [getK]; exact allD_map ds
  show wO (opt _ (addD _ (.c _) (.n y))) q = _
  unfold addD
  simp only [e]
  exact wIf2
theorem kok_dead {κ : Kap} (h : KOk κ) : KOk (κ ++ [.dead]) := by
  have t := h.app []
  unfold KOk at t ⊢
  simp only [List.all_append, List.length_append, List.length_singleton, List.all_cons, List.all_nil, Bool.and_eq_true] at t ⊢
  exact ⟨t.1, rfl, True.intro⟩
theorem Gd.lst {N W D n : Nat} {xs : List PyData} (h : ∀ x ∈ xs, Gd N W D x) (hn : xs.length ≤ n) : Gd N (n * (W + 1)) (D + 1) (.list xs) := by
  refine ⟨?_, ?_, ?_⟩
  · rw [gd]; exact gdAll_iff.mpr fun x m => (h x m).g
  · rw [PyData.bulk]; exact Nat.le_trans (bulkAll_le fun x m => (h x m).w) (Nat.mul_le_mul_right _ hn)
  · rw [PyData.depth]; exact Nat.succ_le_succ (depthAll_le fun x m => (h x m).p)
def EL (a b c : Str) : List PyData := [E1 a b c, E2 a b c, E3 a b c, E4, E5 a b c, E6 a b c, E7 a b c]
theorem el_eq (n : N3 a b c) : ((rss a b c).map fun rs => judD (due (knH a b c) knW 0 rs)) = EL a b c := by
  simp only [rss, EL, List.map_cons, List.map_nil, jd1 n, jd2 n, jd3 n, jd4 n, jd5 n, jd6 n, jd7 n]
theorem el_gd (n : N3 a b c) : Gd 65536 400000 4 (.list (EL a b c)) := by
  rw [← el_eq n]
  refine (Gd.lst (N := 65536) (W := 40000) (D := 3) (n := 7) (fun x m => ?_) (by rw [List.length_map]; exact (show (7 : Nat) ≤ 7 by decide))).up (by decide) (by decide)
  obtain ⟨rs, mr, rfl⟩ := List.mem_map.mp m
  exact gd_jud (due_xs (rs_ok n rs mr))
end

end Law

namespace Law
open DL L2 PyProof.Rows PySem PySem.Spec
local macro_rules | `(tactic| walk_at "w") => `(tactic| simp only [wDef0, wDef1, wDef2, wDef3, List.replicate, Nat.reduceSub, wSeq, wIf, wTb, wTr, wBin, wUn, wVar, wC, wCal, wCall, wCallK, wNil, wCons, wConsC, wLst, wTup, wNotT, wAndT, wOrT, wAnd, wOr, wNotE, wIfE, wChain, wNext, wSet, wSetC, wRet, wDrop, wAsg, wPar, wFor, wLc, wYes, wSl, wNoP, wPt, wRng1, wSrcA, wSrcS, wIsI, wIsI2, wCm, wMs, wRev, wPar3, wPar3k, wZipA, wZipLL, Option.bind_some, wDivm, wDget, wPNil, wPCons, wDisp, wDin, wDinS, wEqS, wEqB, wEqNS, wIsN, wInC, wOrdC, wInT, wInNT, wNinT, wNinNT, ix0, ix1,
  wOpt, tK_some, bK_some, bK_le, bK_lt, wGtI, wLtI, wLeI, wGeI, wModI, wFdivI, wMulI, wAddI, wSubI, wEqI, wNeI, wSlL, wSlN, wSlT, wSlS, wLenL, wLenT, wLenS, wIntT, wTupleN, wMin2, wAddNN, wAddLN, wAddNL, wAddLL, wAddTT, wAddSS, wMulN, wMulT, wMulS, fz_d, fz_n, fz_c, allD, put, truD, bName, bTup, bCons, bNil, wipeR,
  List.getElem?_cons_zero, List.getElem?_cons_succ, List.set_cons_zero, List.set_cons_succ, List.length_set, List.length_cons, List.length_nil, Option.map_some, Option.map_none, if_true, Bool.false_eq_true, if_false, Bool.not_true, Bool.not_false, List.map_cons, List.map_nil, true_and, and_true, Nat.reduceAdd, Nat.reduceLeDiff])
local macro_rules | `(tactic| walk_at "b") => `(tactic| simp (disch := assumption) only [ixB0, ixB1, ixB2, DL.subB0, DL.subB2, Option.bind_some, wDef0, wDef1, wDef2, wDef3, List.replicate, Nat.reduceSub, wSeq, wIf, wTb, wTr, wBin, wUn, wVar, wC, wCal, wCall, wCallK, wNil, wCons, wConsC, wLst, wTup, wNotT, wAndT, wOrT, wAnd, wOr, wNotE, wIfE, wChain, wNext, wSet, wSetC, wRet, wDrop, wAsg, wPar, wFor, wLc, wYes, wSl, wNoP, wPt, wRng1, wSrcA, wSrcS, wIsI, wIsI2, wCm, wMs, wRev, wPar3, wPar3k, wZipA, wZipLL, Option.bind_some, wDivm, wDget, wPNil, wPCons, wDisp, wDin, wDinS, wEqS, wEqB, wEqNS, wIsN, wInC, wOrdC, wInT, wInNT, wNinT, wNinNT, ix0, ix1,
  wOpt, tK_some, bK_some, bK_le, bK_lt, wGtI, wLtI, wLeI, wGeI, wModI, wFdivI, wMulI, wAddI, wSubI, wEqI, wNeI, wSlL, wSlN, wSlT, wSlS, wLenL, wLenT, wLenS, wIntT, wTupleN, wMin2, wAddNN, wAddLN, wAddNL, wAddLL, wAddTT, wAddSS, wMulN, wMulT, wMulS, fz_d, fz_n, fz_c, allD, put, truD, bName, bTup, bCons, bNil, wipeR,
  List.getElem?_cons_zero, List.getElem?_cons_succ, List.set_cons_zero, List.set_cons_succ, List.length_set, List.length_cons, List.length_nil, Option.map_some, Option.map_none, if_true, Bool.false_eq_true, if_false, Bool.not_true, Bool.not_false, List.map_cons, List.map_nil, true_and, and_true, Nat.reduceAdd, Nat.reduceLeDiff])
local macro_rules | `(tactic| walk_at "t") => `(tactic| (try walk_at "w"))
local macro_rules | `(tactic| walk_at "x") => `(tactic| simp (maxSteps := 4000000) only [wDef0, wDef1, wDef2, wDef3, List.replicate, Nat.reduceSub, wSeq, wIf, wTb, wTr, wBin, wUn, wVar, wC, wCal, wCall, wCallK, wNil, wCons, wConsC, wLst, wTup, wNotT, wAndT, wOrT, wAnd, wOr, wNotE, wIfE, wChain, wNext, wSet, wSetC, wRet, wDrop, wAsg, wPar, wFor, wLc, wYes, wSl, wNoP, wPt, wRng1, wSrcA, wSrcS, wIsI, wIsI2, wCm, wMs, wRev, wPar3, wPar3k, wZipA, wZipLL, Option.bind_some, wDivm, wDget, wPNil, wPCons, wDisp, wDin, wDinS, wEqS, wEqB, wEqNS, wIsN, wInC, wOrdC, wInT, wInNT, wNinT, wNinNT, ix0, ix1,
  wOpt, tK_some, bK_some, bK_le, bK_lt, wGtI, wLtI, wLeI, wGeI, wModI, wFdivI, wMulI, wAddI, wSubI, wEqI, wNeI, wSlL, wSlN, wSlT, wSlS, wLenL, wLenT, wLenS, wIntT, wTupleN, wMin2, wAddNN, wAddLN, wAddNL, wAddLL, wAddTT, wAddSS, wMulN, wMulT, wMulS, fz_d, fz_n, fz_c, allD, put, truD, bName, bTup, bCons, bNil, wipeR,
  List.getElem?_cons_zero, List.getElem?_cons_succ, List.set_cons_zero, List.set_cons_succ, List.length_set, List.length_cons, List.length_nil, Option.map_some, Option.map_none, if_true, Bool.false_eq_true, if_false, Bool.not_true, Bool.not_false, List.map_cons, List.map_nil, true_and, and_true, Nat.reduceAdd, Nat.reduceLeDiff])
section
variable {κ : Kap} {j N : Nat} {a b c : Str} {q Q : DV → Kap → Prop} {d : PyData} {hs : List (Str × Str)} {bd : PyData} {ws : List (List Int)}
local macro_rules | `(tactic| walk_at "y") => `(tactic| simp (maxSteps := 4000000) only [getK, setK, appK, wStl, List.cons_append, List.nil_append, Nat.reduceLT, wDef0, wDef1, wDef2, wDef3, List.replicate, Nat.reduceSub, wSeq, wIf, wTb, wTr, wBin, wUn, wVar, wC, wCal, wCall, wCallK, wNil, wCons, wConsC, wLst, wTup, wNotT, wAndT, wOrT, wAnd, wOr, wNotE, wIfE, wChain, wNext, wSet, wSetC, wRet, wDrop, wAsg, wPar, wFor, wLc, wYes, wSl, wNoP, wPt, wRng1, wSrcA, wSrcS, wIsI, wIsI2, wCm, wMs, wRev, wPar3, wPar3k, wZipA, wZipLL, Option.bind_some, wDivm, wDget, wPNil, wPCons, wDisp, wDin, wDinS, wEqS, wEqB, wEqNS, wIsN, wInC, wOrdC, wInT, wInNT, wNinT, wNinNT, ix0, ix1,
  wOpt, tK_some, bK_some, bK_le, bK_lt, wGtI, wLtI, wLeI, wGeI, wModI, wFdivI, wMulI, wAddI, wSubI, wEqI, wNeI, wSlL, wSlN, wSlT, wSlS, wLenL, wLenT, wLenS, wIntT, wTupleN, wMin2, wAddNN, wAddLN, wAddNL, wAddLL, wAddTT, wAddSS, wMulN, wMulT, wMulS, fz_d, fz_n, fz_c, allD, put, truD, bName, bTup, bCons, bNil, wipeR,
  List.getElem?_cons_zero, List.getElem?_cons_succ, List.set_cons_zero, List.set_cons_succ, List.length_set, List.length_cons, List.length_nil, Option.map_some, Option.map_none, if_true, Bool.false_eq_true, if_false, Bool.not_true, Bool.not_false, List.map_cons, List.map_nil, true_and, and_true, Nat.reduceAdd, Nat.reduceLeDiff])
theorem rules_right_w (hk : KOk κ) (n : N3 a b c) (h : q (.d (.bool true)) κ) : wO (m__law_rules_right [.d (letD (knH a b c) knB), .d (.str a), .d (.str b), .d (.str c)] κ) q := by
  have L := kn_let n
  unfold m__law_rules_right
  rw [wDef4]
  walk_at "y"
  refine jud_lc (kok_dead hk) L (rss a b c) [] (rs_ok n) (show 0 + 7 ≤ 1000 by decide) (show 9 < 10 by decide) rfl ?_
  rw [List.nil_append, el_eq n]
  walk_at "y"
  refine (wAddCN (κ := κ ++ [.dead]) (ds := [E1 a b c, E2 a b c, E3 a b c, E4])).mpr ?_
  refine ⟨by show 4 + 3 ≤ 16000000; decide, ?_⟩
  walk_at "y"
  have g := el_gd n
  have hkk : KOk (κ ++ [Cell.dead] ++ [cl [E1 a b c, E2 a b c, E3 a b c, E4]] ++ [Cell.dead]) := kok_dead ((kok_dead hk).app _)
  refine (show wO (r__law_same 12 [.d (.list (EL a b c)), .d (.list (EL a b c))] (κ ++ [Cell.dead] ++ [cl [E1 a b c, E2 a b c, E3 a b c, E4]] ++ [Cell.dead])) _ from same_refl (N := 65536) 12 hkk g.g (Nat.le_trans g.w (by decide)) (Nat.lt_of_le_of_lt g.p (by decide)) ?_)
  rw [List.append_assoc, List.append_assoc]
  exact (finD (q := q) hk rfl).mpr h
end

end Law

namespace Law
open DL L2 PyProof.Rows PySem PySem.Spec
local macro_rules | `(tactic| walk_at "w") => `(tactic| simp only [wDef0, wDef1, wDef2, wDef3, List.replicate, Nat.reduceSub, wSeq, wIf, wTb, wTr, wBin, wUn, wVar, wC, wCal, wCall, wCallK, wNil, wCons, wConsC, wLst, wTup, wNotT, wAndT, wOrT, wAnd, wOr, wNotE, wIfE, wChain, wNext, wSet, wSetC, wRet, wDrop, wAsg, wPar, wFor, wLc, wYes, wSl, wNoP, wPt, wRng1, wSrcA, wSrcS, wIsI, wIsI2, wCm, wMs, wRev, wPar3, wPar3k, wZipA, wZipLL, Option.bind_some, wDivm, wDget, wPNil, wPCons, wDisp, wDin, wDinS, wEqS, wEqB, wEqNS, wIsN, wInC, wOrdC, wInT, wInNT, wNinT, wNinNT, ix0, ix1,
  wOpt, tK_some, bK_some, bK_le, bK_lt, wGtI, wLtI, wLeI, wGeI, wModI, wFdivI, wMulI, wAddI, wSubI, wEqI, wNeI, wSlL, wSlN, wSlT, wSlS, wLenL, wLenT, wLenS, wIntT, wTupleN, wMin2, wAddNN, wAddLN, wAddNL, wAddLL, wAddTT, wAddSS, wMulN, wMulT, wMulS, fz_d, fz_n, fz_c, allD, put, truD, bName, bTup, bCons, bNil, wipeR,
  List.getElem?_cons_zero, List.getElem?_cons_succ, List.set_cons_zero, List.set_cons_succ, List.length_set, List.length_cons, List.length_nil, Option.map_some, Option.map_none, if_true, Bool.false_eq_true, if_false, Bool.not_true, Bool.not_false, List.map_cons, List.map_nil, true_and, and_true, Nat.reduceAdd, Nat.reduceLeDiff])
local macro_rules | `(tactic| walk_at "b") => `(tactic| simp (disch := assumption) only [ixB0, ixB1, ixB2, DL.subB0, DL.subB2, Option.bind_some, wDef0, wDef1, wDef2, wDef3, List.replicate, Nat.reduceSub, wSeq, wIf, wTb, wTr, wBin, wUn, wVar, wC, wCal, wCall, wCallK, wNil, wCons, wConsC, wLst, wTup, wNotT, wAndT, wOrT, wAnd, wOr, wNotE, wIfE, wChain, wNext, wSet, wSetC, wRet, wDrop, wAsg, wPar, wFor, wLc, wYes, wSl, wNoP, wPt, wRng1, wSrcA, wSrcS, wIsI, wIsI2, wCm, wMs, wRev, wPar3, wPar3k, wZipA, wZipLL, Option.bind_some, wDivm, wDget, wPNil, wPCons, wDisp, wDin, wDinS, wEqS, wEqB, wEqNS, wIsN, wInC, wOrdC, wInT, wInNT, wNinT, wNinNT, ix0, ix1,
  wOpt, tK_some, bK_some, bK_le, bK_lt, wGtI, wLtI, wLeI, wGeI, wModI, wFdivI, wMulI, wAddI, wSubI, wEqI, wNeI, wSlL, wSlN, wSlT, wSlS, wLenL, wLenT, wLenS, wIntT, wTupleN, wMin2, wAddNN, wAddLN, wAddNL, wAddLL, wAddTT, wAddSS, wMulN, wMulT, wMulS, fz_d, fz_n, fz_c, allD, put, truD, bName, bTup, bCons, bNil, wipeR,
  List.getElem?_cons_zero, List.getElem?_cons_succ, List.set_cons_zero, List.set_cons_succ, List.length_set, List.length_cons, List.length_nil, Option.map_some, Option.map_none, if_true, Bool.false_eq_true, if_false, Bool.not_true, Bool.not_false, List.map_cons, List.map_nil, true_and, and_true, Nat.reduceAdd, Nat.reduceLeDiff])
local macro_rules | `(tactic| walk_at "t") => `(tactic| (try walk_at "w"))
local macro_rules | `(tactic| walk_at "x") => `(tactic| simp (maxSteps := 4000000) only [wDef0, wDef1, wDef2, wDef3, List.replicate, Nat.reduceSub, wSeq, wIf, wTb, wTr, wBin, wUn, wVar, wC, wCal, wCall, wCallK, wNil, wCons, wConsC, wLst, wTup, wNotT, wAndT, wOrT, wAnd, wOr, wNotE, wIfE, wChain, wNext, wSet, wSetC, wRet, wDrop, wAsg, wPar, wFor, wLc, wYes, wSl, wNoP, wPt, wRng1, wSrcA, wSrcS, wIsI, wIsI2, wCm, wMs, wRev, wPar3, wPar3k, wZipA, wZipLL, Option.bind_some, wDivm, wDget, wPNil, wPCons, wDisp, wDin, wDinS, wEqS, wEqB, wEqNS, wIsN, wInC, wOrdC, wInT, wInNT, wNinT, wNinNT, ix0, ix1,
  wOpt, tK_some, bK_some, bK_le, bK_lt, wGtI, wLtI, wLeI, wGeI, wModI, wFdivI, wMulI, wAddI, wSubI, wEqI, wNeI, wSlL, wSlN, wSlT, wSlS, wLenL, wLenT, wLenS, wIntT, wTupleN, wMin2, wAddNN, wAddLN, wAddNL, wAddLL, wAddTT, wAddSS, wMulN, wMulT, wMulS, fz_d, fz_n, fz_c, allD, put, truD, bName, bTup, bCons, bNil, wipeR,
  List.getElem?_cons_zero, List.getElem?_cons_succ, List.set_cons_zero, List.set_cons_succ, List.length_set, List.length_cons, List.length_nil, Option.map_some, Option.map_none, if_true, Bool.false_eq_true, if_false, Bool.not_true, Bool.not_false, List.map_cons, List.map_nil, true_and, and_true, Nat.reduceAdd, Nat.reduceLeDiff])
section
variable {κ : Kap} {j N : Nat} {a b c : Int} {q Q : DV → Kap → Prop} {d : PyData}
theorem right_w (hj : j < κ.length) (hk : KOk κ) (hb : Bb b) (hc : 0 ≤ c ∧ c + 10 ≤ 2 ^ 40) (h : ∀ a' c' : Int, Q (.d (.bool true)) (κ.set j (bx a' b c'))) : wO (m__law_right [.c j] (κ.set j (bx a b c))) Q := by
  unfold m__law_right
  walk_at "w"
  refine names3_w hj hk hb hc fun x y z a' c' n => ?_
  simp only [bUnp]
  walk_at "t"
  refine known_w hk.set n ?_
  walk_at "t"
  refine tests_right_w hk.set n ?_
  walk_at "t"
  refine rules_right_w hk.set n ?_
  walk_at "t"
  rw [finD0 hk.set (by simp)]
  exact h a' c'
theorem wLenC {xs : List PyData} : wO (opt κ (lenD κ [.d (scr xs)])) q = q (.d (.int xs.length)) κ := propext Iff.rfl
theorem wIxC {ds : List PyData} {i : Int} (h0 : 0 ≤ i) (h1 : i < ds.length) (h : ∀ x ∈ ds, q (.d x) κ) : wO (opt κ (ixD κ (.d (scr ds)) (.d (.int i)))) q := by
  obtain ⟨x, e, _, hm⟩ := atI_mem h0 h1
  show wO (opt κ ((atI ds i).map DV.d)) q
  rw [e]; exact h x hm
theorem box_w (hk : KOk κ) {ns : List Int} {k : Int} (h0 : 0 ≤ k) (h1 : k ≤ 4) (h : ∀ a b : Int, Bb b → q (.n [.int a, .int b, .int 0]) κ) : wO (m__law_box [.d (scr (ns.map .int)), .d (.int k)] κ) q := by
  have key : ∀ i : Int, Bb (i % 2305843009213693951 + 39373 * k + 17) := fun i => by
    have := Int.emod_nonneg i (show (2305843009213693951 : Int) ≠ 0 by decide)
    have := Int.emod_lt_of_pos i (show (0 : Int) < 2305843009213693951 by decide)
    exact ⟨by omega, by omega⟩
  unfold m__law_box
  walk_at "w"
  rw [wLenC]
  walk_at "w"
  split
  · rename_i g
    refine wIxC h0 (of_decide_eq_true g) fun x mx => ?_
    obtain ⟨i, mi, rfl⟩ := List.mem_map.mp mx
    iterate 8 (first | simp only [wAbs, wPowI] | walk_at "w" | skip)
    refine ⟨by decide, .inr ⟨by split <;> omega, by split <;> omega⟩, by decide, .inl (by decide), ?_⟩
    rw [finN0 hk rfl]
    exact h _ _ (key i)
  · iterate 8 (first | simp only [wAbs, wPowI] | walk_at "w" | skip)
    refine ⟨by decide, .inr ⟨by split <;> omega, by split <;> omega⟩, by decide, .inl (by decide), ?_⟩
    rw [finN0 hk rfl]
    exact h _ _ (key 0)
theorem plain (ns : List Int) (hn : ns.length ≤ 63) : ∃ κ, m_law [.d (scr (ns.map .int))] [] = .ok (.d (.bool true)) κ := by
  have key : wO (m_law [.d (scr (ns.map .int))] []) fun x κ => x = .d (.bool true) := by
    unfold m_law
    walk_at "w"
    rw [wLenC]
    walk_at "w"
    generalize hL : 1 + (if ((List.map PyData.int ns).length : Int) < 4 then ((List.map PyData.int ns).length : Int) else 4) = L
    have hL1 : 0 ≤ L ∧ L ≤ 5 := by subst hL; split <;> omega
    refine ⟨by omega, ?_⟩
    refine wLcI (fun r ac κ1 => ac = (List.replicate (L.toNat - r.length) (.bool true)) ∧ KOk κ1 ∧ r.length ≤ L.toNat ∧ ∀ d ∈ r, ∃ k : Int, d = .int k ∧ 0 ≤ k ∧ k ≤ 4) _ _ _ ?_ ?_ ?_
    · refine ⟨by rw [rngD_len]; simp, kok_nil, by rw [rngD_len]; omega, fun d m => ?_⟩
      obtain ⟨i, rfl, i0, i1⟩ := rng_mem m
      exact ⟨i, rfl, i0, by omega⟩
    · rintro ac κ1 ⟨rfl, hk, _, _⟩
      rw [fz_n, show List.replicate (L.toNat - ([] : List PyData).length) (PyData.bool true) = (List.replicate L.toNat PyData.none).map (fun d => PyData.bool ((fun _ => true) d)) by simp]
      refine all_w (P := fun _ => true) ?_
      rw [show (List.replicate L.toNat PyData.none).all (fun _ => true) = true by simp]
      exact (finD (κ0 := []) (l := κ1) kok_nil rfl).mpr rfl
    · rintro d r ac κ1 ⟨rfl, hk, hlr, hd⟩
      obtain ⟨k, rfl, k0, k1⟩ := hd d (List.mem_cons_self ..)
      walk_at "w"
      refine box_w hk k0 k1 fun a b hb => ?_
      dsimp only
      rw [show κ1 ++ [Cell.lst (List.map DV.d [PyData.int a, PyData.int b, PyData.int 0])] = (κ1 ++ [bx a b 0]).set κ1.length (bx a b 0) by
        rw [List.set_append_right _ _ (Nat.le_refl _), Nat.sub_self]; rfl]
      refine right_w (by simp) (hk.app [.int a, .int b, .int 0]) hb (by decide) fun a' c' => ?_
      simp only [fz_d]
      rw [List.length_cons] at hlr
      refine ⟨by rw [List.length_replicate]; omega, ?_, (hk.app [.int a, .int b, .int 0]).set, by omega, fun d m => hd d (List.mem_cons_of_mem _ m)⟩
      rw [show L.toNat - r.length = L.toNat - (r.length + 1) + 1 by omega, List.replicate_succ']
  obtain ⟨x, κ, e, rfl⟩ := wO_of key
  exact ⟨κ, e⟩
end

end Law

open PyProof.Rows PySem PySem.W
set_option maxHeartbeats 0 in
theorem PySem.Challenge.cw_letterhall_k22_known_rules_holds : PySem.Challenge.rw_letterhall_k22_known_rules.Holds := by
  w_on; o_law; k_head; (case hw => w_witness2)
  k_fill
  refine DL.walkGL (l := PySem.Challenge.rw_letterhall_k22_known_rules) (n := 63) (k := 35) (x := "_law_script") (m := Law.m_law) ["holds"] rfl (by decide) rfl ⟨rfl, by decide, by decide⟩ (by kernel_rfl) (by intro w h Y; first | exact PySem.W.kIn_of Y | exact PySem.W.km_in_of Y) ?F (fun ns hl => Law.plain ns hl)
  case F =>
    intro w mg fa h KX G hmg own
    refine' Law.all_mk KX G hmg own ?a0 ?l0 ?e0 ?k0 ?a1 ?l1 ?e1 ?k1 ?a2 ?l2 ?e2 ?k2 ?a3 ?l3 ?e3 ?k3 ?a4 ?l4 ?e4 ?k4 ?a5 ?l5 ?e5 ?k5 ?a6 ?l6 ?e6 ?k6 ?a7 ?l7 ?e7 ?k7 ?a8 ?l8 ?e8 ?k8 ?a9 ?l9 ?e9 ?k9 ?a10 ?l10 ?e10 ?k10 ?a11 ?l11 ?e11 ?k11 ?a12 ?l12 ?e12 ?k12 ?a13 ?l13 ?e13 ?k13 ?a14 ?l14 ?e14 ?k14 ?a15 ?l15 ?e15 ?k15 ?a16 ?l16 ?e16 ?k16 ?lcH ?tH ?nH ?hH ?a17 ?l17 ?e17 ?k17 ?a18 ?l18 ?e18 ?k18 ?a19 ?l19 ?e19 ?k19 ?a20 ?l20 ?e20 ?k20 ?a21 ?l21 ?e21 ?k21 ?a22 ?l22 ?e22 ?k22 ?a23 ?l23 ?e23 ?k23 ?a24 ?l24 ?e24 ?k24 ?a25 ?l25 ?e25 ?k25 ?a26 ?l26 ?e26 ?k26 ?a27 ?l27 ?e27 ?k27 ?a28 ?l28 ?e28 ?k28 ?a29 ?l29 ?e29 ?k29 ?nn_holds_of ?nn_best_way ?cABOUT ?cANSWER ?cANY ?cAT ?cAUTO ?cBOTH ?cDROP ?cFIGURES ?cFIGURE_0 ?cFIGURE_9 ?cFILE ?cGREAT_A ?cGREAT_Z ?cIN_BOX ?cMARK ?cMOST_WORD ?cNOT ?cON ?cSMALL_A ?cSMALL_SIGNS ?cSMALL_Z ?cSTOP ?cTO_SMALL ?cWORDS ?zabs ?zall ?zany ?zbool ?zdivmod ?zenumerate ?zint ?zisinstance ?zlen ?zlist ?zmin ?zord ?zrange ?zset ?zsorted ?zstr ?zsum ?ztuple ?zzip ?aPLAIN_TESTS ?lPLAIN_TESTS ?kPLAIN_TESTS ?oPLAIN_TESTS ?ePLAIN_TESTS
    (case a0 => k_is); (case l0 => k_is); (case e0 => k_is); (case k0 => k_is); (case a1 => k_is); (case l1 => k_is); (case e1 => k_is); (case k1 => k_is); (case a2 => k_is); (case l2 => k_is); (case e2 => k_is); (case k2 => k_is); (case a3 => k_is); (case l3 => k_is); (case e3 => k_is); (case k3 => k_is); (case a4 => k_is); (case l4 => k_is); (case e4 => k_is); (case k4 => k_is); (case a5 => k_is); (case l5 => k_is); (case e5 => k_is); (case k5 => k_is); (case a6 => k_is); (case l6 => k_is); (case e6 => k_is); (case k6 => k_is); (case a7 => k_is); (case l7 => k_is); (case e7 => k_is); (case k7 => k_is); (case a8 => k_is); (case l8 => k_is); (case e8 => k_is); (case k8 => k_is); (case a9 => k_is); (case l9 => k_is); (case e9 => k_is); (case k9 => k_is); (case a10 => k_is); (case l10 => k_is); (case e10 => k_is); (case k10 => k_is); (case a11 => k_is); (case l11 => k_is); (case e11 => k_is); (case k11 => k_is); (case a12 => k_is); (case l12 => k_is); (case e12 => k_is); (case k12 => k_is); (case a13 => k_is); (case l13 => k_is); (case e13 => k_is); (case k13 => k_is); (case a14 => k_is); (case l14 => k_is); (case e14 => k_is); (case k14 => k_is); (case a15 => k_is); (case l15 => k_is); (case e15 => k_is); (case k15 => k_is); (case a16 => k_is); (case l16 => k_is); (case e16 => k_is); (case k16 => k_is); (case lcH => k_is); (case tH => rfl); (case nH => kernel_rfl); (case hH => kernel_rfl); (case a17 => k_is); (case l17 => k_is); (case e17 => k_is); (case k17 => k_is); (case a18 => k_is); (case l18 => k_is); (case e18 => k_is); (case k18 => k_is); (case a19 => k_is); (case l19 => k_is); (case e19 => k_is); (case k19 => k_is); (case a20 => k_is); (case l20 => k_is); (case e20 => k_is); (case k20 => k_is); (case a21 => k_is); (case l21 => k_is); (case e21 => k_is); (case k21 => k_is); (case a22 => k_is); (case l22 => k_is); (case e22 => k_is); (case k22 => k_is); (case a23 => k_is); (case l23 => k_is); (case e23 => k_is); (case k23 => k_is); (case a24 => k_is); (case l24 => k_is); (case e24 => k_is); (case k24 => k_is); (case a25 => k_is); (case l25 => k_is); (case e25 => k_is); (case k25 => k_is); (case a26 => k_is); (case l26 => k_is); (case e26 => k_is); (case k26 => k_is); (case a27 => k_is); (case l27 => k_is); (case e27 => k_is); (case k27 => k_is); (case a28 => k_is); (case l28 => k_is); (case e28 => k_is); (case k28 => k_is); (case a29 => k_is); (case l29 => k_is); (case e29 => k_is); (case k29 => k_is); (case nn_holds_of => k_is); (case nn_best_way => k_is); (case cABOUT => k_is); (case cANSWER => k_is); (case cANY => k_is); (case cAT => k_is); (case cAUTO => k_is); (case cBOTH => k_is); (case cDROP => k_is); (case cFIGURES => k_is); (case cFIGURE_0 => k_is); (case cFIGURE_9 => k_is); (case cFILE => k_is); (case cGREAT_A => k_is); (case cGREAT_Z => k_is); (case cIN_BOX => k_is); (case cMARK => k_is); (case cMOST_WORD => k_is); (case cNOT => k_is); (case cON => k_is); (case cSMALL_A => k_is); (case cSMALL_SIGNS => k_is); (case cSMALL_Z => k_is); (case cSTOP => k_is); (case cTO_SMALL => k_is); (case cWORDS => k_is); (case zabs => k_is); (case zall => k_is); (case zany => k_is); (case zbool => k_is); (case zdivmod => k_is); (case zenumerate => k_is); (case zint => k_is); (case zisinstance => k_is); (case zlen => k_is); (case zlist => k_is); (case zmin => k_is); (case zord => k_is); (case zrange => k_is); (case zset => k_is); (case zsorted => k_is); (case zstr => k_is); (case zsum => k_is); (case ztuple => k_is); (case zzip => k_is); (case aPLAIN_TESTS => k_is); (case lPLAIN_TESTS => k_is); (case kPLAIN_TESTS => exact ⟨⟨_, _, rfl, rfl⟩, ⟨⟨_, _, rfl, rfl⟩, ⟨⟨_, _, rfl, rfl⟩, ⟨⟨_, _, rfl, rfl⟩, ⟨⟨_, _, rfl, rfl⟩, True.intro⟩⟩⟩⟩⟩); (case oPLAIN_TESTS => decide); (case ePLAIN_TESTS => exact ⟨⟨⟨_, rfl⟩, rfl⟩, ⟨⟨⟨_, rfl⟩, rfl⟩, ⟨⟨⟨_, rfl⟩, rfl⟩, ⟨⟨⟨_, rfl⟩, rfl⟩, ⟨⟨⟨_, rfl⟩, rfl⟩, True.intro⟩⟩⟩⟩⟩)
