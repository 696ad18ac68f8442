import PyProof.Rows.All
import HandS.ForMost
import HandS.Defaults
import HandS.ForExc
import HandS.ExcField
import HandS.IsInst
import HandS.HeadHook4
import HandS.HeadEnd
import HandS.Wide
import HandS.Deep
import HandS.SortInts
import HandS.Walk
import HandS.TryMany
import HandS.ExcCtx
import HandS.HotCalls
import HandS.WordsExc
import HandS.Iter
import KE.GoesMore
import HandS.ExcSuper
import KE.KExcSuper
import HandS.ExcIs
import HandS.HeadWalk
import HandS.HeadHook2
import KE.KExcIs
import HandS.Head2
import PySem.Challenge.RW_reelvault_k46_rotations_and_gaps

section
set_option Elab.async false
set_option linter.all false
set_option maxRecDepth 100000
set_option maxHeartbeats 2000000
/-! Pu1: a pure reading of a def over plain data. D is the data (trees), S the part of the tracked heap that no one changes any more, the rest is owned by the frame's slots. -/
namespace Pu
open PySem PySem.Spec PyProof.Rows L2

abbrev D := PyData
abbrev St := L2.St
inductive R (α : Type) where
  | ok (a : α)
  | ex (c : Str) (fs : List (Str × D))
  | bad
def R.bind {α β : Type} : R α → (α → R β) → R β
  | .ok a, f => f a
  | .ex c fs, _ => .ex c fs
  | .bad, _ => .bad
@[simp] theorem R.bind_ok {α β : Type} (a : α) (f : α → R β) : (R.ok a).bind f = f a := id rfl
@[simp] theorem R.bind_ex {α β : Type} (c : Str) (fs) (f : α → R β) : (R.ex c fs : R α).bind f = .ex c fs := id rfl
@[simp] theorem R.bind_bad {α β : Type} (f : α → R β) : (R.bad : R α).bind f = .bad := id rfl
abbrev Rho := List (Option D)
abbrev SE := Rho → R D
abbrev SA := Rho → R (List D)
abbrev SB := Rho → R Bool
inductive F where
  | nx (ρ : Rho) | rt (d : D) | bk (ρ : Rho) | ct (ρ : Rho) | ex (c : Str) (fs : List (Str × D)) (ρ : Rho) | bad
abbrev SS := Rho → F

/-! ### data and the heap -/
def kD : Key → D
  | .inl i => .int i
  | .inr x => .str x
mutual
inductive Rp (K : PySem.W.Frag) (S : Hp) : V → D → Prop
  | non : Rp K S .non .none
  | bl (b : Bool) : Rp K S (.bl b) (.bool b)
  | int (i : Int) : Rp K S (.int i) (.int i)
  | str (x : Str) : Rp K S (.str x) (.str x)
  | lst {a : Addr} {xs : List V} {ds : List D} : S a = some (.lst xs) → RpAll K S xs ds → Rp K S (.ref a) (.list ds)
  | scr {a : Addr} {xs : List V} {ds : List D} : SqL K S a xs → RpAll K S xs ds → Rp K S (.ref a) (.dict [(.none, .list ds)])
  | tup {a : Addr} {xs : List V} {ds : List D} : SqT K S a xs → RpAll K S xs ds → Rp K S (.ref a) (.tuple ds)
  | dic {a : Addr} {kvs : List (Key × V)} {ds : List (D × D)} : Rd S a (.dK kvs) → RpKs K S kvs ds → Rp K S (.ref a) (.dict ds)
  | dicT {a : Addr} {kvs : List (List Key × V)} {ds : List (D × D)} : S a = some (.dT kvs) → RpTs K S kvs ds → Rp K S (.ref a) (.dict ((.tuple [], .none) :: ds))
  | dicF {a : Addr} {o : Obj} {kvs : List (Key × V)} {ds : List (D × D)} : S a = some (.frz o (.dK kvs)) → RpKs K S kvs ds → Rp K S (.ref a) (.dict ((.list [], .none) :: ds))
inductive RpAll (K : PySem.W.Frag) (S : Hp) : List V → List D → Prop
  | nil : RpAll K S [] []
  | cons {v : V} {vs : List V} {d : D} {ds : List D} : Rp K S v d → RpAll K S vs ds → RpAll K S (v :: vs) (d :: ds)
inductive RpKs (K : PySem.W.Frag) (S : Hp) : List (Key × V) → List (D × D) → Prop
  | nil : RpKs K S [] []
  | cons {k : Key} {v : V} {vs : List (Key × V)} {d : D} {ds : List (D × D)} : Rp K S v d → RpKs K S vs ds → RpKs K S ((k, v) :: vs) ((kD k, d) :: ds)
inductive RpTs (K : PySem.W.Frag) (S : Hp) : List (List Key × V) → List (D × D) → Prop
  | nil : RpTs K S [] []
  | cons {k : List Key} {v : V} {vs : List (List Key × V)} {d : D} {ds : List (D × D)} : Rp K S v d → RpTs K S vs ds → RpTs K S ((k, v) :: vs) ((.tuple (k.map kD), d) :: ds)
end
theorem rd_mono {S S' : Hp} {a : Addr} {o : HO} (h : Same S S') (r : Rd S a o) : Rd S' a o := by
  rcases r with r | ⟨ob, r⟩
  · exact .inl (h _ _ r)
  · exact .inr ⟨ob, h _ _ r⟩
theorem sqT_mono {K : PySem.W.Frag} {S S' : Hp} {a : Addr} {xs : List V} (h : Same S S') (r : SqT K S a xs) : SqT K S' a xs := by
  rcases r with r | r
  · exact .inl (rd_mono h r)
  · exact .inr r
theorem sqL_mono {K : PySem.W.Frag} {S S' : Hp} {a : Addr} {xs : List V} (h : Same S S') (r : SqL K S a xs) : SqL K S' a xs := by
  rcases r with r | r
  · exact .inl (rd_mono h r)
  · exact .inr r
section
variable {K : PySem.W.Frag} {S S' : Hp}
mutual
theorem Rp.mono (h : Same S S') : ∀ {v : V} {d : D}, Rp K S v d → Rp K S' v d
  | _, _, .non => .non
  | _, _, .bl b => .bl b
  | _, _, .int b => .int b
  | _, _, .str b => .str b
  | _, _, .lst a b => .lst (h _ _ a) (RpAll.mono h b)
  | _, _, .scr a b => .scr (sqL_mono h a) (RpAll.mono h b)
  | _, _, .tup a b => .tup (sqT_mono h a) (RpAll.mono h b)
  | _, _, .dic a b => .dic (rd_mono h a) (RpKs.mono h b)
  | _, _, .dicT a b => .dicT (h _ _ a) (RpTs.mono h b)
  | _, _, .dicF a b => .dicF (h _ _ a) (RpKs.mono h b)
theorem RpAll.mono (h : Same S S') : ∀ {v : List V} {d : List D}, RpAll K S v d → RpAll K S' v d
  | _, _, .nil => .nil
  | _, _, .cons a b => .cons (a.mono h) (RpAll.mono h b)
theorem RpKs.mono (h : Same S S') : ∀ {v : List (Key × V)} {d : List (D × D)}, RpKs K S v d → RpKs K S' v d
  | _, _, .nil => .nil
  | _, _, .cons a b => .cons (a.mono h) (RpKs.mono h b)
theorem RpTs.mono (h : Same S S') : ∀ {v : List (List Key × V)} {d : List (D × D)}, RpTs K S v d → RpTs K S' v d
  | _, _, .nil => .nil
  | _, _, .cons a b => .cons (a.mono h) (RpTs.mono h b)
end
theorem RpAll.len : ∀ {v : List V} {d : List D}, RpAll K S v d → v.length = d.length
  | _, _, .nil => rfl
  | _, _, .cons _ b => congrArg Nat.succ b.len
theorem RpAll.get : ∀ {v : List V} {d : List D} {i : Nat} {x : V}, RpAll K S v d → v[i]? = some x → ∃ y, d[i]? = some y ∧ Rp K S x y
  | _, _, _, _, .nil, h => by simp at h
  | _, _, 0, _, .cons a _, h => by
    obtain rfl := Option.some.inj (show some _ = some _ from h)
    exact ⟨_, rfl, a⟩
  | _, _, i + 1, _, .cons _ b, h => RpAll.get (i := i) b h
theorem RpAll.get' : ∀ {v : List V} {d : List D} {i : Nat} {y : D}, RpAll K S v d → d[i]? = some y → ∃ x, v[i]? = some x ∧ Rp K S x y
  | _, _, _, _, .nil, h => by simp at h
  | _, _, 0, _, .cons a _, h => by
    obtain rfl := Option.some.inj (show some _ = some _ from h)
    exact ⟨_, rfl, a⟩
  | _, _, i + 1, _, .cons _ b, h => RpAll.get' (i := i) b h
theorem RpAll.app : ∀ {v w : List V} {d e : List D}, RpAll K S v d → RpAll K S w e → RpAll K S (v ++ w) (d ++ e)
  | _, _, _, _, .nil, h => h
  | _, _, _, _, .cons a b, h => .cons a (RpAll.app b h)
theorem RpAll.one {v : V} {d : D} (h : Rp K S v d) : RpAll K S [v] [d] := .cons h .nil
theorem RpAll.take : ∀ {v : List V} {d : List D} (n : Nat), RpAll K S v d → RpAll K S (v.take n) (d.take n)
  | _, _, 0, _ => .nil
  | _, _, _ + 1, .nil => .nil
  | _, _, n + 1, .cons a b => .cons a (RpAll.take n b)
theorem RpAll.drop : ∀ {v : List V} {d : List D} (n : Nat), RpAll K S v d → RpAll K S (v.drop n) (d.drop n)
  | _, _, 0, h => h
  | _, _, _ + 1, .nil => .nil
  | _, _, n + 1, .cons _ b => RpAll.drop n b
theorem RpAll.set : ∀ {v : List V} {d : List D} (n : Nat) {x : V} {y : D}, RpAll K S v d → Rp K S x y → RpAll K S (v.set n x) (d.set n y)
  | _, _, _, _, _, .nil, _ => .nil
  | _, _, 0, _, _, .cons _ b, h => .cons h b
  | _, _, n + 1, _, _, .cons a b, h => .cons a (RpAll.set n b h)
end
/-- the shared part and the heap grow; what is owned stays out of the shared part -/
structure Grow (S H S' H' : Hp) : Prop where
  ss : Same S S'
  hh : Same H H'
  sh : Same S' H'
  nw : ∀ a, S a = none → H a ≠ none → S' a = none
theorem Grow.refl {S H : Hp} (h : Same S H) : Grow S H S H := ⟨.refl _, .refl _, h, fun _ h _ => h⟩
theorem ne_none {H H' : Hp} (h : Same H H') {a : Addr} (n : H a ≠ none) : H' a ≠ none := by
  cases e : H a with
  | none => exact absurd e n
  | some o =>
    rw [h _ _ e]
    exact fun z => nomatch z
theorem Grow.trans {S H S1 H1 S2 H2 : Hp} (a : Grow S H S1 H1) (b : Grow S1 H1 S2 H2) : Grow S H S2 H2 :=
  ⟨a.ss.trans b.ss, a.hh.trans b.hh, b.sh, fun c h n => b.nw c (a.nw c h n) (ne_none a.hh n)⟩
theorem same_upd {H : Hp} {p : Addr} {o : HO} (h : H p = none) : Same H (upd H p o) := fun b u q => by
  rw [upd_ne (ne_of_none q h)]
  exact q
/-- a new thing, at once shared -/
theorem Grow.new {S H : Hp} (h : Same S H) {p : Addr} {o : HO} (n : H p = none) : Grow S H (upd S p o) (upd H p o) := by
  refine ⟨same_upd (h.free n), same_upd n, fun b u q => ?_, fun a e z => ?_⟩
  · by_cases hb : b = p
    · rw [hb, upd_same] at q ⊢
      exact q
    · rw [upd_ne hb] at q ⊢
      exact h _ _ q
  · rw [upd_ne (fun q => z (by rw [q]; exact n))]
    exact e
/-- a new thing, not shared -/
theorem Grow.own {S H : Hp} (h : Same S H) {p : Addr} {o : HO} (n : H p = none) : Grow S H S (upd H p o) :=
  ⟨.refl _, same_upd n, h.trans (same_upd n), fun _ h _ => h⟩

/-! ### what is owned: k levels deep -/
def Scal : D → Prop
  | .list _ => False
  | .dict _ => False
  | _ => True
def OwnAll (f : V → D → List Addr → Prop) : List V → List D → List Addr → Prop
  | [], [], P => P = []
  | v :: vs, d :: ds, P => ∃ P1 P2, P = P1 ++ P2 ∧ f v d P1 ∧ OwnAll f vs ds P2
  | _, _, _ => False
def OwnN (K : PySem.W.Frag) (S H : Hp) : Nat → V → D → List Addr → Prop
  | 0, v, d, P => Rp K S v d ∧ P = []
  | k + 1, v, d, P => (Rp K S v d ∧ P = [] ∧ Scal d) ∨ (∃ a xs ds P', v = .ref a ∧ d = .list ds ∧ H a = some (.lst xs) ∧ P = a :: P' ∧ OwnAll (OwnN K S H k) xs ds P') ∨
      (∃ a kvs ds, v = .ref a ∧ d = .dict ds ∧ H a = some (.dK kvs) ∧ P = [a] ∧ RpKs K S kvs ds) ∨ (∃ a kvs ds, v = .ref a ∧ d = .dict ((.tuple [], .none) :: ds) ∧ H a = some (.dT kvs) ∧ P = [a] ∧ RpTs K S kvs ds)
theorem OwnAll.imp {f g : V → D → List Addr → Prop} : ∀ {vs : List V} {ds : List D} {P : List Addr}, OwnAll f vs ds P → (∀ v d P', (∀ a ∈ P', a ∈ P) → f v d P' → g v d P') → OwnAll g vs ds P
  | [], [], _, h, _ => h
  | [], _ :: _, _, h, _ => h.elim
  | _ :: _, [], _, h, _ => h.elim
  | v :: vs, d :: ds, P, ⟨P1, P2, e, h1, h2⟩, q => ⟨P1, P2, e, q _ _ _ (fun a ha => by rw [e]; exact List.mem_append_left _ ha) h1, OwnAll.imp h2 fun v d P' s => q v d P' fun a ha => by rw [e]; exact List.mem_append_right _ (s a ha)⟩
theorem OwnAll.len {f : V → D → List Addr → Prop} : ∀ {vs : List V} {ds : List D} {P : List Addr}, OwnAll f vs ds P → vs.length = ds.length
  | [], [], _, _ => rfl
  | [], _ :: _, _, h => h.elim
  | _ :: _, [], _, h => h.elim
  | _ :: vs, _ :: ds, _, ⟨_, _, _, _, h⟩ => congrArg Nat.succ (OwnAll.len h)
theorem OwnAll.of {K : PySem.W.Frag} {S H : Hp} : ∀ {vs : List V} {ds : List D}, RpAll K S vs ds → OwnAll (OwnN K S H 0) vs ds []
  | _, _, .nil => rfl
  | _, _, .cons a b => ⟨[], [], rfl, ⟨a, rfl⟩, OwnAll.of b⟩
theorem OwnAll.rp {K : PySem.W.Frag} {S H : Hp} : ∀ {vs : List V} {ds : List D} {P : List Addr}, OwnAll (OwnN K S H 0) vs ds P → RpAll K S vs ds ∧ P = []
  | [], [], _, h => ⟨.nil, h⟩
  | [], _ :: _, _, h => h.elim
  | _ :: _, [], _, h => h.elim
  | v :: vs, d :: ds, P, ⟨P1, P2, e, ⟨h1, e1⟩, h2⟩ => by
    obtain ⟨h3, e3⟩ := OwnAll.rp h2
    exact ⟨.cons h1 h3, by rw [e, e1, e3]; rfl⟩
section
variable {K : PySem.W.Frag} {S S' H H' : Hp}
theorem OwnN.mono (hs : Same S S') : ∀ {k : Nat} {v : V} {d : D} {P : List Addr}, OwnN K S H k v d P → (∀ a ∈ P, H' a = H a) → OwnN K S' H' k v d P
  | 0, _, _, _, ⟨h, e⟩, _ => ⟨h.mono hs, e⟩
  | k + 1, v, d, P, h, q => by
    rcases h with ⟨h, e, z⟩ | ⟨a, xs, ds, P', ev, ed, ha, eP, h⟩ | ⟨a, kvs, ds, ev, ed, ha, eP, h⟩ | ⟨a, kvs, ds, ev, ed, ha, eP, h⟩
    · exact .inl ⟨h.mono hs, e, z⟩
    · refine .inr (.inl ⟨a, xs, ds, P', ev, ed, by rw [q a (by rw [eP]; exact List.mem_cons_self)]; exact ha, eP, h.imp fun v d P'' s r => OwnN.mono hs r fun b hb => q b (by rw [eP]; exact List.mem_cons_of_mem _ (s b hb))⟩)
    · exact .inr (.inr (.inl ⟨a, kvs, ds, ev, ed, by rw [q a (by rw [eP]; exact List.mem_cons_self)]; exact ha, eP, h.mono hs⟩))
    · exact .inr (.inr (.inr ⟨a, kvs, ds, ev, ed, by rw [q a (by rw [eP]; exact List.mem_cons_self)]; exact ha, eP, h.mono hs⟩))
/-- what is owned becomes shared -/
def addS (S H : Hp) (P : List Addr) : Hp := fun a => if a ∈ P then H a else S a
theorem addS_in {P : List Addr} {a : Addr} (h : a ∈ P) : addS S H P a = H a := if_pos h
theorem addS_out {P : List Addr} {a : Addr} (h : ¬ a ∈ P) : addS S H P a = S a := if_neg h
theorem addS_nil : addS S H [] = S := by
  funext a
  exact addS_out (by simp)
theorem addS_same {P : List Addr} (h : ∀ a ∈ P, S a = none) : Same S (addS S H P) := fun b o e => by
  rw [addS_out (fun hb => by rw [h b hb] at e; cases e)]
  exact e
theorem addS_sh {P : List Addr} (h : Same S H) : Same (addS S H P) H := fun b o e => by
  by_cases hb : b ∈ P
  · rw [addS_in hb] at e
    exact e
  · rw [addS_out hb] at e
    exact h _ _ e
theorem OwnAll.frz {f : V → D → List Addr → Prop} {T : Hp} : ∀ {vs : List V} {ds : List D} {P : List Addr}, OwnAll f vs ds P → (∀ v d P', (∀ a ∈ P', a ∈ P) → f v d P' → Rp K T v d) → RpAll K T vs ds
  | [], [], _, _, _ => .nil
  | [], _ :: _, _, h, _ => h.elim
  | _ :: _, [], _, h, _ => h.elim
  | v :: vs, d :: ds, P, ⟨P1, P2, e, h1, h2⟩, q => .cons (q _ _ _ (fun a ha => by rw [e]; exact List.mem_append_left _ ha) h1) (OwnAll.frz h2 fun v d P' s => q v d P' fun a ha => by rw [e]; exact List.mem_append_right _ (s a ha))
theorem OwnN.frz {T : Hp} (hs : Same S T) : ∀ {k : Nat} {v : V} {d : D} {P : List Addr}, OwnN K S H k v d P → (∀ a ∈ P, T a = H a) → Rp K T v d
  | 0, _, _, _, ⟨h, _⟩, _ => h.mono hs
  | k + 1, v, d, P, h, q => by
    rcases h with ⟨h, e, z⟩ | ⟨a, xs, ds, P', ev, ed, ha, eP, h⟩ | ⟨a, kvs, ds, ev, ed, ha, eP, h⟩ | ⟨a, kvs, ds, ev, ed, ha, eP, h⟩
    · exact h.mono hs
    · rw [ev, ed]
      exact .lst (by rw [q a (by rw [eP]; exact List.mem_cons_self)]; exact ha) (h.frz fun v d P'' s r => OwnN.frz hs r fun b hb => q b (by rw [eP]; exact List.mem_cons_of_mem _ (s b hb)))
    · rw [ev, ed]
      exact .dic (.inl (by rw [q a (by rw [eP]; exact List.mem_cons_self)]; exact ha)) (h.mono hs)
    · rw [ev, ed]
      exact .dicT (by rw [q a (by rw [eP]; exact List.mem_cons_self)]; exact ha) (h.mono hs)
theorem OwnAll.there {f : V → D → List Addr → Prop} : ∀ {vs : List V} {ds : List D} {P : List Addr}, OwnAll f vs ds P → (∀ v d P', f v d P' → ∀ a ∈ P', H a ≠ none) → ∀ a ∈ P, H a ≠ none
  | [], [], _, h, _ => fun a ha => by rw [show _ = [] from h] at ha; cases ha
  | [], _ :: _, _, h, _ => h.elim
  | _ :: _, [], _, h, _ => h.elim
  | v :: vs, d :: ds, P, ⟨P1, P2, e, h1, h2⟩, q => fun a ha => by
    rw [e] at ha
    rcases List.mem_append.mp ha with ha | ha
    · exact q _ _ _ h1 a ha
    · exact OwnAll.there h2 q a ha
theorem OwnN.there : ∀ {k : Nat} {v : V} {d : D} {P : List Addr}, OwnN K S H k v d P → ∀ a ∈ P, H a ≠ none
  | 0, _, _, _, ⟨_, e⟩ => fun a ha => by rw [e] at ha; cases ha
  | k + 1, v, d, P, h => fun b hb => by
    rcases h with ⟨h, e, z⟩ | ⟨a, xs, ds, P', ev, ed, ha, eP, h⟩ | ⟨a, kvs, ds, ev, ed, ha, eP, h⟩ | ⟨a, kvs, ds, ev, ed, ha, eP, h⟩
    · rw [e] at hb
      cases hb
    · rw [eP] at hb
      rcases List.mem_cons.mp hb with hb | hb
      · rw [hb, ha]
        exact fun z => nomatch z
      · exact h.there (fun v d P' r => OwnN.there r) b hb
    · rw [eP] at hb
      rw [List.mem_singleton.mp hb, ha]
      exact fun z => nomatch z
    · rw [eP] at hb
      rw [List.mem_singleton.mp hb, ha]
      exact fun z => nomatch z
theorem Grow.frz {S0 H0 : Hp} {P : List Addr} (g : Grow S0 H0 S H) (h : ∀ a ∈ P, S a = none ∧ H0 a = none) : Grow S0 H0 (addS S H P) H :=
  ⟨g.ss.trans (addS_same fun a ha => (h a ha).1), g.hh, addS_sh g.sh, fun a e n => by
    rw [addS_out fun ha => n (h a ha).2]
    exact g.nw a e n⟩
end

/-! ### a frame's slots -/
/-- the exception that a suite holds: its slot, its address, its own dict, its fields -/
structure Exi where
  slot : Nat
  a : Addr
  dd : Option Addr
  fs : List (Str × D)
def scV : D → V
  | .bool b => .bl b
  | .int i => .int i
  | .str x => .str x
  | _ => .non
def fldV (fs : List (Str × D)) : List (Str × V) := fs.map fun p => (p.1, scV p.2)
/-- an exception's own dict -/
def ExcD (S : Hp) (dd : Option Addr) (fs : List (Str × D)) : Prop := (fs = [] ∧ dd = none) ∨ ∃ a, dd = some a ∧ S a = some (.xd (fldV fs))
theorem ExcD.mono {S S' : Hp} {dd : Option Addr} {fs : List (Str × D)} (h : Same S S') (x : ExcD S dd fs) : ExcD S' dd fs := by
  rcases x with x | ⟨a, e, x⟩
  · exact .inl x
  · exact .inr ⟨a, e, h _ _ x⟩
structure Good (K : PySem.W.Frag) (S0 H0 : Hp) (J : Option Exi) (ω : List Nat) (σ : St) (ρ : Rho) (S H : Hp) (P : Nat → List Addr) : Prop where
  g : Grow S0 H0 S H
  ln : σ.length = ρ.length
  lw : ω.length = ρ.length
  sl : ∀ i d, ρ[i]? = some (some d) → ∃ v, σ[i]? = some (some v) ∧ OwnN K S H (ω.getD i 0) v d (P i)
  pn : ∀ i, ∀ a ∈ P i, S a = none ∧ H0 a = none ∧ H a ≠ none
  nd : ∀ i, (P i).Nodup
  dj : ∀ i j a, i ≠ j → a ∈ P i → a ∈ P j → False
  xi : ∀ q, J = some q → σ[q.slot]? = some (some (.ref q.a)) ∧ ExcD S q.dd q.fs
section
variable {K : PySem.W.Frag} {S0 H0 S H S' H' : Hp} {J : Option Exi} {ω : List Nat} {σ : St} {ρ : Rho} {P : Nat → List Addr}
theorem Good.grow (G : Good K S0 H0 J ω σ ρ S H P) (g : Grow S H S' H') : Good K S0 H0 J ω σ ρ S' H' P where
  g := G.g.trans g
  ln := G.ln
  lw := G.lw
  sl := fun i d e => by
    obtain ⟨v, h1, h2⟩ := G.sl i d e
    refine ⟨v, h1, h2.mono g.ss fun a ha => ?_⟩
    cases q : H a with
    | none => exact absurd q (G.pn i a ha).2.2
    | some o => exact g.hh _ _ q
  pn := fun i a ha => by
    obtain ⟨h1, h2, h3⟩ := G.pn i a ha
    exact ⟨g.nw a h1 h3, h2, ne_none g.hh h3⟩
  nd := G.nd
  dj := G.dj
  xi := fun q e => ⟨(G.xi q e).1, (G.xi q e).2.mono g.ss⟩
/-- slot i's things become shared -/
theorem Good.frz (G : Good K S0 H0 J ω σ ρ S H P) (i : Nat) : Good K S0 H0 J (ω.set i 0) σ ρ (addS S H (P i)) H fun j => if j = i then [] else P j := by
  have hs : Same S (addS S H (P i)) := addS_same fun a ha => (G.pn i a ha).1
  refine ⟨G.g.frz fun a ha => ⟨(G.pn i a ha).1, (G.pn i a ha).2.1⟩, G.ln, by rw [List.length_set]; exact G.lw, fun j d e => ?_, fun j a ha => ?_, fun j => ?_, fun j l a hjl h1 h2 => ?_, fun q e => ⟨(G.xi q e).1, (G.xi q e).2.mono hs⟩⟩
  · obtain ⟨v, h1, h2⟩ := G.sl j d e
    refine ⟨v, h1, ?_⟩
    by_cases hj : j = i
    · subst hj
      have e0 : (ω.set j 0).getD j 0 = 0 := by
        rw [List.getD_eq_getElem?_getD, List.getElem?_set]
        split
        · split <;> rfl
        · rename_i z
          exact absurd rfl z
      rw [e0, if_pos rfl]
      exact ⟨h2.frz hs fun a ha => addS_in ha, rfl⟩
    · have e0 : (ω.set i 0).getD j 0 = ω.getD j 0 := by
        rw [List.getD_eq_getElem?_getD, List.getD_eq_getElem?_getD, List.getElem?_set_ne (fun z => hj z.symm)]
      rw [e0, if_neg hj]
      exact h2.mono hs fun a _ => rfl
  · split at ha
    · cases ha
    · rename_i hj
      refine ⟨?_, (G.pn j a ha).2⟩
      rw [addS_out fun h => G.dj j i a hj ha h]
      exact (G.pn j a ha).1
  · split
    · exact .nil
    · exact G.nd j
  · split at h1
    · cases h1
    · split at h2
      · cases h2
      · exact G.dj j l a hjl h1 h2
/-- a slot gets a new value -/
theorem Good.set (G : Good K S0 H0 J ω σ ρ S H P) {i k : Nat} {v : V} {d : D} {Q : List Addr} (hi : i < ω.length) (h : OwnN K S H k v d Q) (hn : Q.Nodup) (hq : ∀ a ∈ Q, S a = none ∧ H0 a = none ∧ ∀ j, j ≠ i → a ∈ P j → False)
    (hJ : ∀ q, J = some q → q.slot ≠ i) : Good K S0 H0 J (ω.set i k) (σ.set i (some v)) (ρ.set i (some d)) S H fun j => if j = i then Q else P j := by
  refine ⟨G.g, by rw [List.length_set, List.length_set]; exact G.ln, by rw [List.length_set, List.length_set]; exact G.lw, fun j d' e => ?_, fun j a ha => ?_, fun j => ?_, fun j l a hjl h1 h2 => ?_, fun q e => ⟨?_, (G.xi q e).2⟩⟩
  · by_cases hj : j = i
    · subst hj
      rw [List.getElem?_set] at e
      rw [if_pos rfl] at e
      split at e
      · rename_i hl
        obtain rfl : d = d' := Option.some.inj (Option.some.inj e)
        refine ⟨v, ?_, ?_⟩
        · rw [List.getElem?_set, if_pos rfl, if_pos (by rw [G.ln]; exact hl)]
        · rw [List.getD_eq_getElem?_getD, List.getElem?_set, if_pos rfl, if_pos hi, if_pos rfl]
          exact h
      · cases e
    · rw [List.getElem?_set_ne (fun z => hj z.symm)] at e
      obtain ⟨v', h1, h2⟩ := G.sl j d' e
      refine ⟨v', ?_, ?_⟩
      · rw [List.getElem?_set_ne (fun z => hj z.symm)]
        exact h1
      · rw [List.getD_eq_getElem?_getD, List.getElem?_set_ne (fun z => hj z.symm), ← List.getD_eq_getElem?_getD, if_neg hj]
        exact h2
  · split at ha
    · exact ⟨(hq a ha).1, (hq a ha).2.1, h.there a ha⟩
    · exact G.pn j a ha
  · split
    · exact hn
    · exact G.nd j
  · split at h1
    · split at h2
      · rename_i e1 e2
        exact hjl (e1.trans e2.symm)
      · rename_i _ z
        exact (hq a h1).2.2 l z h2
    · split at h2
      · rename_i z _
        exact (hq a h2).2.2 j z h1
      · exact G.dj j l a hjl h1 h2
  · rw [List.getElem?_set_ne (fun z => hJ q e z.symm)]
    exact (G.xi q e).1
/-- a slot's value is forgotten -/
theorem Good.forget (G : Good K S0 H0 J ω σ ρ S H P) (i : Nat) : Good K S0 H0 J ω σ (ρ.set i none) S H P := by
  refine ⟨G.g, by rw [List.length_set]; exact G.ln, by rw [List.length_set]; exact G.lw, fun j d e => ?_, G.pn, G.nd, G.dj, G.xi⟩
  by_cases hj : j = i
  · rw [hj, List.getElem?_set] at e
    rw [if_pos rfl] at e
    split at e <;> cases e
  · rw [List.getElem?_set_ne (fun z => hj z.symm)] at e
    exact G.sl j d e
end
end Pu
end

section
set_option Elab.async false
set_option linter.all false
set_option maxRecDepth 100000
set_option maxHeartbeats 2000000
/-! Pu2: the judgements and the expressions. -/
namespace Pu
open PySem PySem.Spec PyProof.Rows L2

/-- what does not change in a def: the wish for exceptions, the suite's exception -/
structure Sx where
  W : WX
  J : Option Exi := none
abbrev Rel (β α : Type) := Hp → Hp → Hp → Hp → β → α → Prop
def An {β α : Type} (rel : Rel β α) : Prop := ∀ S H S1 H1 S' H' x d, Grow S H S1 H1 → rel S1 H1 S' H' x d → rel S H S' H' x d
section
variable (K : PySem.W.Frag) (Z : Sx) (ω : List Nat)
def relP : Rel V D := fun _ _ S' _ v d => Rp K S' v d
/-- what may be read: shared, or owned one level deep -/
def Rq (S H : Hp) (v : V) (d : D) : Prop := Rp K S v d ∨ ∃ P, OwnN K S H 1 v d P
def relQ : Rel V D := fun _ _ S' H' v d => Rq K S' H' v d
def relAQ : Rel (List V) (List D) := fun _ _ S' H' v d => Paired (Rq K S' H') v d
def relF (k : Nat) : Rel V D := fun _ H S' H' v d => ∃ P, OwnN K S' H' k v d P ∧ P.Nodup ∧ ∀ a ∈ P, S' a = none ∧ H a = none
def relA : Rel (List V) (List D) := fun _ _ S' _ v d => RpAll K S' v d
def relB : Rel Bool Bool := fun _ _ _ _ v d => v = d
/-- what is wanted, by what comes out -/
def Cl {β α : Type} (rel : Rel β α) (σ : St) (Q : β → Hp → Prop) (S H : Hp) : R α → Prop
  | .ok d => ∀ v S' H', Grow S H S' H' → rel S H S' H' v d → Q v H'
  | .ex c fs => ∀ dd S' H', Grow S H S' H' → ExcD S' dd fs → Z.W (.ref (He.ga K c)) dd σ H'
  | .bad => False
/-- the frame stands so -/
def At (σ : St) (S H : Hp) (ρ : Rho) : Prop := ∃ S0 H0 P, Good K S0 H0 Z.J ω σ ρ S H P
def tI {β α : Type} (rel : Rel β α) (f : Rho → R α) : St → Hp → (β → Hp → Prop) → Prop := fun σ H Q => ∃ S ρ, At K Z ω σ S H ρ ∧ Cl K Z rel σ Q S H (f ρ)
end
theorem an_P {K : PySem.W.Frag} : An (relP K) := fun _ _ _ _ _ _ _ _ _ h => h
theorem an_Q {K : PySem.W.Frag} : An (relQ K) := fun _ _ _ _ _ _ _ _ _ h => h
theorem an_AQ {K : PySem.W.Frag} : An (relAQ K) := fun _ _ _ _ _ _ _ _ _ h => h
theorem an_A {K : PySem.W.Frag} : An (relA K) := fun _ _ _ _ _ _ _ _ _ h => h
theorem an_B : An relB := fun _ _ _ _ _ _ _ _ _ h => h
theorem an_F {K : PySem.W.Frag} {k : Nat} : An (relF K k) := fun _ _ _ _ _ _ _ _ g ⟨P, h1, h2, h3⟩ => ⟨P, h1, h2, fun a ha => ⟨(h3 a ha).1, g.hh.free (h3 a ha).2⟩⟩
section
variable {K : PySem.W.Frag} {Z : Sx} {ω : List Nat} {σ : St} {S H S1 H1 : Hp} {ρ : Rho}
theorem At.grow (h : At K Z ω σ S H ρ) (g : Grow S H S1 H1) : At K Z ω σ S1 H1 ρ := by
  obtain ⟨S0, H0, P, G⟩ := h
  exact ⟨S0, H0, P, G.grow g⟩
theorem At.sh (h : At K Z ω σ S H ρ) : Same S H := by
  obtain ⟨S0, H0, P, G⟩ := h
  exact G.g.sh
theorem Cl.grow {β α : Type} {rel : Rel β α} (a : An rel) {Q : β → Hp → Prop} {r : R α} (h : Cl K Z rel σ Q S H r) (g : Grow S H S1 H1) : Cl K Z rel σ Q S1 H1 r := by
  cases r with
  | ok d => exact fun v S' H' g' hr => h v S' H' (g.trans g') (a _ _ _ _ _ _ _ _ g hr)
  | ex c fs => exact fun dd S' H' g' x => h dd S' H' (g.trans g') x
  | bad => exact h
theorem tI.seq {β α β' α' : Type} {rel1 : Rel β α} {rel2 : Rel β' α'} {f : Rho → R α} {g : α → R α'} {Q : β' → Hp → Prop} {Q1 : β → Hp → Prop} (a : An rel2) (h : At K Z ω σ S H ρ) (c : Cl K Z rel2 σ Q S H ((f ρ).bind g))
    (hq : ∀ x S1 H1 d, Grow S H S1 H1 → rel1 S H S1 H1 x d → Cl K Z rel2 σ Q S1 H1 (g d) → Q1 x H1) : tI K Z ω rel1 f σ H Q1 := by
  refine ⟨S, ρ, h, ?_⟩
  cases e : f ρ with
  | ok d =>
    rw [e] at c
    exact fun v S' H' g' hr => hq v S' H' d g' hr (c.grow a g')
  | ex c' fs =>
    rw [e] at c
    exact fun dd S' H' g' x => c dd S' H' g' x
  | bad =>
    rw [e] at c
    exact c.elim
/-- at the end of a bind -/
theorem tI.last {β α : Type} {rel : Rel β α} {f : Rho → R α} {Q : β → Hp → Prop} (h : At K Z ω σ S H ρ) (c : Cl K Z rel σ Q S H (f ρ)) : tI K Z ω rel f σ H Q := ⟨S, ρ, h, c⟩
end

/-! ### the judgements -/
section
variable (X : Cx) (Z : Sx) (ω : List Nat)
abbrev RP (e : Expr) (f : SE) : Prop := PE X e (tI X.K Z ω (relP X.K) f)
abbrev RQ (e : Expr) (f : SE) : Prop := PE X e (tI X.K Z ω (relQ X.K) f)
abbrev RAQ (es : List Expr) (f : SA) : Prop := PA X es (tI X.K Z ω (relAQ X.K) f)
abbrev RF (k : Nat) (e : Expr) (f : SE) : Prop := PE X e (tI X.K Z ω (relF X.K k) f)
abbrev RA (es : List Expr) (f : SA) : Prop := PA X es (tI X.K Z ω (relA X.K) f)
abbrev RT (e : Expr) (f : SB) : Prop := PT X e (tI X.K Z ω relB f)
abbrev RW (e : Expr) (f : SB) : Prop := PW X e (tI X.K Z ω relB f)
end
theorem PE.of {X : Cx} {e : Expr} {t t' : TE} (h : PE X e t) (i : ∀ σ H Q, t' σ H Q → t σ H Q) : PE X e t' := ⟨fun pins s σ H Q I q => h.run pins s σ H Q I (i σ H Q q)⟩
theorem PT.of {X : Cx} {e : Expr} {t t' : TT} (h : PT X e t) (i : ∀ σ H Q, t' σ H Q → t σ H Q) : PT X e t' := ⟨fun pins s σ H Q I q => h.run pins s σ H Q I (i σ H Q q)⟩
theorem PW.of {X : Cx} {e : Expr} {t t' : TT} (h : PW X e t) (i : ∀ σ H Q, t' σ H Q → t σ H Q) : PW X e t' := ⟨fun wh pins s σ H Q I q => h.run wh pins s σ H Q I (i σ H Q q)⟩
theorem PA.of {X : Cx} {e : List Expr} {t t' : TA} (h : PA X e t) (i : ∀ σ H Q, t' σ H Q → t σ H Q) : PA X e t' := ⟨fun pos pins s σ H Q I q => h.run pos pins s σ H Q I (i σ H Q q)⟩

/-! ### the pure readings -/
def sVar (i : Nat) : SE := fun ρ => match ρ[i]? with
  | some (some d) => .ok d
  | _ => .bad
def sC (d : D) : SE := fun _ => .ok d
def s2 (g : D → D → R D) (fa fb : SE) : SE := fun ρ => (fa ρ).bind fun x => (fb ρ).bind fun y => g x y
def s1 (g : D → R D) (fa : SE) : SE := fun ρ => (fa ρ).bind g
def sCall (g : List D → R D) (fa : SA) : SE := fun ρ => (fa ρ).bind g
def aNil : SA := fun _ => .ok []
def aCons (fa : SE) (fr : SA) : SA := fun ρ => (fa ρ).bind fun x => (fr ρ).bind fun xs => .ok (x :: xs)
def asB : D → R Bool
  | .bool b => .ok b
  | _ => .bad
def tB' (fa : SE) : SB := fun ρ => (fa ρ).bind asB
def ofB (ft : SB) : SE := fun ρ => (ft ρ).bind fun b => .ok (.bool b)
def tAnd' (fa fb : SB) : SB := fun ρ => (fa ρ).bind fun b => if b = true then fb ρ else .ok false
def tOr' (fa fb : SB) : SB := fun ρ => (fa ρ).bind fun b => if b = true then .ok true else fb ρ
def tNot' (fa : SB) : SB := fun ρ => (fa ρ).bind fun b => .ok (!b)
def sIf (ft : SB) (fa fb : SE) : SE := fun ρ => (ft ρ).bind fun b => if b = true then fa ρ else fb ρ
def sAndV (fa fb : SE) : SE := fun ρ => (fa ρ).bind fun x => (asB x).bind fun b => if b = true then fb ρ else .ok (.bool false)
def sOrV (fa fb : SE) : SE := fun ρ => (fa ρ).bind fun x => (asB x).bind fun b => if b = true then .ok (.bool true) else fb ρ
def sNotV (fa : SE) : SE := fun ρ => (fa ρ).bind fun x => (asB x).bind fun b => .ok (.bool (!b))
def atom : D → Bool
  | .none => true
  | .bool _ => true
  | .int _ => true
  | .str _ => true
  | _ => false
def sAtom (f : SE) : SE := fun ρ => (f ρ).bind fun d => if atom d = true then .ok d else .bad

/-! ### names and constants -/
section
variable {X : Cx} {Z : Sx} {ω : List Nat} {a b : Expr} {fa fb : SE} {pos : Pos}
theorem At.slot {K : PySem.W.Frag} {σ : St} {S H : Hp} {ρ : Rho} (h : At K Z ω σ S H ρ) {i : Nat} {d : D} (e : ρ[i]? = some (some d)) : ∃ v P, σ[i]? = some (some v) ∧ OwnN K S H (ω.getD i 0) v d P := by
  obtain ⟨S0, H0, P, G⟩ := h
  obtain ⟨v, h1, h2⟩ := G.sl i d e
  exact ⟨v, _, h1, h2⟩
theorem var_run {rel : Rel V D} {i : Nat} {x : Str} (hr : ∀ S H v d P, OwnN X.K S H (ω.getD i 0) v d P → rel S H S H v d) (hN : X.N[i]? = some x) (hv : Vis X.env.scope x) (hd : (x == ("__debug__" : Str)) = false) (hcd : (x == ("__classdict__" : Str)) = false) :
    PE X (.Name x pos) (tI X.K Z ω rel (sVar i)) := by
  refine PE.of (pe_var (i := i) hN hv hd hcd) fun σ H Q ⟨S, ρ, h, c⟩ => ?_
  unfold sVar at c
  split at c
  · rename_i d e
    obtain ⟨v, P, h1, h2⟩ := h.slot e
    exact ⟨v, h1, c v S H (.refl h.sh) (hr _ _ _ _ _ h2)⟩
  · exact c.elim
theorem rv (i : Nat) {x : Str} (hk : ω.getD i 0 = 0 := by rfl) (hN : X.N[i]? = some x := by rfl) (hv : Vis X.env.scope x := by first | exact Or.inl rfl | exact Or.inr (Or.inl rfl) | exact Or.inr (Or.inr rfl)) (hd : (x == ("__debug__" : Str)) = false := by decide)
    (hcd : (x == ("__classdict__" : Str)) = false := by decide) : RP X Z ω (.Name x pos) (sVar i) := var_run (fun S H v d P h => by rw [hk] at h; exact h.1) hN hv hd hcd
/-- a slot that owns its list -/
theorem qv (i : Nat) {x : Str} (hk : ω.getD i 0 = 1 := by rfl) (hN : X.N[i]? = some x := by rfl) (hv : Vis X.env.scope x := by first | exact Or.inl rfl | exact Or.inr (Or.inl rfl) | exact Or.inr (Or.inr rfl)) (hd : (x == ("__debug__" : Str)) = false := by decide)
    (hcd : (x == ("__classdict__" : Str)) = false := by decide) : RQ X Z ω (.Name x pos) (sVar i) := var_run (fun S H v d P h => by rw [hk] at h; exact .inr ⟨P, h⟩) hN hv hd hcd
/-- another relation -/
theorem tI.rel {β α : Type} {rel rel' : Rel β α} {K : PySem.W.Frag} {f : Rho → R α} {σ : St} {H : Hp} {Q : β → Hp → Prop} (hr : ∀ S H S' H' v d, Grow S H S' H' → rel S H S' H' v d → ∃ S'', Grow S H S'' H' ∧ rel' S H S'' H' v d) (h : tI K Z ω rel' f σ H Q) : tI K Z ω rel f σ H Q := by
  obtain ⟨S, ρ, h, c⟩ := h
  refine ⟨S, ρ, h, ?_⟩
  cases e : f ρ with
  | ok d =>
    rw [e] at c
    intro v S' H' g r
    obtain ⟨S'', g', r'⟩ := hr _ _ _ _ _ _ g r
    exact c v S'' H' g' r'
  | ex c' fs =>
    rw [e] at c
    exact c
  | bad =>
    rw [e] at c
    exact c
theorem rq_of {e : Expr} {f : SE} (h : RP X Z ω e f) : RQ X Z ω e f := PE.of h fun _ _ _ => tI.rel fun _ _ S' _ _ _ g r => ⟨S', g, .inl r⟩
theorem rf_of {e : Expr} {f : SE} (h : RP X Z ω e f) : RF X Z ω 0 e f := PE.of h fun _ _ _ => tI.rel fun _ _ S' _ _ _ g r => ⟨S', g, [], ⟨r, rfl⟩, .nil, fun a ha => nomatch ha⟩
/-- what was just made may be shared -/
theorem rp_frz {k : Nat} {e : Expr} {f : SE} (h : RF X Z ω k e f) : RP X Z ω e f := PE.of h fun _ _ _ => tI.rel fun S H S' H' v d g ⟨P, hr, _, hP⟩ =>
  ⟨addS S' H' P, g.frz hP, hr.frz (addS_same fun a ha => (hP a ha).1) fun a ha => addS_in ha⟩
theorem rq_new {e : Expr} {f : SE} (h : RF X Z ω 1 e f) : RQ X Z ω e f := PE.of h fun _ _ _ => tI.rel fun S H S' H' v d g ⟨P, hr, _, hP⟩ => ⟨S', g, .inr ⟨P, hr⟩⟩
theorem r_const {v : V} {d : D} {e : Expr} (he : PE X e (tC v)) (hr : ∀ S, Rp X.K S v d) : RP X Z ω e (sC d) := PE.of he fun σ H Q ⟨S, ρ, h, c⟩ => c v S H (.refl h.sh) (hr S)
theorem r_int {i : Int} {j : Nat} : RP X Z ω (.Constant (.int i) j pos) (sC (.int i)) := r_const pe_int fun _ => .int i
theorem r_bl {i : Bool} {j : Nat} : RP X Z ω (.Constant (.bool i) j pos) (sC (.bool i)) := r_const pe_bl fun _ => .bl i
theorem r_non {j : Nat} : RP X Z ω (.Constant .none j pos) (sC .none) := r_const pe_non fun _ => .non
theorem r_str {i : Str} {j : Nat} : RP X Z ω (.Constant (.str i) j pos) (sC (.str i)) := r_const pe_str fun _ => .str i
theorem r_gint {x : Str} {i : Int} (hm : ∃ t, X.mg x = some (.int i t)) (hg : Gl X x := by rfl) (hd : (x == ("__debug__" : Str)) = false := by decide) : RP X Z ω (.Name x pos) (sC (.int i)) := by
  obtain ⟨t, e⟩ := hm
  exact r_const (pe_glob (v := .int i) hg e ⟨t, rfl⟩ hd) fun _ => .int i

/-! ### operators by values -/
/-- if so, then the value -/
def rIf {α : Type} (c : Prop) [Decidable c] (d : α) : R α := if c then .ok d else .bad
theorem rIf_ok {α : Type} {c : Prop} [Decidable c] {d e : α} (h : rIf c d = .ok e) : c ∧ d = e := by
  unfold rIf at h
  by_cases q : c
  · rw [if_pos q] at h
    exact ⟨q, R.ok.inj h⟩
  · rw [if_neg q] at h
    exact nomatch h
theorem rIf_ex {α : Type} {c : Prop} [Decidable c] {d : α} {k : Str} {fs : List (Str × D)} : rIf c d ≠ .ex k fs := by
  intro h
  unfold rIf at h
  by_cases q : c
  · rw [if_pos q] at h
    exact nomatch h
  · rw [if_neg q] at h
    exact nomatch h
@[simp] theorem rIf_pos {α : Type} {c : Prop} [Decidable c] {d : α} (h : c) : rIf c d = .ok d := if_pos h
/-- what an operator does: its rule r, the data g -/
structure OpD (K : PySem.W.Frag) (rel : Rel V D) (r : R2) (g : D → D → R D) : Prop where
  ne : ∀ a b c fs, g a b ≠ .ex c fs
  ok : ∀ S H x y dx dy, Same S H → Rq K S H x dx → Rq K S H y dy → ∀ d, g dx dy = .ok d → ∀ Q : VK, (∀ v S' H', Grow S H S' H' → rel S H S' H' v d → Q v H') → r x y H Q
theorem Rq.up {K : PySem.W.Frag} {S H S1 H1 : Hp} (g : Grow S H S1 H1) {v : V} {d : D} (h : Rq K S H v d) : Rq K S1 H1 v d := by
  rcases h with h | ⟨P, h⟩
  · exact .inl (h.mono g.ss)
  refine .inr ⟨P, h.mono g.ss fun a ha => ?_⟩
  cases e : H a with
  | none => exact absurd e (h.there a ha)
  | some o => exact g.hh _ _ e
theorem op_run {rel : Rel V D} {r : R2} {g : D → D → R D} (an : An rel) (o : OpD X.K rel r g) {ta tb : TE} (ea : ta = tI X.K Z ω (relQ X.K) fa) (eb : tb = tI X.K Z ω (relQ X.K) fb) {σ : St} {H : Hp} {Q : VK} (h : tI X.K Z ω rel (s2 g fa fb) σ H Q) : tOp r ta tb σ H Q := by
  subst ea eb
  obtain ⟨S, ρ, h, c⟩ := h
  refine tI.seq (g := fun x => (fb ρ).bind fun y => g x y) an h c fun x S1 H1 dx g1 rx c1 => ?_
  have h1 := h.grow g1
  refine tI.seq (g := fun y => g dx y) an h1 c1 fun y S2 H2 dy g2 ry c2 => ?_
  cases e : g dx dy with
  | ok d =>
    rw [e] at c2
    exact o.ok S2 H2 x y dx dy g2.sh (Rq.up g2 rx) ry d e Q c2
  | ex c fs => exact (o.ne _ _ _ _ e).elim
  | bad =>
    rw [e] at c2
    exact c2.elim
theorem r_op {op : Operator} {rel : Rel V D} {r : R2} {g : D → D → R D} (an : An rel) (ho : OpR X (binaryOp op) r) (o : OpD X.K rel r g) (ha : RQ X Z ω a fa) (hb : RQ X Z ω b fb) : PE X (.BinOp a op b pos) (tI X.K Z ω rel (s2 g fa fb)) :=
  PE.of (pe_op ho ha hb) fun σ H Q h => op_run an o rfl rfl h
theorem r_cmp {op : CmpOp} {rel : Rel V D} {r : R2} {g : D → D → R D} (an : An rel) (ho : OpR X (compareOp op) r) (o : OpD X.K rel r g) (ha : RQ X Z ω a fa) (hb : RQ X Z ω b fb) (hm : behindInMarks op b = false) :
    PE X (.Compare a [op] [b] pos) (tI X.K Z ω rel (s2 g fa fb)) :=
  PE.of (pe_cmpR ho ha hb hm) fun σ H Q h => op_run an o rfl rfl h
theorem bool_rp {K : PySem.W.Frag} {S : Hp} {v : V} {b : Bool} (h : Rp K S v (.bool b)) : v = .bl b := by
  cases h
  rfl
/-- a value that is a bool, as a test -/
theorem as_test {K : PySem.W.Frag} {f : SE} {σ : St} {H : Hp} {Q : Bool → Hp → Prop} (h : tI K Z ω relB (tB' f) σ H Q) : tI K Z ω (relP K) f σ H fun x H1 => ∃ k, x = .bl k ∧ Q k H1 := by
  obtain ⟨S, ρ, h, c⟩ := h
  refine tI.seq an_B h c fun x S1 H1 d g1 rx c1 => ?_
  cases d with
  | bool b =>
    rw [bool_rp rx]
    exact ⟨b, rfl, c1 b S1 H1 (.refl g1.sh) rfl⟩
  | _ => exact c1.elim
theorem t_cmp {op : CmpOp} {r : R2} {g : D → D → R D} (ho : OpR X (compareOp op) r) (o : OpD X.K (relP X.K) r g) (ha : RQ X Z ω a fa) (hb : RQ X Z ω b fb) (hm : behindInMarks op b = false) :
    RT X Z ω (.Compare a [op] [b] pos) (tB' (s2 g fa fb)) :=
  PT.of (pt_cmpR ho ha hb hm) fun σ H Q h => op_run an_P o rfl rfl (as_test h)
theorem t_val {e : Expr} {f : SE} (h : RP X Z ω e f) (he : ∀ whole, isTrue e X.env whole = (do let v ← whole; standAt e.pos; holding [v] (truthy v)) := by intro _; rfl) : RT X Z ω e (tB' f) :=
  PT.of (pt_val h he) fun σ H Q h => as_test h

/-! ### and, or, not -/
variable {c : Expr} {rest : List Expr} {ta tb : SB}
theorem t_not (h : RT X Z ω a ta) : RT X Z ω (.UnaryOp .Not a pos) (tNot' ta) := PT.of (pt_not h) fun σ H Q ⟨S, ρ, h, c⟩ =>
  tI.seq an_B h c fun x S1 H1 d g1 rx c1 => by
    have e : x = d := rx
    rw [e]
    exact c1 (!d) S1 H1 (.refl g1.sh) rfl
theorem w_and1 (h : RT X Z ω a ta) : RW X Z ω (.BoolOp .And [a] pos) ta := pw_and1 h
theorem w_or1 (h : RT X Z ω a ta) : RW X Z ω (.BoolOp .Or [a] pos) ta := pw_or1 h
theorem w_and (h : RT X Z ω a ta) (h2 : RW X Z ω (.BoolOp .And (b :: rest) pos) tb) : RW X Z ω (.BoolOp .And (a :: b :: rest) pos) (tAnd' ta tb) := PW.of (pw_and h h2) fun σ H Q ⟨S, ρ, h, c⟩ =>
  tI.seq an_B h c fun x S1 H1 d g1 rx c1 => by
    have e : x = d := rx
    subst e
    cases x with
    | true => exact iteT ⟨S1, ρ, h.grow g1, c1⟩
    | false => exact iteF (c1 false S1 H1 (.refl g1.sh) rfl)
theorem w_or (h : RT X Z ω a ta) (h2 : RW X Z ω (.BoolOp .Or (b :: rest) pos) tb) : RW X Z ω (.BoolOp .Or (a :: b :: rest) pos) (tOr' ta tb) := PW.of (pw_or h h2) fun σ H Q ⟨S, ρ, h, c⟩ =>
  tI.seq an_B h c fun x S1 H1 d g1 rx c1 => by
    have e : x = d := rx
    subst e
    cases x with
    | true => exact iteT (c1 true S1 H1 (.refl g1.sh) rfl)
    | false => exact iteF ⟨S1, ρ, h.grow g1, c1⟩
theorem t_w {e : Expr} {f : SB} (h : RW X Z ω e f) : RT X Z ω e f := PW.pt h
theorem r_one {op : BoolOp} (h : RP X Z ω a fa) : RP X Z ω (.BoolOp op [a] pos) fa := pe_one h
theorem r_and (h : RP X Z ω a fa) (h2 : RP X Z ω (.BoolOp .And (b :: rest) pos) fb) : RP X Z ω (.BoolOp .And (a :: b :: rest) pos) (sAndV fa fb) := PE.of (pe_and h h2) fun σ H Q ⟨S, ρ, h, c⟩ =>
  tI.seq an_P h c fun x S1 H1 d g1 rx c1 => by
    cases d with
    | bool b =>
      rw [bool_rp rx]
      refine ⟨b, rfl, ?_⟩
      cases b with
      | true => exact iteT ⟨S1, ρ, h.grow g1, c1⟩
      | false => exact iteF (c1 _ S1 H1 (.refl g1.sh) (.bl false))
    | _ => exact c1.elim
theorem r_or (h : RP X Z ω a fa) (h2 : RP X Z ω (.BoolOp .Or (b :: rest) pos) fb) : RP X Z ω (.BoolOp .Or (a :: b :: rest) pos) (sOrV fa fb) := PE.of (pe_or h h2) fun σ H Q ⟨S, ρ, h, c⟩ =>
  tI.seq an_P h c fun x S1 H1 d g1 rx c1 => by
    cases d with
    | bool b =>
      rw [bool_rp rx]
      refine ⟨b, rfl, ?_⟩
      cases b with
      | true => exact iteT (c1 _ S1 H1 (.refl g1.sh) (.bl true))
      | false => exact iteF ⟨S1, ρ, h.grow g1, c1⟩
    | _ => exact c1.elim
theorem r_not (h : RP X Z ω a fa) : RP X Z ω (.UnaryOp .Not a pos) (sNotV fa) := PE.of (pe_not h) fun σ H Q ⟨S, ρ, h, c⟩ =>
  tI.seq an_P h c fun x S1 H1 d g1 rx c1 => by
    cases d with
    | bool b =>
      rw [bool_rp rx]
      exact ⟨b, rfl, c1 _ S1 H1 (.refl g1.sh) (.bl (!b))⟩
    | _ => exact c1.elim
theorem r_ifexp {rel : Rel V D} (an : An rel) (hc : RT X Z ω c ta) (ha : PE X a (tI X.K Z ω rel fa)) (hb : PE X b (tI X.K Z ω rel fb)) : PE X (.IfExp c a b pos) (tI X.K Z ω rel (sIf ta fa fb)) := PE.of (pe_ifExp hc ha hb) fun σ H Q ⟨S, ρ, h, c⟩ =>
  tI.seq an h c fun x S1 H1 d g1 rx c1 => by
    have e : x = d := rx
    subst e
    cases x with
    | true => exact iteT ⟨S1, ρ, h.grow g1, c1⟩
    | false => exact iteF ⟨S1, ρ, h.grow g1, c1⟩

/-! ### arguments, displays -/
theorem a_nil : RA X Z ω [] aNil := PA.of pa_nil fun σ H Q ⟨S, ρ, h, c⟩ => c [] S H (.refl h.sh) .nil
theorem a_cons {es : List Expr} {fr : SA} (ha : RP X Z ω a fa) (hr : RA X Z ω es fr) (hs : starEach (a :: es) X.env = (false, eval a X.env) :: starEach es X.env := by rfl) : RA X Z ω (a :: es) (aCons fa fr) :=
  PA.of (pa_cons ha hr hs) fun σ H Q ⟨S, ρ, h, c⟩ => tI.seq an_A h c fun x S1 H1 d g1 rx c1 =>
    tI.seq (rel1 := relA X.K) an_A (h.grow g1) c1 fun xs S2 H2 ds g2 rxs c2 => c2 _ S2 H2 (.refl g2.sh) (.cons (rx.mono g2.ss) rxs)
theorem aq_nil : RAQ X Z ω [] aNil := PA.of pa_nil fun σ H Q ⟨S, ρ, h, c⟩ => c [] S H (.refl h.sh) .nil
theorem aq_cons {es : List Expr} {fr : SA} (ha : RQ X Z ω a fa) (hr : RAQ X Z ω es fr) (hs : starEach (a :: es) X.env = (false, eval a X.env) :: starEach es X.env := by rfl) : RAQ X Z ω (a :: es) (aCons fa fr) :=
  PA.of (pa_cons ha hr hs) fun σ H Q ⟨S, ρ, h, c⟩ => tI.seq an_AQ h c fun x S1 H1 d g1 rx c1 =>
    tI.seq (rel1 := relAQ X.K) an_AQ (h.grow g1) c1 fun xs S2 H2 ds g2 rxs c2 => c2 _ S2 H2 (.refl g2.sh) (.cons (Rq.up g2 rx) rxs)
def gSize (mk : List D → D) : List D → R D := fun ds => rIf (ds.length ≤ sizeLine) (mk ds)
theorem Grow.ownF {K : PySem.W.Frag} {S H : Hp} {p : Addr} {xs : List V} {ds : List D} (h : Same S H) (n : H p = none) (r : RpAll K S xs ds) : relF K 1 S H S (upd H p (.lst xs)) (.ref p) (.list ds) :=
  ⟨[p], .inr (.inl ⟨p, xs, ds, [], rfl, rfl, upd_same, rfl, .of r⟩), List.nodup_cons.mpr ⟨by simp, .nil⟩, fun a ha => by
    rw [List.mem_singleton.mp ha]
    exact ⟨h.free n, n⟩⟩
theorem r_lst {es : List Expr} {f : SA} (h : RA X Z ω es f) : RF X Z ω 1 (.List es pos) (sCall (gSize .list) f) := PE.of (pe_lst h) fun σ H Q ⟨S, ρ, h, c⟩ =>
  tI.seq (rel1 := relA X.K) an_F h c fun xs S1 H1 ds g1 rx c1 => by
    unfold gSize rIf at c1
    split at c1
    · rename_i hz
      exact ⟨by rw [rx.len]; exact hz, fun p hp => c1 _ S1 _ (.own g1.sh hp) (Grow.ownF g1.sh hp rx)⟩
    · exact c1.elim
theorem r_tup {es : List Expr} {f : SA} {x1 : Nat} (h : RA X Z ω es f) : RP X Z ω (.Tuple es x1 pos) (sCall (gSize .tuple) f) := PE.of (pe_tup h) fun σ H Q ⟨S, ρ, h, c⟩ =>
  tI.seq (rel1 := relA X.K) an_P h c fun xs S1 H1 ds g1 rx c1 => by
    unfold gSize rIf at c1
    split at c1
    · rename_i hz
      exact ⟨by rw [rx.len]; exact hz, fun p hp => c1 _ (upd S1 p (.tup xs)) _ (.new g1.sh hp) (.tup (.of upd_same) (rx.mono (same_upd (g1.sh.free hp))))⟩
    · exact c1.elim
end
end Pu
end

section
set_option Elab.async false
set_option linter.all false
set_option maxRecDepth 100000
set_option maxHeartbeats 2000000
/-! Pu3: operators, subscripts and built-ins by data. -/
namespace Pu
open PySem PySem.Spec PyProof.Rows L2

/-! ### what is read off the data -/
section
variable {K : PySem.W.Frag} {S H : Hp} {v : V}
theorem Rq.rp {d : D} (h : Rq K S H v d) (s : Scal d) : Rp K S v d := by
  rcases h with h | ⟨P, h⟩
  · exact h
  · rcases h with ⟨h, _, _⟩ | ⟨a, xs, ds, P', ev, ed, _⟩ | ⟨a, kvs, ds, ev, ed, _⟩ | ⟨a, kvs, ds, ev, ed, _⟩
    · exact h
    · rw [ed] at s
      exact s.elim
    · rw [ed] at s
      exact s.elim
    · rw [ed] at s
      exact s.elim
theorem Rq.int {i : Int} (h : Rq K S H v (.int i)) : v = .int i := by
  have q := h.rp trivial
  cases q
  rfl
theorem Rq.bool {i : Bool} (h : Rq K S H v (.bool i)) : v = .bl i := by
  have q := h.rp trivial
  cases q
  rfl
theorem Rq.str {i : Str} (h : Rq K S H v (.str i)) : v = .str i := by
  have q := h.rp trivial
  cases q
  rfl
theorem Rq.non (h : Rq K S H v .none) : v = .non := by
  have q := h.rp trivial
  cases q
  rfl
theorem Rq.lst {ds : List D} (hs : Same S H) (h : Rq K S H v (.list ds)) : ∃ a xs, v = .ref a ∧ H a = some (.lst xs) ∧ RpAll K S xs ds := by
  rcases h with h | ⟨P, h⟩
  · cases h with
    | lst e r => exact ⟨_, _, rfl, hs _ _ e, r⟩
  · rcases h with ⟨_, _, s⟩ | ⟨a, xs, ds', P', ev, ed, ha, _, h⟩ | ⟨a, kvs, ds, ev, ed, _⟩ | ⟨a, kvs, ds, ev, ed, _⟩
    · exact s.elim
    · cases ed
      exact ⟨a, xs, ev, ha, h.rp.1⟩
    · cases ed
    · cases ed
theorem Rq.tup {ds : List D} (hs : Same S H) (h : Rq K S H v (.tuple ds)) : ∃ a xs, v = .ref a ∧ SqT K H a xs ∧ RpAll K S xs ds := by
  have q := h.rp trivial
  cases q with
  | tup e r => exact ⟨_, _, rfl, sqT_mono hs e, r⟩
/-- the script -/
theorem Rq.scr {ds : List D} (hs : Same S H) (h : Rq K S H v (.dict [(.none, .list ds)])) : ∃ a xs, v = .ref a ∧ SqL K H a xs ∧ RpAll K S xs ds := by
  have noK : ∀ {kvs : List (Key × V)}, ¬ RpKs K S kvs [(.none, .list ds)] := fun {kvs} h => by
    generalize e : ([((PyData.none : D), PyData.list ds)] : List (D × D)) = l at h
    cases h with
    | nil => cases e
    | @cons k v vs d ds' _ _ =>
      injection e with e1 _
      have e2 := congrArg Prod.fst e1
      cases k <;> cases e2
  rcases h with h | ⟨P, h⟩
  · cases h with
    | scr e r => exact ⟨_, _, rfl, sqL_mono hs e, r⟩
    | dic e r => exact (noK r).elim
  · rcases h with ⟨_, _, s⟩ | ⟨a, xs, ds', P', ev, ed, ha, _, h⟩ | ⟨a, kvs, ds', ev, ed, _, _, r⟩ | ⟨a, kvs, ds', ev, ed, _, _, r⟩
    · exact s.elim
    · cases ed
    · cases ed
      exact (noK r).elim
    · cases ed
mutual
theorem Rp.dp (hs : Same S H) : ∀ {v : V} {d : D}, Rp K S v d → d.canLay0 = true → Dp K H v d
  | _, _, .non, _ => .non
  | _, _, .bl b, _ => .bl b
  | _, _, .int b, _ => .int b
  | _, _, .str b, _ => .str b
  | _, _, .lst e r, q => .lst (.of (hs _ _ e)) (RpAll.dp hs r (by simpa only [PyData.canLay0] using q))
  | _, _, .tup e r, q => .tup (sqT_mono hs e) (RpAll.dp hs r (by simpa only [PyData.canLay0] using q))
  | _, _, .scr _ _, q => by simp [PyData.canLay0] at q
  | _, _, .dic _ _, q => by simp [PyData.canLay0] at q
  | _, _, .dicT _ _, q => by simp [PyData.canLay0] at q
  | _, _, .dicF _ _, q => by simp [PyData.canLay0] at q
theorem RpAll.dp (hs : Same S H) : ∀ {v : List V} {d : List D}, RpAll K S v d → PyData.canLayAll0 d = true → DpAll K H v d
  | _, _, .nil, _ => .nil
  | _, _, .cons a b, q => by
    simp only [PyData.canLayAll0, Bool.and_eq_true] at q
    exact .cons (a.dp hs q.1) (RpAll.dp hs b q.2)
end
theorem Rq.dp {d : D} (hs : Same S H) (h : Rq K S H v d) (q : d.canLay0 = true) : Dp K H v d := by
  rcases h with h | ⟨P, h⟩
  · exact h.dp hs q
  · rcases h with ⟨h, _, _⟩ | ⟨a, xs, ds', P', ev, ed, ha, _, h⟩ | ⟨a, kvs, ds', ev, ed, _, _, r⟩ | ⟨a, kvs, ds', ev, ed, _, _, r⟩
    · exact h.dp hs q
    · rw [ed] at q
      rw [ev, ed]
      exact .lst (.of ha) (h.rp.1.dp hs (by simpa only [PyData.canLay0] using q))
    · rw [ed] at q
      simp [PyData.canLay0] at q
    · rw [ed] at q
      simp [PyData.canLay0] at q
end

/-! ### the operators -/
section
variable {X : Cx}
theorem OpR.or {f : Value → Value → Sem Value} {r r' : R2} (h : OpR X f r) (h' : OpR X f r') : OpR X f (fun x y H Q => r x y H Q ∨ r' x y H Q) := by
  intro pins s σ H x y v u Q I rx ry q
  rcases q with q | q
  · exact h pins s σ H x y v u Q I rx ry q
  · exact h' pins s σ H x y v u Q I rx ry q
end
section
variable {K : PySem.W.Frag}
/-- the answer is an atom -/
theorem relP_int {S H S' H' : Hp} {i : Int} : relP K S H S' H' (.int i) (.int i) := .int i
theorem relF_rp {S H S' H' : Hp} {v : V} {d : D} (h : Rp K S' v d) (s : Scal d) : relF K 1 S H S' H' v d := ⟨[], .inl ⟨h, rfl, s⟩, .nil, fun a ha => nomatch ha⟩
/-- + -/
def gAdd : D → D → R D
  | .int i, .int j => .ok (.int (i + j))
  | .list a, .list b => rIf (a.length + b.length ≤ sizeLine) (.list (a ++ b))
  | .str a, .str b => rIf (a.length + b.length ≤ sizeLine) (.str (a ++ b))
  | _, _ => .bad
def rAddA : R2 := fun x y H Q => rI0 (fun i j => .int (i + j)) x y H Q ∨ (rCat x y H Q ∨ ∃ i j, x = .str i ∧ y = .str j ∧ i.length + j.length ≤ sizeLine ∧ Q (.str (i ++ j)) H)
theorem op_addA {X : Cx} : OpR X (binaryOp .Add) rAddA := OpR.or op_add (OpR.or op_cat op_add_str)
theorem oAdd : OpD K (relF K 1) rAddA gAdd where
  ne := by
    intro a b c fs h
    unfold gAdd at h
    split at h <;> first
      | exact rIf_ex h
      | exact nomatch h
  ok := by
    intro S H x y dx dy hs rx ry d e Q q
    unfold gAdd at e
    split at e
    · cases e
      rw [rx.int, ry.int]
      exact .inl ⟨_, _, rfl, rfl, q _ S H (.refl hs) (relF_rp (.int _) trivial)⟩
    · obtain ⟨hz, rfl⟩ := rIf_ok e
      obtain ⟨p, xs, rfl, hp, r1⟩ := rx.lst hs
      obtain ⟨p', ys, rfl, hp', r2⟩ := ry.lst hs
      exact .inr (.inl ⟨p, p', xs, ys, rfl, rfl, hp, hp', by rw [r1.len, r2.len]; exact hz, fun n hn => q _ S _ (.own hs hn) (Grow.ownF hs hn (r1.app r2))⟩)
    · obtain ⟨hz, rfl⟩ := rIf_ok e
      rw [rx.str, ry.str]
      exact .inr (.inr ⟨_, _, rfl, rfl, hz, q _ S H (.refl hs) (relF_rp (.str _) trivial)⟩)
    · exact nomatch e
/-- ints alone -/
def gI (C : Int → Int → Prop) [∀ i j, Decidable (C i j)] (f : Int → Int → D) : D → D → R D
  | .int i, .int j => rIf (C i j) (f i j)
  | _, _ => .bad
theorem oI {C : Int → Int → Prop} [∀ i j, Decidable (C i j)] {f : Int → Int → D} {g : Int → Int → V} {r : R2} (hr : ∀ i j H Q, C i j → Q (g i j) H → r (.int i) (.int j) H Q) (hg : ∀ S i j, Rp K S (g i j) (f i j)) : OpD K (relP K) r (gI C f) where
  ne := by
    intro a b c fs h
    unfold gI at h
    split at h <;> first
      | exact rIf_ex h
      | exact nomatch h
  ok := by
    intro S H x y dx dy hs rx ry d e Q q
    unfold gI at e
    split at e
    · obtain ⟨hc, rfl⟩ := rIf_ok e
      rw [rx.int, ry.int]
      exact hr _ _ H Q hc (q _ S H (.refl hs) (hg S _ _))
    · exact nomatch e
def gSub : D → D → R D := gI (fun _ _ => True) fun i j => .int (i - j)
def gMod : D → D → R D := gI (fun _ j => 0 < j) fun i j => .int (i % j)
def gFdiv : D → D → R D := gI (fun _ j => 0 < j ∧ j < 1073741824) fun i j => .int (i / j)
def gPow : D → D → R D := gI (fun i j => 0 ≤ j ∧ j ≤ 1000000 ∧ i.natAbs < 2 ^ 64) fun i j => .int (i ^ j.toNat)
def gShl : D → D → R D := gI (fun i j => 0 ≤ j ∧ j ≤ 1000000 ∧ i.natAbs < 2 ^ 64) fun i j => .int (i * 2 ^ j.toNat)
def gLt : D → D → R D := gI (fun _ _ => True) fun i j => .bool (decide (i < j))
def gLe : D → D → R D := gI (fun _ _ => True) fun i j => .bool (decide (i ≤ j))
def gGt : D → D → R D := gI (fun _ _ => True) fun i j => .bool (decide (j < i))
def gGe : D → D → R D := gI (fun _ _ => True) fun i j => .bool (decide (j ≤ i))
theorem oSub : OpD K (relP K) (rI0 fun i j => .int (i - j)) gSub := oI (fun i j H Q _ q => ⟨i, j, rfl, rfl, q⟩) fun S i j => .int _
theorem oMod : OpD K (relP K) (rI (fun _ j => 0 < j) fun i j => .int (i % j)) gMod := oI (fun i j H Q c q => ⟨i, j, rfl, rfl, c, q⟩) fun S i j => .int _
theorem oFdiv : OpD K (relP K) (rI CDiv fun i j => .int (i / j)) gFdiv := oI (fun i j H Q c q => ⟨i, j, rfl, rfl, c, q⟩) fun S i j => .int _
theorem oPow : OpD K (relP K) (rI CPow fun i j => .int (i ^ j.toNat)) gPow := oI (fun i j H Q c q => ⟨i, j, rfl, rfl, c, q⟩) fun S i j => .int _
theorem oShl : OpD K (relP K) (rI CPow fun i j => .int (i * 2 ^ j.toNat)) gShl := oI (fun i j H Q c q => ⟨i, j, rfl, rfl, c, q⟩) fun S i j => .int _
theorem oLt : OpD K (relP K) (rI0 fun i j => .bl (decide (i < j))) gLt := oI (fun i j H Q _ q => ⟨i, j, rfl, rfl, q⟩) fun S i j => .bl _
theorem oLe : OpD K (relP K) (rI0 fun i j => .bl (decide (i ≤ j))) gLe := oI (fun i j H Q _ q => ⟨i, j, rfl, rfl, q⟩) fun S i j => .bl _
theorem oGt : OpD K (relP K) (rI0 fun i j => .bl (decide (j < i))) gGt := oI (fun i j H Q _ q => ⟨i, j, rfl, rfl, q⟩) fun S i j => .bl _
theorem oGe : OpD K (relP K) (rI0 fun i j => .bl (decide (j ≤ i))) gGe := oI (fun i j H Q _ q => ⟨i, j, rfl, rfl, q⟩) fun S i j => .bl _
/-- * of two ints, of a list and an int -/
def gMul : D → D → R D
  | .int i, .int j => rIf ((-(2 ^ 64) < i ∧ i < 2 ^ 64) ∨ (-(2 ^ 64) < j ∧ j < 2 ^ 64)) (.int (i * j))
  | .list ds, .int k => rIf (-(2 ^ 63) ≤ k ∧ k < 2 ^ 63 ∧ ds.length * k.toNat ≤ sizeLine) (.list (List.replicate k.toNat ds).flatten)
  | _, _ => .bad
def rMulA : R2 := fun x y H Q => rI CMul (fun i j => .int (i * j)) x y H Q ∨ rRep x y H Q
theorem op_mulA {X : Cx} : OpR X (binaryOp .Mult) rMulA := OpR.or op_mul op_rep
theorem RpAll.rep {S : Hp} {xs : List V} {ds : List D} (h : RpAll K S xs ds) : ∀ n : Nat, RpAll K S (List.replicate n xs).flatten (List.replicate n ds).flatten
  | 0 => .nil
  | n + 1 => by
    rw [List.replicate_succ, List.replicate_succ, List.flatten_cons, List.flatten_cons]
    exact h.app (RpAll.rep h n)
theorem oMul : OpD K (relF K 1) rMulA gMul where
  ne := by
    intro a b c fs h
    unfold gMul at h
    split at h <;> first
      | exact rIf_ex h
      | exact nomatch h
  ok := by
    intro S H x y dx dy hs rx ry d e Q q
    unfold gMul at e
    split at e
    · obtain ⟨hz, rfl⟩ := rIf_ok e
      rw [rx.int, ry.int]
      exact .inl ⟨_, _, rfl, rfl, hz, q _ S H (.refl hs) (relF_rp (.int _) trivial)⟩
    · obtain ⟨hz, rfl⟩ := rIf_ok e
      obtain ⟨p, xs, rfl, hp, r1⟩ := rx.lst hs
      rw [ry.int]
      exact .inr ⟨p, _, xs, rfl, rfl, hp, hz.1, hz.2.1, by rw [r1.len]; exact hz.2.2, fun n hn => q _ S _ (.own hs hn) (Grow.ownF hs hn (r1.rep _))⟩
    · exact nomatch e
/-- ==, != -/
def gEq (a b : D) : R D := rIf (SeqAt.shaped a = true ∧ SeqAt.shaped b = true) (.bool (PyData.eqv a b))
def gNe (a b : D) : R D := rIf (SeqAt.shaped a = true ∧ SeqAt.shaped b = true) (.bool (!PyData.eqv a b))
theorem oEq : OpD K (relP K) (rEqD K) gEq where
  ne := fun _ _ _ _ => rIf_ex
  ok := fun S H x y dx dy hs rx ry d e Q q => by
    obtain ⟨h, rfl⟩ := rIf_ok e
    exact ⟨dx, dy, rx.dp hs (SeqAt.canLay_of_shaped h.1), ry.dp hs (SeqAt.canLay_of_shaped h.2), h.1, h.2, q _ S H (.refl hs) (.bl _)⟩
theorem oNe : OpD K (relP K) (rNeD K) gNe where
  ne := fun _ _ _ _ => rIf_ex
  ok := fun S H x y dx dy hs rx ry d e Q q => by
    obtain ⟨h, rfl⟩ := rIf_ok e
    exact ⟨dx, dy, rx.dp hs (SeqAt.canLay_of_shaped h.1), ry.dp hs (SeqAt.canLay_of_shaped h.2), h.1, h.2, q _ S H (.refl hs) (.bl _)⟩
/-- in, not in: of a list -/
def gIn : D → D → R D
  | x, .list ds => rIf (SeqAt.shaped x = true ∧ SeqAt.shaped (.list ds) = true) (.bool (ds.any fun z => PyData.eqv z x))
  | _, _ => .bad
def gNotIn : D → D → R D
  | x, .list ds => rIf (SeqAt.shaped x = true ∧ SeqAt.shaped (.list ds) = true) (.bool (!ds.any fun z => PyData.eqv z x))
  | _, _ => .bad
theorem oIn : OpD K (relP K) (rInD K) gIn where
  ne := by
    intro a b c fs h
    unfold gIn at h
    split at h <;> first
      | exact rIf_ex h
      | exact nomatch h
  ok := by
    intro S H x y dx dy hs rx ry d e Q q
    unfold gIn at e
    split at e
    · obtain ⟨h, rfl⟩ := rIf_ok e
      exact ⟨_, _, rx.dp hs (SeqAt.canLay_of_shaped h.1), ry.dp hs (SeqAt.canLay_of_shaped h.2), h.1, h.2, q _ S H (.refl hs) (.bl _)⟩
    · exact nomatch e
theorem oNotIn : OpD K (relP K) (rNotInD K) gNotIn where
  ne := by
    intro a b c fs h
    unfold gNotIn at h
    split at h <;> first
      | exact rIf_ex h
      | exact nomatch h
  ok := by
    intro S H x y dx dy hs rx ry d e Q q
    unfold gNotIn at e
    split at e
    · obtain ⟨h, rfl⟩ := rIf_ok e
      exact ⟨_, _, rx.dp hs (SeqAt.canLay_of_shaped h.1), ry.dp hs (SeqAt.canLay_of_shaped h.2), h.1, h.2, q _ S H (.refl hs) (.bl _)⟩
    · exact nomatch e
end
end Pu
end

section
set_option Elab.async false
set_option linter.all false
set_option maxRecDepth 100000
set_option maxHeartbeats 2000000
/-! Pu4: chains, None, subscripts, slices, built-ins called. -/
namespace Pu
open PySem PySem.Spec PyProof.Rows L2

/-! ### chains, is None, minus -/
def sChain (g g' : D → D → R D) (fa fb fc : SE) : SE := fun ρ => (fa ρ).bind fun x => (fb ρ).bind fun y => (g x y).bind fun z => (asB z).bind fun b => if b = true then (fc ρ).bind fun w => g' y w else .ok (.bool false)
def gIsN : D → D
  | .none => .bool true
  | _ => .bool false
def gNotN : D → D
  | .none => .bool false
  | _ => .bool true
def gNeg : D → R D
  | .int i => .ok (.int (-i))
  | _ => .bad
section
variable {X : Cx} {Z : Sx} {ω : List Nat} {a b c : Expr} {fa fb fc : SE} {pos : Pos}
theorem chain_run {r r' : R2} {g g' : D → D → R D} (o : OpD X.K (relP X.K) r g) (o' : OpD X.K (relP X.K) r' g') {σ : St} {H : Hp} {Q : VK} (h : tI X.K Z ω (relP X.K) (sChain g g' fa fb fc) σ H Q) :
    tChain r r' (tI X.K Z ω (relQ X.K) fa) (tI X.K Z ω (relQ X.K) fb) (tI X.K Z ω (relQ X.K) fc) σ H Q := by
  obtain ⟨S, ρ, h, c⟩ := h
  refine tI.seq an_P h c fun x S1 H1 dx g1 rx c1 => ?_
  have h1 := h.grow g1
  refine tI.seq an_P h1 c1 fun y S2 H2 dy g2 ry c2 => ?_
  cases e : g dx dy with
  | ok d =>
    rw [e] at c2
    refine o.ok S2 H2 x y dx dy g2.sh (Rq.up g2 rx) ry d e _ fun v S3 H3 g3 rv => ?_
    have c3 : Cl X.K Z (relP X.K) σ Q S2 H2 ((asB d).bind fun b => if b = true then (fc ρ).bind fun w => g' dy w else .ok (.bool false)) := c2
    cases d with
    | bool b =>
      rw [bool_rp rv]
      refine ⟨b, rfl, ?_⟩
      cases b with
      | true =>
        refine iteT ?_
        have c4 : Cl X.K Z (relP X.K) σ Q S2 H2 ((fc ρ).bind fun w => g' dy w) := c3
        refine tI.seq an_P ((h1.grow g2).grow g3) (c4.grow an_P g3) fun w S4 H4 dw g4 rw' c5 => ?_
        cases e' : g' dy dw with
        | ok d' =>
          rw [e'] at c5
          exact o'.ok S4 H4 y w dy dw g4.sh (Rq.up g4 (Rq.up g3 ry)) rw' d' e' _ c5
        | ex k fs => exact (o'.ne _ _ _ _ e').elim
        | bad =>
          rw [e'] at c5
          exact c5.elim
      | false =>
        refine iteF ?_
        have c4 : Cl X.K Z (relP X.K) σ Q S2 H2 (.ok (.bool false)) := c3
        exact c4 _ S3 H3 g3 (.bl false)
    | _ => exact c3.elim
  | ex k fs => exact (o.ne _ _ _ _ e).elim
  | bad =>
    rw [e] at c2
    exact c2.elim
theorem r_chain {op op' : CmpOp} {r r' : R2} {g g' : D → D → R D} (ho : OpR X (compareOp op) r) (ho' : OpR X (compareOp op') r') (o : OpD X.K (relP X.K) r g) (o' : OpD X.K (relP X.K) r' g') (ha : RQ X Z ω a fa) (hb : RQ X Z ω b fb) (hc : RQ X Z ω c fc)
    (hm : lastMarks [op, op'] [b, c] = false := by with_unfolding_all rfl) : RP X Z ω (.Compare a [op, op'] [b, c] pos) (sChain g g' fa fb fc) := PE.of (pe_chain ho ho' ha hb hc hm) fun σ H Q h => chain_run o o' h
theorem t_chain {op op' : CmpOp} {r r' : R2} {g g' : D → D → R D} (ho : OpR X (compareOp op) r) (ho' : OpR X (compareOp op') r') (o : OpD X.K (relP X.K) r g) (o' : OpD X.K (relP X.K) r' g') (ha : RQ X Z ω a fa) (hb : RQ X Z ω b fb) (hc : RQ X Z ω c fc)
    (hm : lastMarks [op, op'] [b, c] = false := by with_unfolding_all rfl) : RT X Z ω (.Compare a [op, op'] [b, c] pos) (tB' (sChain g g' fa fb fc)) := PT.of (pt_chain ho ho' ha hb hc hm) fun σ H Q h => chain_run o o' (as_test h)
theorem Rq.isN {K : PySem.W.Frag} {S H : Hp} {v : V} {d : D} (h : Rq K S H v d) : (V.bl (decide (v = .non)) = .bl true ∧ gIsN d = .bool true ∧ gNotN d = .bool false ∧ v = .non) ∨ (V.bl (decide (v = .non)) = .bl false ∧ gIsN d = .bool false ∧ gNotN d = .bool true ∧ v ≠ .non) := by
  have key : (v = .non ∧ d = .none) ∨ (v ≠ .non ∧ d ≠ .none) := by
    rcases h with h | ⟨P, h⟩
    · cases h <;> first
        | exact .inl ⟨rfl, rfl⟩
        | exact .inr ⟨(fun z => by cases z), (fun z => by cases z)⟩
    · rcases h with ⟨h, _, _⟩ | ⟨a, xs, ds, P', ev, ed, _⟩ | ⟨a, kvs, ds, ev, ed, _⟩ | ⟨a, kvs, ds, ev, ed, _⟩
      · cases h <;> first
          | exact .inl ⟨rfl, rfl⟩
          | exact .inr ⟨(fun z => by cases z), (fun z => by cases z)⟩
      · rw [ev, ed]
        exact .inr ⟨(fun z => by cases z), (fun z => by cases z)⟩
      · rw [ev, ed]
        exact .inr ⟨(fun z => by cases z), (fun z => by cases z)⟩
      · rw [ev, ed]
        exact .inr ⟨(fun z => by cases z), (fun z => by cases z)⟩
  rcases key with ⟨e1, e2⟩ | ⟨e1, e2⟩
  · subst e1 e2
    exact .inl ⟨rfl, rfl, rfl, rfl⟩
  · refine .inr ⟨by rw [decide_eq_false e1], ?_, ?_, e1⟩
    · cases d <;> first
        | rfl
        | exact absurd rfl e2
    · cases d <;> first
        | rfl
        | exact absurd rfl e2
theorem isN_run {K : PySem.W.Frag} {σ : St} {H : Hp} {Q : VK} (h : tI K Z ω (relP K) (s1 (fun d => .ok (gIsN d)) fa) σ H Q) : tIsN (tI K Z ω (relQ K) fa) σ H Q := by
  obtain ⟨S, ρ, h, c⟩ := h
  refine tI.seq an_P h c fun x S1 H1 dx g1 rx c1 => ?_
  have c1 : Cl K Z (relP K) σ Q S1 H1 (.ok (gIsN dx)) := c1
  rcases Rq.isN rx with ⟨e1, e2, _, _⟩ | ⟨e1, e2, _, _⟩
  · rw [e2] at c1
    rw [e1]
    exact c1 _ S1 H1 (.refl g1.sh) (.bl _)
  · rw [e2] at c1
    rw [e1]
    exact c1 _ S1 H1 (.refl g1.sh) (.bl _)
theorem notN_run {K : PySem.W.Frag} {σ : St} {H : Hp} {Q : VK} (h : tI K Z ω (relP K) (s1 (fun d => .ok (gNotN d)) fa) σ H Q) : tNotN (tI K Z ω (relQ K) fa) σ H Q := by
  obtain ⟨S, ρ, h, c⟩ := h
  refine tI.seq an_P h c fun x S1 H1 dx g1 rx c1 => ?_
  have c1 : Cl K Z (relP K) σ Q S1 H1 (.ok (gNotN dx)) := c1
  rcases Rq.isN rx with ⟨_, _, e2, e1⟩ | ⟨_, _, e2, e1⟩
  · rw [e2] at c1
    rw [decide_eq_true e1]
    exact c1 _ S1 H1 (.refl g1.sh) (.bl _)
  · rw [e2] at c1
    rw [decide_eq_false e1]
    exact c1 _ S1 H1 (.refl g1.sh) (.bl _)
theorem r_isN {j : Nat} {p : Pos} (ha : RQ X Z ω a fa) : RP X Z ω (.Compare a [.Is] [.Constant .none j p] pos) (s1 (fun d => .ok (gIsN d)) fa) := PE.of (pe_cmp (pc_isN ha) rfl) fun _ _ _ => isN_run
theorem r_notN {j : Nat} {p : Pos} (ha : RQ X Z ω a fa) : RP X Z ω (.Compare a [.IsNot] [.Constant .none j p] pos) (s1 (fun d => .ok (gNotN d)) fa) := PE.of (pe_cmp (pc_notN ha) rfl) fun _ _ _ => notN_run
theorem t_isN {j : Nat} {p : Pos} (ha : RQ X Z ω a fa) : RT X Z ω (.Compare a [.Is] [.Constant .none j p] pos) (tB' (s1 (fun d => .ok (gIsN d)) fa)) := PT.of (pt_cmp (pc_isN ha) rfl) fun _ _ _ h => isN_run (as_test h)
theorem t_notN {j : Nat} {p : Pos} (ha : RQ X Z ω a fa) : RT X Z ω (.Compare a [.IsNot] [.Constant .none j p] pos) (tB' (s1 (fun d => .ok (gNotN d)) fa)) := PT.of (pt_cmp (pc_notN ha) rfl) fun _ _ _ h => notN_run (as_test h)
theorem r_neg (ha : RP X Z ω a fa) : RP X Z ω (.UnaryOp .USub a pos) (s1 gNeg fa) := PE.of (pe_un un_neg ha) fun σ H Q ⟨S, ρ, h, c⟩ =>
  tI.seq an_P h c fun x S1 H1 dx g1 rx c1 => by
    cases dx with
    | int i =>
      have e : x = .int i := (Rq.int (H := H1) (.inl rx))
      rw [e]
      exact ⟨i, rfl, c1 _ S1 H1 (.refl g1.sh) (.int _)⟩
    | _ => exact c1.elim
end

/-! ### subscripts -/
/-- what a dict holds at a key -/
def isKey : D → Bool
  | .int _ => true
  | .str _ => true
  | _ => false
def dLook (kvs : List (D × D)) (k : D) : Option D := (kvs.find? fun p => PyData.eqv p.1 k).map (·.2)
def gIx : D → D → R D
  | .list ds, .int i => match atI ds i with
    | some d => .ok d
    | none => .bad
  | .tuple ds, .int i => match atI ds i with
    | some d => .ok d
    | none => .bad
  | .dict [(.none, .list ds)], .int i => match atI ds i with
    | some d => .ok d
    | none => .bad
  | _, _ => .bad
section
variable {K : PySem.W.Frag} {S : Hp}
theorem RpAll.atI {xs : List V} {ds : List D} (h : RpAll K S xs ds) {i : Int} {d : D} (e : atI ds i = some d) : ∃ v, L2.atI xs i = some v ∧ Rp K S v d := by
  unfold L2.atI at e ⊢
  rw [h.len]
  cases q : ixN ds.length i with
  | none =>
    rw [q] at e
    cases e
  | some j =>
    rw [q] at e
    exact h.get' e
end
theorem oIx {K : PySem.W.Frag} : OpD K (relP K) (rIx K) gIx where
  ne := by
    intro a b c fs h
    unfold gIx at h
    split at h <;> first
      | cases h
      | (split at h <;> cases h)
  ok := by
    intro S H x y dx dy hs rx ry d e Q q
    unfold gIx at e
    split at e
    · split at e
      · rename_i d' e1
        cases e
        obtain ⟨p, xs, rfl, hp, r1⟩ := rx.lst hs
        obtain ⟨v, h1, h2⟩ := r1.atI e1
        rw [ry.int]
        exact .inl ⟨p, xs, _, v, rfl, rfl, .of hp, h1, q v S H (.refl hs) h2⟩
      · cases e
    · split at e
      · rename_i d' e1
        cases e
        obtain ⟨p, xs, rfl, hp, r1⟩ := rx.tup hs
        obtain ⟨v, h1, h2⟩ := r1.atI e1
        rw [ry.int]
        exact .inr (.inl ⟨p, xs, _, v, rfl, rfl, hp, h1, q v S H (.refl hs) h2⟩)
      · cases e
    · split at e
      · rename_i d' e1
        cases e
        obtain ⟨p, xs, rfl, hp, r1⟩ := rx.scr hs
        obtain ⟨v, h1, h2⟩ := r1.atI e1
        rw [ry.int]
        exact .inl ⟨p, xs, _, v, rfl, rfl, hp, h1, q v S H (.refl hs) h2⟩
      · cases e
    · cases e
section
variable {X : Cx} {Z : Sx} {ω : List Nat} {a b : Expr} {fa fb : SE} {pos : Pos}
/-- a[b] of a list, a tuple, the script -/
theorem r_ix (ha : RQ X Z ω a fa) (hb : RQ X Z ω b fb) (hs : PlainIx b := by intro _ _; rfl) : RP X Z ω (.Subscript a b pos) (s2 gIx fa fb) := PE.of (pe_ix ix_seq ha hb hs) fun σ H Q h => op_run an_P oIx rfl rfl h
end

/-! ### slices -/
abbrev SO := Rho → R (Option Int)
def relN : Rel (Option Int) (Option Int) := fun _ _ _ _ b c => b = c
theorem an_N : An relN := fun _ _ _ _ _ _ _ _ _ h => h
def soNone : SO := fun _ => .ok none
def gPart : D → R (Option Int)
  | .int i => .ok (some i)
  | _ => .bad
def soSome (f : SE) : SO := fun ρ => (f ρ).bind gPart
def cutA {α : Type} (xs : List α) (lo hi : Option Int) : List α := (xs.drop (HT.sIx xs.length 0 lo)).take (HT.sIx xs.length xs.length hi - HT.sIx xs.length 0 lo)
def gSl : D → Option Int → Option Int → R D
  | .list ds, lo, hi => .ok (.list (cutA ds lo hi))
  | _, _, _ => .bad
def sSl (f : SE) (fl fh : SO) : SE := fun ρ => (f ρ).bind fun x => (fl ρ).bind fun l => (fh ρ).bind fun u => gSl x l u
section
variable {X : Cx} {Z : Sx} {ω : List Nat} {a : Expr} {fa : SE} {pos p2 : Pos} {lo hi : Option Expr} {fl fh : SO}
abbrev RS' (X : Cx) (Z : Sx) (ω : List Nat) (e : Option Expr) (f : SO) : Prop := PO X e (tI X.K Z ω relN f)
theorem PO.of {e : Option Expr} {t t' : TO} (h : PO X e t) (i : ∀ σ H Q, t' σ H Q → t σ H Q) : PO X e t' := ⟨fun pins s σ H Q I q => h.run pins s σ H Q I (i σ H Q q)⟩
theorem o_none : RS' X Z ω none soNone := PO.of po_none fun σ H Q ⟨S, ρ, h, c⟩ => c none S H (.refl h.sh) rfl
theorem o_some (ha : RP X Z ω a fa) : RS' X Z ω (some a) (soSome fa) := PO.of (po_some ha) fun σ H Q ⟨S, ρ, h, c⟩ => tI.seq an_N h c fun x S1 H1 dx g1 rx c1 => by
  cases dx with
  | int i =>
    have e : x = .int i := (Rq.int (H := H1) (.inl rx))
    rw [e]
    exact ⟨i, rfl, c1 _ S1 H1 (.refl g1.sh) rfl⟩
  | _ => exact c1.elim
theorem r_sl (ha : RQ X Z ω a fa) (hl : RS' X Z ω lo fl) (hh : RS' X Z ω hi fh) : RF X Z ω 1 (.Subscript a (.Slice lo hi none p2) pos) (sSl fa fl fh) := PE.of (pe_slice sl_list ha hl hh) fun σ H Q ⟨S, ρ, h, c⟩ =>
  tI.seq an_F h c fun x S1 H1 dx g1 rx c1 => tI.seq (rel1 := relN) an_F (h.grow g1) c1 fun l S2 H2 dl g2 rl c2 => tI.seq (rel1 := relN) an_F ((h.grow g1).grow g2) c2 fun u S3 H3 du g3 ru c3 => by
    have e1 : l = dl := rl
    have e2 : u = du := ru
    subst e1 e2
    cases dx with
    | list ds =>
      obtain ⟨p, xs, rfl, hp, r1⟩ := (Rq.up g3 (Rq.up g2 rx)).lst g3.sh
      refine ⟨p, xs, rfl, .of hp, fun n hn => ?_⟩
      have r2 : RpAll X.K S3 (cutV xs l u) (cutA ds l u) := by
        unfold cutV cutA
        rw [r1.len]
        exact (r1.drop _).take _
      exact c3 _ S3 _ (.own g3.sh hn) (Grow.ownF g3.sh hn r2)
    | _ => exact c3.elim
end

/-! ### built-ins called -/
structure CallD (K : PySem.W.Frag) (rel : Rel V D) (r : List V → Hp → VK → Prop) (g : List D → R D) : Prop where
  ne : ∀ a c fs, g a ≠ .ex c fs
  ok : ∀ S H xs ds, Same S H → Paired (Rq K S H) xs ds → ∀ d, g ds = .ok d → ∀ Q : VK, (∀ v S' H', Grow S H S' H' → rel S H S' H' v d → Q v H') → r xs H Q
section
variable {X : Cx} {Z : Sx} {ω : List Nat} {x : Str} {p pos : Pos} {e : Expr} {es : List Expr} {id T : String} {f : SA}
theorem call_run {K : PySem.W.Frag} {rel : Rel V D} {r : List V → Hp → VK → Prop} {g : List D → R D} (an : An rel) (o : CallD K rel r g) {σ : St} {H : Hp} {Q : VK} (h : tI K Z ω rel (sCall g f) σ H Q) : tCB r (tI K Z ω (relAQ K) f) σ H Q := by
  obtain ⟨S, ρ, h, c⟩ := h
  refine tI.seq an h c fun xs S1 H1 ds g1 rx c1 => ?_
  cases e : g ds with
  | ok d =>
    rw [e] at c1
    exact o.ok S1 H1 xs ds g1.sh rx d e Q c1
  | ex k fs => exact (o.ne _ _ _ e).elim
  | bad =>
    rw [e] at c1
    exact c1.elim
theorem r_callB {rel : Rel V D} {r : List V → Hp → VK → Prop} {g : List D → R D} (an : An rel) (hc : CallR X (.builtin id) r) (o : CallD X.K rel r g) (hm : X.mg x = none) (hv : bootBuiltins x = some (.builtin id)) (ha : RAQ X Z ω (e :: es) f) (hg : Gl X x := by rfl) (hn : x ≠ "__name__" := by decide)
    (hdb : (x == ("__debug__" : Str)) = false := by decide) (he : starEach (e :: es) X.env = (false, eval e X.env) :: starEach es X.env := by rfl) (hpl : (backTo pos (starEach es X.env)).any (·.1) = false := by rfl) : PE X (.Call (.Name x p) (e :: es) [] pos) (tI X.K Z ω rel (sCall g f)) :=
  PE.of (pe_callB hc hg hm hv ha hn hdb he hpl) fun σ H Q h => call_run an o h
theorem r_callTy {rel : Rel V D} {r : List V → Hp → VK → Prop} {g : List D → R D} (an : An rel) (hc : CallR X (.type T) r) (o : CallD X.K rel r g) (hm : X.mg x = none) (hv : bootBuiltins x = some (.type T)) (ha : RAQ X Z ω (e :: es) f) (hg : Gl X x := by rfl) (hn : x ≠ "__name__" := by decide)
    (hdb : (x == ("__debug__" : Str)) = false := by decide) (he : starEach (e :: es) X.env = (false, eval e X.env) :: starEach es X.env := by rfl) (hpl : (backTo pos (starEach es X.env)).any (·.1) = false := by rfl) : PE X (.Call (.Name x p) (e :: es) [] pos) (tI X.K Z ω rel (sCall g f)) :=
  PE.of (pe_callTy hc hg hm hv ha hn hdb he hpl) fun σ H Q h => call_run an o h
end
/-! each built-in -/
def gLen : List D → R D
  | [.list ds] => .ok (.int ds.length)
  | [.tuple ds] => .ok (.int ds.length)
  | [.str x] => rIf (x.length ≤ sizeLine) (.int x.length)
  | [.dict [(.none, .list ds)]] => .ok (.int ds.length)
  | _ => .bad
def gInt : List D → R D
  | [.int i] => .ok (.int i)
  | [.bool b] => .ok (.int (if b then 1 else 0))
  | _ => .bad
def gList : List D → R D
  | [.list ds] => .ok (.list ds)
  | [.tuple ds] => .ok (.list ds)
  | _ => .bad
def gTuple : List D → R D
  | [.list ds] => .ok (.tuple ds)
  | [.tuple ds] => .ok (.tuple ds)
  | _ => .bad
def gMax2 : List D → R D
  | [.int i, .int j] => .ok (.int (if j > i then j else i))
  | _ => .bad
def gMin2 : List D → R D
  | [.int i, .int j] => .ok (.int (if j < i then j else i))
  | _ => .bad
def intsOf : List D → Option (List Int)
  | [] => some []
  | .int i :: ds => (intsOf ds).map (i :: ·)
  | _ => none
@[simp] theorem intsOf_map (ns : List Int) : intsOf (ns.map PyData.int) = some ns := by
  induction ns with
  | nil => rfl
  | cons n ns ih =>
    rw [List.map_cons]
    show (intsOf (ns.map PyData.int)).map (n :: ·) = _
    rw [ih]
    rfl
theorem intsOf_eq : ∀ {ds : List D} {ns : List Int}, intsOf ds = some ns → ds = ns.map PyData.int
  | [], ns, h => by
    cases h
    rfl
  | d :: ds, ns, h => by
    cases d with
    | int i =>
      have h1 : (intsOf ds).map (i :: ·) = some ns := h
      cases e : intsOf ds with
      | none =>
        rw [e] at h1
        cases h1
      | some ms =>
        rw [e] at h1
        cases h1
        rw [List.map_cons, ← intsOf_eq e]
    | _ => cases h
/-- the ints in order -/
def sortI (ns : List Int) : List Int := ns.mergeSort (fun a b => decide (a ≤ b))
theorem sortI_perm (ns : List Int) : (sortI ns).Perm ns := List.mergeSort_perm ns _
theorem sortI_le (ns : List Int) : (sortI ns).Pairwise (· ≤ ·) := by
  have h := List.pairwise_mergeSort (le := fun a b : Int => decide (a ≤ b)) (fun a b c h1 h2 => decide_eq_true (Int.le_trans (of_decide_eq_true h1) (of_decide_eq_true h2))) (fun a b => by
    rcases Int.le_total a b with h | h
    · rw [decide_eq_true h]
      rfl
    · rw [decide_eq_true h, Bool.or_true]) ns
  exact h.imp fun h => of_decide_eq_true h
theorem sorted_eq {ns ms : List Int} (h : ns.Perm ms) (h1 : ns.Pairwise (· ≤ ·)) (h2 : ms.Pairwise (· ≤ ·)) : ns = ms :=
  List.Perm.eq_of_pairwise (fun a b _ _ h1 h2 => Int.le_antisymm h1 h2) h1 h2 h
def gSorted : List D → R D
  | [.list ds] => match intsOf ds with
    | some ns => .ok (.list ((sortI ns).map PyData.int))
    | none => .bad
  | [.tuple ds] => match intsOf ds with
    | some ns => .bad
    | none => .bad
  | _ => .bad
def gSum : List D → R D
  | [.list ds] => match intsOf ds with
    | some ns => .ok (.int ns.sum)
    | none => .bad
  | _ => .bad
theorem pair1 {α β : Type} {F : α → β → Prop} {xs : List α} {d : β} (h : Paired F xs [d]) : ∃ x, xs = [x] ∧ F x d := by
  cases h with
  | cons h1 h2 =>
    cases h2
    exact ⟨_, rfl, h1⟩
theorem pair2 {α β : Type} {F : α → β → Prop} {xs : List α} {d e : β} (h : Paired F xs [d, e]) : ∃ x y, xs = [x, y] ∧ F x d ∧ F y e := by
  cases h with
  | cons h1 h2 =>
    cases h2 with
    | cons h3 h4 =>
      cases h4
      exact ⟨_, _, rfl, h1, h3⟩
section
variable {K : PySem.W.Frag}
theorem RpAll.ints {S : Hp} : ∀ {xs : List V} {ns : List Int}, RpAll K S xs (ns.map PyData.int) → xs = ns.map V.int
  | xs, [], h => by
    rw [List.map_nil] at h
    cases h
    rfl
  | xs, n :: ns, h => by
    rw [List.map_cons] at h
    cases h with
    | cons a b =>
      cases a
      rw [RpAll.ints b, List.map_cons]
theorem RpAll.of_ints {S : Hp} : ∀ ns : List Int, RpAll K S (ns.map V.int) (ns.map PyData.int)
  | [] => .nil
  | n :: ns => .cons (.int n) (RpAll.of_ints ns)
def rLenA (K : PySem.W.Frag) : List V → Hp → VK → Prop := fun xs H Q => ∃ x n, xs = [x] ∧ LenV K x H n ∧ Q (.int n) H
theorem cLen : CallD K (relP K) (rLenA K) gLen where
  ne := by
    intro a c fs h
    unfold gLen at h
    split at h <;> first
      | exact rIf_ex h
      | cases h
  ok := by
    intro S H xs ds hs rx d e Q q
    unfold gLen at e
    split at e
    · cases e
      obtain ⟨x, rfl, r⟩ := pair1 rx
      obtain ⟨p, ys, rfl, hp, r1⟩ := r.lst hs
      exact ⟨_, _, rfl, .inl ⟨ys, .of hp, r1.len.symm⟩, q _ S H (.refl hs) (.int _)⟩
    · cases e
      obtain ⟨x, rfl, r⟩ := pair1 rx
      obtain ⟨p, ys, rfl, hp, r1⟩ := r.tup hs
      exact ⟨_, _, rfl, .inr ⟨ys, hp, r1.len.symm⟩, q _ S H (.refl hs) (.int _)⟩
    · obtain ⟨hz, rfl⟩ := rIf_ok e
      obtain ⟨x, rfl, r⟩ := pair1 rx
      rw [r.str]
      exact ⟨_, _, rfl, ⟨hz, rfl⟩, q _ S H (.refl hs) (.int _)⟩
    · cases e
      obtain ⟨x, rfl, r⟩ := pair1 rx
      obtain ⟨p, ys, rfl, hp, r1⟩ := r.scr hs
      exact ⟨_, _, rfl, .inl ⟨ys, hp, r1.len.symm⟩, q _ S H (.refl hs) (.int _)⟩
    · cases e
theorem cInt : CallD K (relP K) (fun xs H Q => (∃ i, xs = [.int i] ∧ Q (.int i) H) ∨ ∃ k, xs = [.bl k] ∧ Q (.int (if k then 1 else 0)) H) gInt where
  ne := by
    intro a c fs h
    unfold gInt at h
    split at h <;> cases h
  ok := by
    intro S H xs ds hs rx d e Q q
    unfold gInt at e
    split at e
    · cases e
      obtain ⟨x, rfl, r⟩ := pair1 rx
      rw [r.int]
      exact .inl ⟨_, rfl, q _ S H (.refl hs) (.int _)⟩
    · cases e
      obtain ⟨x, rfl, r⟩ := pair1 rx
      rw [r.bool]
      exact .inr ⟨_, rfl, q _ S H (.refl hs) (.int _)⟩
    · cases e
theorem cList : CallD K (relF K 1) (fun xs H Q => ∃ p ys, xs = [.ref p] ∧ (SqL K H p ys ∨ SqT K H p ys) ∧ ∀ l, H l = none → Q (.ref l) (upd H l (.lst ys))) gList where
  ne := by
    intro a c fs h
    unfold gList at h
    split at h <;> cases h
  ok := by
    intro S H xs ds hs rx d e Q q
    unfold gList at e
    split at e
    · cases e
      obtain ⟨x, rfl, r⟩ := pair1 rx
      obtain ⟨p, ys, rfl, hp, r1⟩ := r.lst hs
      exact ⟨p, ys, rfl, .inl (.of hp), fun l hl => q _ S _ (.own hs hl) (Grow.ownF hs hl r1)⟩
    · cases e
      obtain ⟨x, rfl, r⟩ := pair1 rx
      obtain ⟨p, ys, rfl, hp, r1⟩ := r.tup hs
      exact ⟨p, ys, rfl, .inr hp, fun l hl => q _ S _ (.own hs hl) (Grow.ownF hs hl r1)⟩
    · cases e
theorem cTuple : CallD K (relP K) (fun xs H Q => ∃ p ys, xs = [.ref p] ∧ ((SqL K H p ys ∧ ∀ l, H l = none → Q (.ref l) (upd H l (.tup ys))) ∨ (SqT K H p ys ∧ Q (.ref p) H))) gTuple where
  ne := by
    intro a c fs h
    unfold gTuple at h
    split at h <;> cases h
  ok := by
    intro S H xs ds hs rx d e Q q
    unfold gTuple at e
    split at e
    · cases e
      obtain ⟨x, rfl, r⟩ := pair1 rx
      obtain ⟨p, ys, rfl, hp, r1⟩ := r.lst hs
      exact ⟨p, ys, rfl, .inl ⟨.of hp, fun l hl => q _ (upd S l (.tup ys)) _ (.new hs hl) (.tup (.of upd_same) (r1.mono (same_upd (hs.free hl))))⟩⟩
    · cases e
      obtain ⟨x, rfl, r⟩ := pair1 rx
      have r0 := r.rp trivial
      obtain ⟨p, ys, rfl, hp, r1⟩ := r.tup hs
      exact ⟨p, ys, rfl, .inr ⟨hp, q _ S H (.refl hs) r0⟩⟩
    · cases e
theorem cMax2 : CallD K (relP K) (fun xs H Q => ∃ i j, xs = [.int i, .int j] ∧ Q (.int (if j > i then j else i)) H) gMax2 where
  ne := by
    intro a c fs h
    unfold gMax2 at h
    split at h <;> cases h
  ok := by
    intro S H xs ds hs rx d e Q q
    unfold gMax2 at e
    split at e
    · cases e
      obtain ⟨x, y, rfl, r1, r2⟩ := pair2 rx
      rw [r1.int, r2.int]
      exact ⟨_, _, rfl, q _ S H (.refl hs) (.int _)⟩
    · cases e
theorem cMin2 : CallD K (relP K) (fun xs H Q => ∃ i j, xs = [.int i, .int j] ∧ Q (.int (if j < i then j else i)) H) gMin2 where
  ne := by
    intro a c fs h
    unfold gMin2 at h
    split at h <;> cases h
  ok := by
    intro S H xs ds hs rx d e Q q
    unfold gMin2 at e
    split at e
    · cases e
      obtain ⟨x, y, rfl, r1, r2⟩ := pair2 rx
      rw [r1.int, r2.int]
      exact ⟨_, _, rfl, q _ S H (.refl hs) (.int _)⟩
    · cases e
theorem cSorted : CallD K (relF K 1) (rSortedI K) gSorted where
  ne := by
    intro a c fs h
    unfold gSorted at h
    split at h <;> first
      | cases h
      | (split at h <;> cases h)
  ok := by
    intro S H xs ds hs rx d e Q q
    unfold gSorted at e
    split at e
    · split at e
      · rename_i ns e1
        cases e
        obtain ⟨x, rfl, r⟩ := pair1 rx
        obtain ⟨p, ys, rfl, hp, r1⟩ := r.lst hs
        rw [intsOf_eq e1] at r1
        rw [r1.ints] at hp
        refine ⟨p, ns, rfl, .of hp, fun ns' l h1 h2 hl => ?_⟩
        have e2 : ns' = sortI ns := sorted_eq (h1.trans (sortI_perm ns).symm) h2 (sortI_le ns)
        rw [e2]
        exact q _ S _ (.own hs hl) (Grow.ownF hs hl (.of_ints _))
      · cases e
    · split at e <;> cases e
    · cases e
theorem cSum : CallD K (relP K) (rSum K) gSum where
  ne := by
    intro a c fs h
    unfold gSum at h
    split at h <;> first
      | cases h
      | (split at h <;> cases h)
  ok := by
    intro S H xs ds hs rx d e Q q
    unfold gSum at e
    split at e
    · split at e
      · rename_i ns e1
        cases e
        obtain ⟨x, rfl, r⟩ := pair1 rx
        obtain ⟨p, ys, rfl, hp, r1⟩ := r.lst hs
        rw [intsOf_eq e1] at r1
        rw [r1.ints] at hp
        exact ⟨p, ns, rfl, .of hp, q _ S H (.refl hs) (.int _)⟩
      · cases e
    · cases e
end

/-! ### isinstance -/
def tyName : D → String
  | .none => "NoneType"
  | .bool _ => "bool"
  | .int _ => "int"
  | .str _ => "str"
  | .list _ => "list"
  | .tuple _ => "tuple"
  | .dict _ => "dict"
def isScr : D → Bool
  | .dict [(.none, .list _)] => true
  | _ => false
section
variable {K : PySem.W.Frag}
theorem Rp.ty {S H : Hp} {v : V} {d : D} (hs : Same S H) (h : Rp K S v d) (q : isScr d = false) : TyX K H v (.type (tyName d)) := by
  cases h with
  | non => exact .base .non
  | bl b => exact .base (.bl b)
  | int b => exact .base (.int b)
  | str b => exact .base (.str b)
  | lst e r => exact .base (.lst (hs _ _ e))
  | scr e r => cases q
  | tup e r =>
    rcases sqT_mono hs e with (e | ⟨o, e⟩) | ⟨o, its, n, e, c, _⟩
    · exact .base (.tup e)
    · exact .fTuple e
    · exact .kTuple e c
  | dic e r =>
    rcases rd_mono hs e with e | ⟨o, e⟩
    · exact .base (.dK e)
    · exact .fDict e
  | dicT e r =>
    exact .base (.dT (hs _ _ e))
  | dicF e r => exact .fDict (hs _ _ e)
end
end Pu
end

section
set_option Elab.async false
set_option linter.all false
set_option maxRecDepth 100000
set_option maxHeartbeats 2000000
/-! Pu5: isinstance, calls of the text's own defs, what is walked, comprehensions, statements. -/
namespace Pu
open PySem PySem.Spec PyProof.Rows L2

/-! ### isinstance -/
def isInt : D → Bool
  | .int _ => true
  | .bool _ => true
  | _ => false
def isBool : D → Bool
  | .bool _ => true
  | _ => false
def isList : D → Bool
  | .list _ => true
  | _ => false
def isTup : D → Bool
  | .tuple _ => true
  | _ => false
def isStr : D → Bool
  | .str _ => true
  | _ => false
def isRow (d : D) : Bool := isList d || isTup d
theorem kt_of {T : String} {f : D → Bool} (t : String → Bool) (hf : ∀ d, f d = t (tyName d)) (h : ["NoneType", "bool", "int", "str", "list", "tuple", "dict"].all (fun a => kitB a T == some (t a)) = true) (d : D) : kitB (tyName d) T = some (f d) := by
  have hm : tyName d ∈ ["NoneType", "bool", "int", "str", "list", "tuple", "dict"] := by cases d <;> simp [tyName]
  rw [hf]
  exact beq_iff_eq.mp (List.all_eq_true.mp h _ hm)
theorem kt_int (d : D) : kitB (tyName d) "int" = some (isInt d) := kt_of (fun a => a == "int" || a == "bool") (fun d => by cases d <;> rfl) (by decide +kernel) d
theorem kt_bool (d : D) : kitB (tyName d) "bool" = some (isBool d) := kt_of (fun a => a == "bool") (fun d => by cases d <;> rfl) (by decide +kernel) d
theorem kt_list (d : D) : kitB (tyName d) "list" = some (isList d) := kt_of (fun a => a == "list") (fun d => by cases d <;> rfl) (by decide +kernel) d
theorem kt_tup (d : D) : kitB (tyName d) "tuple" = some (isTup d) := kt_of (fun a => a == "tuple") (fun d => by cases d <;> rfl) (by decide +kernel) d
theorem kt_str (d : D) : kitB (tyName d) "str" = some (isStr d) := kt_of (fun a => a == "str") (fun d => by cases d <;> rfl) (by decide +kernel) d
def gIs (f : D → Bool) (d : D) : R D := rIf (isScr d = false) (.bool (f d))
section
variable {X : Cx} {Z : Sx} {ω : List Nat} {e : Expr} {fe : SE} {p p2 p3 p4 pos : Pos} {T : Str}
theorem r_isi {f : D → Bool} {Ts : String} (kt : ∀ d, kitB (tyName d) Ts = some (f d)) (he : RP X Z ω e fe) (hI : X.mg "isinstance" = none) (hT : X.mg T = none) (hv : bootBuiltins T = some (.type Ts)) (hg : Gl X "isinstance" := by rfl) (hgT : Gl X T := by rfl) (hnT : T ≠ "__name__" := by decide) (hdT : (T == ("__debug__" : Str)) = false := by decide)
    (hs : starEach (e :: [.Name T p2]) X.env = (false, eval e X.env) :: starEach [.Name T p2] X.env := by rfl) : RP X Z ω (.Call (.Name "isinstance" p) [e, .Name T p2] [] pos) (s1 (gIs f) fe) :=
  PE.of (pe_callB call_isi hg hI (by decide +kernel) (pa_cons he (pa_cons (pe_bltn (v := .ty Ts) hgT hT hv rfl hnT hdT) pa_nil) hs) (by decide) (by decide) hs) fun σ H Q ⟨S, ρ, h, c⟩ =>
    tI.seq an_P h c fun x S1 H1 d g1 rx c1 => by
      unfold gIs rIf at c1
      split at c1
      · rename_i hq
        exact ⟨x, .ty Ts, _, _, f d, rfl, .ty Ts, Rp.ty g1.sh rx hq, kit_ty (kt d), c1 _ S1 H1 (.refl g1.sh) (.bl _)⟩
      · exact c1.elim
theorem r_isrow {T1 T2 : Str} {k : Nat} (e1 : T1 = "list") (e2 : T2 = "tuple") (he : RP X Z ω e fe) (hI : X.mg "isinstance" = none) (hL : X.mg "list" = none) (hT : X.mg "tuple" = none) (hg : Gl X "isinstance" := by rfl) (hgL : Gl X "list" := by rfl) (hgT : Gl X "tuple" := by rfl)
    (hs : starEach (e :: [.Tuple [.Name "list" p2, .Name "tuple" p3] k p4]) X.env = (false, eval e X.env) :: starEach [.Tuple [.Name "list" p2, .Name "tuple" p3] k p4] X.env := by rfl) : RP X Z ω (.Call (.Name "isinstance" p) [e, .Tuple [.Name T1 p2, .Name T2 p3] k p4] [] pos) (s1 (gIs isRow) fe) := by
  subst e1 e2
  have bl : bootBuiltins "list" = some (.type "list") := by decide +kernel
  have bt : bootBuiltins "tuple" = some (.type "tuple") := by decide +kernel
  have hL' : PE X (.Name "list" p2) (tC (.ty "list")) := pe_bltn hgL hL bl rfl (by decide) (by decide)
  have hT' : PE X (.Name "tuple" p3) (tC (.ty "tuple")) := pe_bltn hgT hT bt rfl (by decide) (by decide)
  refine PE.of (pe_callB call_isiT hg hI (by decide +kernel) (pa_cons he (pa_cons (pe_tup (pa_cons hL' (pa_cons hT' pa_nil))) pa_nil) hs) (by decide) (by decide) hs) fun σ H Q ⟨S, ρ, h, c⟩ => ?_
  refine tI.seq an_P h c fun x S1 H1 d g1 rx c1 => ?_
  unfold gIs rIf at c1
  split at c1
  · rename_i hq
    refine ⟨(by show 2 ≤ sizeLine; decide), fun t ht => ?_⟩
    have g2 : Grow S1 H1 S1 (upd H1 t (.tup [.ty "list", .ty "tuple"])) := .own g1.sh ht
    refine ⟨x, t, [.ty "list", .ty "tuple"], _, [.type "list", .type "tuple"], isRow d, rfl, upd_same, .cons (.ty _) (.cons (.ty _) .nil), Rp.ty g2.sh rx hq, ?_, c1 _ S1 _ g2 (.bl _)⟩
    refine kitAny_cons (b := isList d) (kit_ty (kt_list d)) (fun z => ?_) fun z => by unfold isRow; rw [z]; rfl
    refine kitAny_cons (b := isTup d) (kit_ty (kt_tup d)) (fun z' => ?_) fun z' => by unfold isRow; rw [z', Bool.or_true]
    rw [kitAny_nil]
    unfold isRow
    rw [z, z']
    rfl
  · exact c1.elim
end

/-! ### calls of the text's own defs -/
def ALen (fa : SA) (n : Nat) : Prop := ∀ ρ ds, fa ρ = .ok ds → ds.length = n
theorem len_nil : ALen aNil 0 := fun ρ ds h => by
  cases h
  rfl
theorem len_cons {fa : SE} {fr : SA} {n : Nat} (h : ALen fr n) : ALen (aCons fa fr) (n + 1) := fun ρ ds e => by
  unfold aCons at e
  cases e1 : fa ρ with
  | ok d =>
    rw [e1] at e
    cases e2 : fr ρ with
    | ok ds' =>
      have e3 : (fr ρ).bind (fun xs => R.ok (d :: xs)) = .ok ds := e
      rw [e2] at e3
      cases e3
      exact congrArg Nat.succ (h ρ ds' e2)
    | ex c fs =>
      have e3 : (fr ρ).bind (fun xs => R.ok (d :: xs)) = .ok ds := e
      rw [e2] at e3
      cases e3
    | bad =>
      have e3 : (fr ρ).bind (fun xs => R.ok (d :: xs)) = .ok ds := e
      rw [e2] at e3
      cases e3
  | ex c fs =>
    rw [e1] at e
    cases e
  | bad =>
    rw [e1] at e
    cases e
/-- what a def promises: m is its data -/
def spP (K : PySem.W.Frag) (k n : Nat) (m : List D → R D) : Sp := fun vs H Q E => vs.length = n ∧ ∃ S ds, Same S H ∧ RpAll K S vs ds ∧ Cl K ⟨fun c d _ H' => E c d H', none⟩ (relF K k) [] Q S H (m ds)
section
variable {X : Cx} {Z : Sx} {ω : List Nat} {x : Str} {p pos : Pos} {e : Expr} {es : List Expr} {fa : SA} {k lv n : Nat} {f : Addr} {fd : FuncData} {ps : List Str} {m : List D → R D}
theorem r_call (F : FnOk X.prog X.w X.K X.mg X.base (L2N.CX X.prog X.w) k f fd ps (spP X.K lv n m)) (tk : L2N.Takes X Z.W) (hr : Room k X.A) (hm : X.mg x = some (.ref f)) (hk : PySem.W.keepIn X.K (.ref f) = true) (hb : Binds X.K fd ps []) (ha : RA X Z ω (e :: es) fa) (hn : n = es.length + 1 := by rfl)
    (hg : Gl X x := by rfl) (hdb : (x == ("__debug__" : Str)) = false := by decide) (he : starEach (e :: es) X.env = (false, eval e X.env) :: starEach es X.env := by rfl) (hpl : (backTo pos (starEach es X.env)).any (·.1) = false := by rfl)
    (hl : ALen fa (es.length + 1) := by repeat' first | exact len_nil | refine len_cons ?_) : RF X Z ω lv (.Call (.Name x p) (e :: es) [] pos) (sCall m fa) :=
  PE.of (pe_callS F hr hg hm hk hb (fun σ => L2N.passAt tk σ) ha hdb he hpl) fun σ H Q ⟨S, ρ, h, c⟩ => by
    refine ⟨S, ρ, h, ?_⟩
    cases ef : fa ρ with
    | ok ds =>
      have c' : Cl X.K Z (relF X.K lv) σ Q S H (m ds) := by
        have c2 := c
        unfold sCall at c2
        rw [ef] at c2
        exact c2
      intro vs S' H' g rv
      refine ⟨by rw [RpAll.len rv, hl ρ ds ef, hn], S', ds, g.sh, rv, ?_⟩
      have c3 := c'.grow an_F g
      cases em : m ds with
      | ok d =>
        rw [em] at c3
        exact c3
      | ex cc fs =>
        rw [em] at c3
        exact c3
      | bad =>
        rw [em] at c3
        exact c3
    | ex cc fs =>
      unfold sCall at c
      rw [ef] at c
      exact c
    | bad =>
      unfold sCall at c
      rw [ef] at c
      exact c
end
end Pu
end

section
set_option Elab.async false
set_option linter.all false
set_option maxRecDepth 100000
set_option maxHeartbeats 2000000
/-! Pu6: what is walked, comprehensions, statements. -/
namespace Pu
open PySem PySem.Spec PyProof.Rows L2

/-! ### what is walked -/
structure Walks (K : PySem.W.Frag) (Al : Hp → Hp → Prop) (J : It) (ds : List D) : Prop where
  ex : ∃ G Y, Walk J ds.length G Y ∧ (∀ S H, Al S H → G H) ∧ ∀ S H i x H', i < ds.length → Al S H → Y i H x H' → ∃ S' d, Grow S H S' H' ∧ ds[i]? = some d ∧ Rp K S' x d
/-- while the shared part grows -/
def AlS (S' : Hp) : Hp → Hp → Prop := fun S H => Same S' S ∧ Same S H
/-- while all grows -/
def AlG (S' H' : Hp) : Hp → Hp → Prop := fun S H => Grow S' H' S H
def relIS (K : PySem.W.Frag) : Rel It (List D) := fun _ _ S' _ J ds => Walks K (AlS S') J ds
def relIG (K : PySem.W.Frag) : Rel It (List D) := fun _ _ S' H' J ds => Walks K (AlG S' H') J ds
theorem an_IS {K : PySem.W.Frag} : An (relIS K) := fun _ _ _ _ _ _ _ _ _ h => h
theorem an_IG {K : PySem.W.Frag} : An (relIG K) := fun _ _ _ _ _ _ _ _ _ h => h
abbrev SI := Rho → R (List D)
section
variable (X : Cx) (Z : Sx) (ω : List Nat)
abbrev RI (tg e : Expr) (f : SI) : Prop := PI X tg e (tI X.K Z ω (relIS X.K) f)
abbrev RIG (tg e : Expr) (f : SI) : Prop := PI X tg e (tI X.K Z ω (relIG X.K) f)
end
theorem PI.of {X : Cx} {tg e : Expr} {t t' : TI} (h : PI X tg e t) (i : ∀ σ H Q, t' σ H Q → t σ H Q) : PI X tg e t' := ⟨fun pins s σ H Q I q => h.run pins s σ H Q I (i σ H Q q)⟩
section
variable {X : Cx} {Z : Sx} {ω : List Nat} {tg l a b : Expr} {p pos : Pos} {fe : SE} {fa : SA}
theorem ri_g {f : SI} (h : RI X Z ω tg l f) : RIG X Z ω tg l f := PI.of h fun _ _ _ => tI.rel fun S H S' H' J ds g ⟨G, Y, w, h1, h2⟩ => ⟨S', g, ⟨G, Y, w, fun S2 H2 g2 => h1 S2 H2 ⟨g2.ss, g2.sh⟩, fun S2 H2 i x H3 hi g2 y => h2 S2 H2 i x H3 hi ⟨g2.ss, g2.sh⟩ y⟩⟩
/-- a list or a tuple -/
theorem pi_seq {tl : TE} (hl : PE X l tl) : PI X tg l (fun σ H R => tl σ H fun x H1 => ∃ a, x = .ref a ∧ (((∃ xs, SqL X.K H1 a xs) ∧ R (Itl X.K a) H1) ∨ ((∃ xs, SqT X.K H1 a xs) ∧ R (Itt X.K a) H1))) := by
  refine ⟨fun pins s σ H R I h => ?_⟩
  refine thn (hl.run pins s σ H _ I h) fun v s1 ⟨x, H1, I1, r1, a, e, q⟩ => ?_
  subst e
  cases r1
  have fr : ∀ b ∈ [s1.heap.objs.size], FpOk X pins H1 b := fun b hb => by
    rw [List.mem_singleton.mp hb]
    exact I1.fpOk (Nat.le_refl _) (I1.hok.fresh (Nat.le_refl _))
  rcases q with ⟨⟨xs, hq⟩, q⟩ | ⟨⟨xs, hq⟩, q⟩
  · obtain ⟨its, rv, p, hz⟩ := I1.list hq
    exact wpAny_pyIter_list p.isList ⟨_, [s1.heap.objs.size], _, _, H1, rfl, I1.kept (t' := s1.toks) fun b o e => Heap.get?_push_of_some _ e, turn_list a _, ⟨_, Heap.get?_push_size _ rfl, rfl, rfl⟩, fr, q⟩
  · obtain ⟨its, rv, p, hz⟩ := I1.tuple hq
    exact wpAny_pyIter_tuple (show s1.heap.IsTuple a its.toArray from p) ⟨_, [s1.heap.objs.size], _, _, H1, rfl, I1.kept (t' := s1.toks) fun b o e => Heap.get?_push_of_some _ e, turn_tuple a _, ⟨_, Heap.get?_push_size _ rfl, rfl, rfl⟩, fr, q⟩
def gIter : D → R (List D)
  | .list ds => .ok ds
  | .tuple ds => .ok ds
  | _ => .bad
def sIter (f : SE) : SI := fun ρ => (f ρ).bind gIter
theorem walks_at {K : PySem.W.Frag} {Al : Hp → Hp → Prop} {J : It} {xs : List V} {ds : List D} {G : Hp → Prop} (w : Walk J xs.length G (YAt xs)) (hG : ∀ S H, Al S H → G H) (hsh : ∀ S H, Al S H → Same S H) (hr : ∀ S H, Al S H → RpAll K S xs ds) (hl : xs.length = ds.length) : Walks K Al J ds :=
  ⟨G, YAt xs, by rw [← hl]; exact w, hG, fun S H i x H' hi al ⟨e, hx⟩ => by
    obtain ⟨d, hd, r⟩ := (hr S H al).get hx
    exact ⟨S, d, by rw [e]; exact .refl (hsh S H al), hd, r⟩⟩
theorem i_seq (h : RP X Z ω l fe) : RI X Z ω tg l (sIter fe) := PI.of (pi_seq h) fun σ H R ⟨S, ρ, h, c⟩ =>
  tI.seq an_IS h c fun x S1 H1 d g1 rx c1 => by
    cases d with
    | list ds =>
      have rx : Rp X.K S1 x (.list ds) := rx
      cases rx with
      | @lst a xs _ e r => exact ⟨a, rfl, .inl ⟨⟨xs, .of (g1.sh _ _ e)⟩, c1 _ S1 H1 (.refl g1.sh) (walks_at walk_list (fun S H al => .of (al.2 _ _ (al.1 _ _ e))) (fun S H al => al.2) (fun S H al => r.mono al.1) r.len)⟩⟩
    | tuple ds =>
      have rx : Rp X.K S1 x (.tuple ds) := rx
      cases rx with
      | @tup a xs _ e r => exact ⟨a, rfl, .inr ⟨⟨xs, sqT_mono g1.sh e⟩, c1 _ S1 H1 (.refl g1.sh) (walks_at walk_tup (fun S H al => sqT_mono al.2 (sqT_mono al.1 e)) (fun S H al => al.2) (fun S H al => r.mono al.1) r.len)⟩⟩
    | _ => exact c1.elim
/-- in a comprehension: an owned list, too -/
theorem ig_seq (h : RQ X Z ω l fe) : RIG X Z ω tg l (sIter fe) := PI.of (pi_seq h) fun σ H R ⟨S, ρ, h, c⟩ =>
  tI.seq an_IG h c fun x S1 H1 d g1 rx c1 => by
    cases d with
    | list ds =>
      have rx : Rq X.K S1 H1 x (.list ds) := rx
      obtain ⟨a, xs, rfl, e, r⟩ := rx.lst g1.sh
      exact ⟨a, rfl, .inl ⟨⟨xs, .of e⟩, c1 _ S1 H1 (.refl g1.sh) (walks_at walk_list (fun S H (al : Grow _ _ _ _) => .of (al.hh _ _ e)) (fun S H al => al.sh) (fun S H al => r.mono al.ss) r.len)⟩⟩
    | tuple ds =>
      have rx : Rq X.K S1 H1 x (.tuple ds) := rx
      obtain ⟨a, xs, rfl, e, r⟩ := rx.tup g1.sh
      exact ⟨a, rfl, .inr ⟨⟨xs, e⟩, c1 _ S1 H1 (.refl g1.sh) (walks_at walk_tup (fun S H (al : Grow _ _ _ _) => sqT_mono al.hh e) (fun S H al => al.sh) (fun S H al => r.mono al.ss) r.len)⟩⟩
    | _ => exact c1.elim
/-- the ints from lo on -/
def rngD (lo : Int) (n : Nat) : List D := (List.range n).map fun (i : Nat) => .int (lo + (i : Int))
def gRange1 : List D → R (List D)
  | [.int j] => rIf (-(2 ^ 62) ≤ j ∧ j < 2 ^ 62) (rngD 0 j.toNat)
  | _ => .bad
def gRange2 : List D → R (List D)
  | [.int i, .int j] => rIf (-(2 ^ 62) ≤ i ∧ i < 2 ^ 62 ∧ -(2 ^ 62) ≤ j ∧ j < 2 ^ 62) (rngD i (j - i).toNat)
  | _ => .bad
def sRange1 (f : SA) : SI := fun ρ => (f ρ).bind gRange1
def sRange2 (f : SA) : SI := fun ρ => (f ρ).bind gRange2
theorem walks_rng {K : PySem.W.Frag} {S' : Hp} {lo : Int} {n : Nat} : Walks K (AlS S') (Itr lo n) (rngD lo n) :=
  ⟨fun _ => True, YFn fun i => .int (lo + i), by unfold rngD; rw [List.length_map, List.length_range]; exact walk_range, fun _ _ _ => trivial, fun S H i x H' hi al ⟨e, ex⟩ => by
    have hi' : i < n := by unfold rngD at hi; rw [List.length_map, List.length_range] at hi; exact hi
    refine ⟨S, .int (lo + (i : Int)), by rw [e]; exact .refl al.2, ?_, by rw [ex]; exact .int _⟩
    unfold rngD
    rw [List.getElem?_map, List.getElem?_range hi']
    rfl⟩
theorem Cl.inv {β α : Type} {K : PySem.W.Frag} {rel : Rel β α} {σ : St} {Q : β → Hp → Prop} {S H : Hp} {r : R α} (c : Cl K Z rel σ Q S H r) (hne : ∀ k fs, r ≠ .ex k fs) : ∃ d, r = .ok d ∧ ∀ v S' H', Grow S H S' H' → rel S H S' H' v d → Q v H' := by
  cases r with
  | ok d => exact ⟨d, rfl, c⟩
  | ex k fs => exact absurd rfl (hne k fs)
  | bad => exact c.elim
theorem RpAll.int1 {K : PySem.W.Frag} {S : Hp} {xs : List V} {i : Int} (h : RpAll K S xs [.int i]) : xs = [.int i] := by
  cases h with
  | cons a b =>
    cases a
    cases b
    rfl
theorem RpAll.int2 {K : PySem.W.Frag} {S : Hp} {xs : List V} {i j : Int} (h : RpAll K S xs [.int i, .int j]) : xs = [.int i, .int j] := by
  cases h with
  | cons a b =>
    cases a
    rw [RpAll.int1 b]
theorem i_rng1 (ha : RA X Z ω [a] fa) (hm : X.mg "range" = none) (hg : Gl X "range" := by rfl) (hs : starEach [a] X.env = [(false, eval a X.env)] := by rfl) : RI X Z ω tg (.Call (.Name "range" p) [a] [] pos) (sRange1 fa) := PI.of (pi_range1 hg hm ha hs) fun σ H R ⟨S, ρ, h, c⟩ =>
  tI.seq (rel1 := relA X.K) an_IS h c fun xs S1 H1 ds g1 rx c1 => by
    obtain ⟨l, e, q⟩ := c1.inv fun k fs h => by
      unfold gRange1 at h
      split at h <;> first
        | exact rIf_ex h
        | cases h
    unfold gRange1 at e
    split at e
    · obtain ⟨hz, rfl⟩ := rIf_ok e
      exact ⟨_, RpAll.int1 rx, hz.1, hz.2, q _ S1 H1 (.refl g1.sh) walks_rng⟩
    · cases e
theorem i_rng2 (ha : RA X Z ω [a, b] fa) (hm : X.mg "range" = none) (hg : Gl X "range" := by rfl) (hs : starEach [a, b] X.env = [(false, eval a X.env), (false, eval b X.env)] := by rfl) (hs2 : starEach [b] X.env = [(false, eval b X.env)] := by rfl) :
    RI X Z ω tg (.Call (.Name "range" p) [a, b] [] pos) (sRange2 fa) := PI.of (pi_range2 hg hm ha hs hs2) fun σ H R ⟨S, ρ, h, c⟩ =>
  tI.seq (rel1 := relA X.K) an_IS h c fun xs S1 H1 ds g1 rx c1 => by
    obtain ⟨l, e, q⟩ := c1.inv fun k fs h => by
      unfold gRange2 at h
      split at h <;> first
        | exact rIf_ex h
        | cases h
    unfold gRange2 at e
    split at e
    · obtain ⟨hz, rfl⟩ := rIf_ok e
      exact ⟨_, _, RpAll.int2 rx, hz, q _ S1 H1 (.refl g1.sh) walks_rng⟩
    · cases e
/-- pairs with their places -/
def enumD (ds : List D) : List D := ds.zipIdx.map fun p => .tuple [.int (p.2 : Nat), p.1]
def gEnum : D → R (List D)
  | .list ds => .ok (enumD ds)
  | .tuple ds => .ok (enumD ds)
  | _ => .bad
def sEnum (f : SE) : SI := fun ρ => (f ρ).bind gEnum
theorem walks_pair {K : PySem.W.Frag} {Al : Hp → Hp → Prop} {J : It} {n : Nat} {xs ys : Nat → Option V} {ds : List D} {G : Hp → Prop} (w : Walk J n G (YPair xs ys)) (hl : n = ds.length) (hG : ∀ S H, Al S H → G H) (hsh : ∀ S H, Al S H → Same S H)
    (hr : ∀ S H i x y, Al S H → xs i = some x → ys i = some y → ∃ d e, ds[i]? = some (.tuple [d, e]) ∧ Rp K S x d ∧ Rp K S y e) : Walks K Al J ds :=
  ⟨G, YPair xs ys, by rw [← hl]; exact w, hG, fun S H i v H' hi al ⟨T, x, y, ev, hT, eH, hx, hy⟩ => by
    obtain ⟨d, e, h1, h2, h3⟩ := hr S H i x y al hx hy
    have hs := hsh S H al
    refine ⟨upd S T (.tup [x, y]), _, by rw [eH]; exact .new hs hT, h1, ?_⟩
    have hm := same_upd (o := HO.tup [x, y]) (hs.free hT)
    rw [ev]
    exact .tup (.of upd_same) (.cons (h2.mono hm) (.cons (h3.mono hm) .nil))⟩
theorem enum_at {ds : List D} {i : Nat} {d : D} (h : ds[i]? = some d) : (enumD ds)[i]? = some (.tuple [.int (i : Nat), d]) := by
  unfold enumD
  rw [List.getElem?_map, List.getElem?_zipIdx, h]
  simp
theorem enum_len (ds : List D) : (enumD ds).length = ds.length := by
  unfold enumD
  rw [List.length_map, List.length_zipIdx]
end

/-! ### comprehensions -/
/-- the turns of a comprehension: i the slot of its name -/
def compL (i : Nat) (ft : SB) (fe : SE) (ρ : Rho) : List D → R (List D)
  | [] => .ok []
  | d :: ds => match ft (ρ.set i (some d)) with
    | .ok true => (match fe (ρ.set i (some d)) with
      | .ok y => (match compL i ft fe ρ ds with
        | .ok ys => .ok (y :: ys)
        | .ex c fs => .ex c fs
        | .bad => .bad)
      | .ex c fs => .bad
      | .bad => .bad)
    | .ok false => compL i ft fe ρ ds
    | .ex c fs => .bad
    | .bad => .bad
def bYes : SB := fun _ => .ok true
def sComp (i : Nat) (fi : SI) (ft : SB) (fe : SE) : SE := fun ρ => (fi ρ).bind fun ds => (compL i ft fe ρ ds).bind fun ys => rIf (ds.length ≤ sizeLine) (.list ys)
section
variable {X : Cx} {Z : Sx} {ω : List Nat} {elt tg iter : Expr} {ifs : List Expr} {scope : Scope} {pos : Pos} {i : Nat} {x : Str} {fi : SI} {ft : SB} {fe : SE}
/-- within the block nothing is let out -/
abbrev Zb : Sx := ⟨fun _ _ _ _ => False, none⟩
abbrev RTs (X : Cx) (Z : Sx) (ω : List Nat) (es : List Expr) (f : SB) : Prop := PTs X es (tI X.K Z ω relB f)
theorem PTs.of {X : Cx} {e : List Expr} {t t' : TT} (h : PTs X e t) (i : ∀ σ H Q, t' σ H Q → t σ H Q) : PTs X e t' := ⟨fun pins s σ H Q I q => h.run pins s σ H Q I (i σ H Q q)⟩
theorem ts_nil : RTs X Z ω [] bYes := PTs.of pts_nil fun σ H Q ⟨S, ρ, h, c⟩ => c true S H (.refl h.sh) rfl
theorem ts_one {e : Expr} {f : SB} (h : RT X Z ω e f) : RTs X Z ω [e] f := pts_one h
/-- the slots within: i wiped, then set -/
theorem At.blk {K : PySem.W.Frag} {σ : St} {S H : Hp} {ρ : Rho} (h : At K Z ω σ S H ρ) (hJ : Z.J = none) (hw : ω.getD i 0 = 0) {v : V} {d : D} (r : Rp K S v d) (hi : i < ρ.length) : At K Zb ω ((wipe σ [i]).set i (some v)) S H (ρ.set i (some d)) := by
  obtain ⟨S0, H0, P, G⟩ := h
  have e : (wipe σ [i]).set i (some v) = σ.set i (some v) := by
    show (σ.set i none).set i (some v) = _
    rw [List.set_set]
  rw [e]
  refine ⟨S0, H0, fun j => if j = i then [] else P j, ?_⟩
  refine ⟨G.g, by rw [List.length_set, List.length_set]; exact G.ln, by rw [List.length_set]; exact G.lw, fun j d' e => ?_, fun j a ha => ?_, fun j => ?_, fun j l a hjl h1 h2 => ?_, fun q e => nomatch e⟩
  · by_cases hj : j = i
    · subst hj
      rw [List.getElem?_set, if_pos rfl, if_pos hi] at e
      obtain rfl : d = d' := Option.some.inj (Option.some.inj e)
      refine ⟨v, ?_, ?_⟩
      · rw [List.getElem?_set, if_pos rfl, if_pos (by rw [G.ln]; exact hi)]
      · rw [hw, if_pos rfl]
        exact ⟨r, rfl⟩
    · rw [List.getElem?_set_ne (fun z => hj z.symm)] at e
      obtain ⟨v', h1, h2⟩ := G.sl j d' e
      refine ⟨v', ?_, by rw [if_neg hj]; exact h2⟩
      rw [List.getElem?_set_ne (fun z => hj z.symm)]
      exact h1
  · split at ha
    · cases ha
    · exact G.pn j a ha
  · split
    · exact .nil
    · exact G.nd j
  · split at h1
    · cases h1
    · split at h2
      · cases h2
      · exact G.dj j l a hjl h1 h2
theorem compL_len {ρ : Rho} : ∀ {ds ys : List D}, compL i ft fe ρ ds = .ok ys → ys.length ≤ ds.length
  | [], ys, h => by
    cases h
    exact Nat.le_refl _
  | d :: ds, ys, h => by
    unfold compL at h
    split at h
    · split at h
      · split at h
        · rename_i y _ ys' e
          cases h
          exact Nat.succ_le_succ (compL_len e)
        · cases h
        · cases h
      · cases h
      · cases h
    · exact Nat.le_succ_of_le (compL_len h)
    · cases h
    · cases h
/-- where the whole of the rest is wanted, the turn's parts are there -/
theorem compL_cons {ρ : Rho} {d : D} {ds ys : List D} (h : compL i ft fe ρ (d :: ds) = .ok ys) :
    (∃ y ys', ft (ρ.set i (some d)) = .ok true ∧ fe (ρ.set i (some d)) = .ok y ∧ compL i ft fe ρ ds = .ok ys' ∧ ys = y :: ys') ∨ (ft (ρ.set i (some d)) = .ok false ∧ compL i ft fe ρ ds = .ok ys) := by
  unfold compL at h
  split at h
  · rename_i e1
    split at h
    · rename_i y e2
      split at h
      · rename_i ys' e3
        cases h
        exact .inl ⟨y, ys', e1, e2, e3, rfl⟩
      · cases h
      · cases h
    · cases h
    · cases h
  · rename_i e1
    exact .inr ⟨e1, h⟩
  · cases h
  · cases h
theorem compL_ex {ρ : Rho} : ∀ {ds : List D} {c : Str} {fs : List (Str × D)}, compL i ft fe ρ ds ≠ .ex c fs
  | [], _, _ => fun h => by cases h
  | d :: ds, c, fs => fun h => by
    unfold compL at h
    split at h
    · split at h
      · split at h
        · cases h
        · rename_i e
          exact compL_ex e
        · cases h
      · cases h
      · cases h
    · exact compL_ex h
    · cases h
    · cases h
theorem comp_run (hω : i < ω.length) (hJ : Z.J = none) (hw : ω.getD i 0 = 0) (hc : X.calm = true) (hN : X.N.Nodup) (hi : RIG X Z ω (.Name x tp) iter fi) (ok : BlkOk X.N X.env.scope scope [(x, i)]) (hx : X.N[i]? = some x)
    (ht : ∀ (s : Shared) (H : Hp) (C : Addr) (cl : List (Str × Addr)) (fp : List Addr), RTs (X.blk s H scope (compEnvC scope cl C X.env) fp) Zb ω ifs ft) (he : ∀ (s : Shared) (H : Hp) (C : Addr) (cl : List (Str × Addr)) (fp : List Addr), RP (X.blk s H scope (compEnvC scope cl C X.env) fp) Zb ω elt fe)
    (hg : ∀ (s : Shared) (H : Hp) (C : Addr) (cl : List (Str × Addr)) (fp : List Addr), PG (X.blk s H scope (compEnvC scope cl C X.env) fp) (.Name x tp) (gName i)) {σ : St} {H : Hp} {Q : VK} (hσ : True)
    (h : tI X.K Z ω (relF X.K 1) (sComp i fi ft fe) σ H Q) : tLc (tI X.K Z ω (relIG X.K) fi) (gName i) (tI X.K Zb ω relB ft) (tI X.K Zb ω (relP X.K) fe) [i] σ H Q := by
  obtain ⟨S, ρ, h, c⟩ := h
  refine tI.seq an_F h c fun J S1 H1 ds g1 rJ c1 => fun C hC => ?_
  obtain ⟨d', e', q⟩ := c1.inv fun k fs h' => by
    cases e : compL i ft fe ρ ds with
    | ok ys =>
      rw [e] at h'
      exact rIf_ex h'
    | ex k' fs' => exact compL_ex e
    | bad =>
      rw [e] at h'
      cases h'
  cases e : compL i ft fe ρ ds with
  | ex k' fs' => exact absurd e compL_ex
  | bad =>
    rw [e] at e'
    cases e'
  | ok ys =>
    rw [e] at e'
    obtain ⟨hz, rfl⟩ := rIf_ok e'
    obtain ⟨G, Y, w, hG, hY⟩ := rJ
    have hli : i < ρ.length := by
      obtain ⟨_, _, _, G⟩ := h
      rw [← G.lw]
      exact hω
    refine lc_it w (fun j H2 => ∃ (S2 : Hp) (acc : List V) (done rest : List D), Grow S1 H1 S2 H2 ∧ S2 C = none ∧ H2 C = some (.lst acc) ∧ RpAll X.K S2 acc done ∧ done ++ rest = ys ∧ done.length ≤ j ∧ compL i ft fe ρ (ds.drop j) = .ok rest) ?_ ?_ ?_ ?_
    · exact ⟨S1, [], [], ys, .own g1.sh hC, g1.sh.free hC, upd_same, .nil, rfl, Nat.zero_le _, e⟩
    · rintro j H2 hj ⟨S2, acc, done, rest, g2, _, _, _, _, _, _⟩
      exact hG S2 H2 g2
    · rintro j v H2 H3 hj ⟨S2, acc, done, rest, g2, hn, hC2, ra, ey, hl, ec⟩ hy
      obtain ⟨S3, d, g3, hd, rd⟩ := hY S2 H2 j v H3 hj g2 hy
      have ed : ds.drop j = d :: ds.drop (j + 1) := by
        rw [List.drop_eq_getElem_cons hj]
        have : ds[j] = d := by
          rw [List.getElem?_eq_getElem hj] at hd
          exact Option.some.inj hd
        rw [this]
      rw [ed] at ec
      have n3 : S3 C = none := g3.nw C hn (by rw [hC2]; exact fun z => nomatch z)
      have c3 : H3 C = some (.lst acc) := g3.hh _ _ hC2
      have at3 : At X.K Zb ω ((wipe σ [i]).set i (some v)) S3 H3 (ρ.set i (some d)) := (h.grow ((g1.trans g2).trans g3)).blk hJ hw rd hli
      refine ⟨?_, S3, _, at3, ?_⟩
      · show ((σ.set i none).set i (some v)).set i none = σ.set i none
        rw [List.set_set, List.set_set]
      rcases compL_cons ec with ⟨y, ys', e1, e2, e3, e4⟩ | ⟨e1, e3⟩
      · rw [e1]
        rintro b S4 H4 g4 rfl
        refine iteT ⟨S4, _, at3.grow g4, ?_⟩
        rw [e2]
        intro vy S5 H5 g5 ry
        have g35 := (g3.trans g4).trans g5
        refine ⟨acc, g35.hh _ _ hC2, ?_, S5, acc ++ [vy], done ++ [y], ys', ?_, g35.nw C hn (by rw [hC2]; exact fun z => nomatch z), upd_same, ?_, ?_, ?_, e3⟩
        · have l1 := compL_len e
          rw [RpAll.len ra]
          have l2 : done.length + rest.length = ys.length := by rw [← ey, List.length_append]
          rw [e4] at l2
          have l3 : (y :: ys').length = ys'.length + 1 := rfl
          omega
        · have g15 := g2.trans g35
          have n5 : S5 C = none := g35.nw C hn (by rw [hC2]; exact fun z => nomatch z)
          refine ⟨g15.ss, fun b o q => ?_, fun b o q => ?_, g15.nw⟩
          · rw [upd_ne (ne_of_none q hC)]
            exact g15.hh _ _ q
          · rw [upd_ne (ne_of_none q n5)]
            exact g15.sh _ _ q
        · exact (ra.mono g35.ss).app (.one ry)
        · rw [← ey, e4, List.append_assoc]
          rfl
        · rw [List.length_append]
          exact Nat.succ_le_succ hl
      · rw [e1]
        rintro b S4 H4 g4 rfl
        have g34 := g3.trans g4
        exact iteF ⟨S4, acc, done, rest, g2.trans g34, g34.nw C hn (by rw [hC2]; exact fun z => nomatch z), g34.hh _ _ hC2, ra.mono g34.ss, ey, Nat.le_succ_of_le hl, e3⟩
    · rintro H2 ⟨S2, acc, done, rest, g2, hn, hC2, ra, ey, hl, ec⟩
      rw [List.drop_length] at ec
      cases ec
      rw [List.append_nil] at ey
      subst ey
      exact q _ S2 H2 g2 ⟨[C], .inr (.inl ⟨C, acc, done, [], rfl, rfl, hC2, rfl, .of ra⟩), List.nodup_cons.mpr ⟨by simp, .nil⟩, fun a ha => by
        rw [List.mem_singleton.mp ha]
        exact ⟨hn, hC⟩⟩
end
end Pu
end

section
set_option Elab.async false
set_option linter.all false
set_option maxRecDepth 100000
set_option maxHeartbeats 2000000
/-! Pu7: statements. -/
namespace Pu
open PySem PySem.Spec PyProof.Rows L2

section
variable {X : Cx} {Z : Sx} {ω : List Nat} {elt tg iter : Expr} {ifs : List Expr} {scope : Scope} {pos tp : Pos} {i : Nat} {x : Str} {fi : SI} {ft : SB} {fe : SE}
theorem r_comp (i : Nat) {x : Str} (hω : i < ω.length) (hJ : Z.J = none) (hw : ω.getD i 0 = 0) (hc : X.calm = true) (hN : X.N.Nodup) (hi : RIG X Z ω (.Name x tp) iter fi) (ok : BlkOk X.N X.env.scope scope [(x, i)]) (hx : X.N[i]? = some x)
    (hg : ∀ (s : Shared) (H : Hp) (C : Addr) (cl : List (Str × Addr)) (fp : List Addr), PG (X.blk s H scope (compEnvC scope cl C X.env) fp) (.Name x tp) (gName i))
    (ht : ∀ (s : Shared) (H : Hp) (C : Addr) (cl : List (Str × Addr)) (fp : List Addr), RTs (X.blk s H scope (compEnvC scope cl C X.env) fp) Zb ω ifs ft) (he : ∀ (s : Shared) (H : Hp) (C : Addr) (cl : List (Str × Addr)) (fp : List Addr), RP (X.blk s H scope (compEnvC scope cl C X.env) fp) Zb ω elt fe)
    (hs : ∀ x, foldedSetIterable iter X.env x = pure x := by intro _; rfl) : RF X Z ω 1 (.ListComp elt [⟨.Name x tp, iter, ifs, 0⟩] scope pos) (sComp i fi ft fe) :=
  PE.of (pe_lc (own := [(x, i)]) hc hN hi ok hg ht he hs) fun σ H Q h => comp_run hω hJ hw hc hN hi ok hx ht he hg trivial h
end

/-! ### the frame, further -/
/-- each slot stands as it is, or is shared -/
def Wk (ω ω' : List Nat) : Prop := ω'.length = ω.length ∧ ∀ i, ω'.getD i 0 = ω.getD i 0 ∨ ω'.getD i 0 = 0
def wkB (ω ω' : List Nat) : Bool := decide (ω'.length = ω.length) && (List.range ω.length).all fun i => decide (ω'.getD i 0 = ω.getD i 0) || decide (ω'.getD i 0 = 0)
theorem wk_of {ω ω' : List Nat} (h : wkB ω ω' = true) : Wk ω ω' := by
  unfold wkB at h
  rw [Bool.and_eq_true] at h
  have h1 := of_decide_eq_true h.1
  refine ⟨h1, fun i => ?_⟩
  by_cases hi : i < ω.length
  · have := List.all_eq_true.mp h.2 i (List.mem_range.mpr hi)
    rw [Bool.or_eq_true] at this
    exact this.imp of_decide_eq_true of_decide_eq_true
  · right
    rw [List.getD_eq_getElem?_getD, List.getElem?_eq_none (by omega)]
    rfl
theorem wk_refl {ω : List Nat} : Wk ω ω := ⟨rfl, fun _ => .inl rfl⟩
theorem wk_zero {ω : List Nat} : Wk ω (ω.map fun _ => 0) := ⟨List.length_map _, fun i => .inr (by
  rw [List.getD_eq_getElem?_getD, List.getElem?_map]
  cases ω[i]? <;> rfl)⟩
section
variable {K : PySem.W.Frag} {S0 H0 S H S' H' : Hp} {J : Option Exi} {ω ω' : List Nat} {σ : St} {ρ : Rho} {P : Nat → List Addr}
theorem Good.weak (G : Good K S0 H0 J ω σ ρ S H P) (w : Wk ω ω') : ∃ S' P', Good K S0 H0 J ω' σ ρ S' H P' ∧ Same S S' := by
  let fz : Nat → Prop := fun i => i < ω.length ∧ ω'.getD i 0 = 0
  let A : List Addr := (List.range ω.length).flatMap fun i => if ω'.getD i 0 = 0 then P i else []
  have inA : ∀ a, a ∈ A ↔ ∃ i, i < ω.length ∧ ω'.getD i 0 = 0 ∧ a ∈ P i := fun a => by
    show a ∈ List.flatMap _ _ ↔ _
    rw [List.mem_flatMap]
    constructor
    · rintro ⟨i, hi, h⟩
      split at h
      · exact ⟨i, List.mem_range.mp hi, by assumption, h⟩
      · cases h
    · rintro ⟨i, hi, hz, h⟩
      exact ⟨i, List.mem_range.mpr hi, by rw [if_pos hz]; exact h⟩
  have hA : ∀ a ∈ A, S a = none ∧ H0 a = none := fun a ha => by
    obtain ⟨i, _, _, h⟩ := (inA a).mp ha
    exact ⟨(G.pn i a h).1, (G.pn i a h).2.1⟩
  have hs : Same S (addS S H A) := addS_same fun a ha => (hA a ha).1
  refine ⟨addS S H A, fun i => if i < ω.length ∧ ω'.getD i 0 = 0 then [] else P i, ⟨G.g.frz hA, G.ln, by rw [w.1]; exact G.lw, fun i d e => ?_, fun i a ha => ?_, fun i => ?_, fun i j a hij h1 h2 => ?_, fun q e => ⟨(G.xi q e).1, (G.xi q e).2.mono hs⟩⟩, hs⟩
  · obtain ⟨v, h1, h2⟩ := G.sl i d e
    refine ⟨v, h1, ?_⟩
    have hi : i < ω.length := by
      rw [G.lw]
      exact (List.getElem?_eq_some_iff.mp e).1
    by_cases hz : ω'.getD i 0 = 0
    · rw [if_pos ⟨hi, hz⟩, hz]
      exact ⟨h2.frz hs fun a ha => addS_in ((inA a).mpr ⟨i, hi, hz, ha⟩), rfl⟩
    · rw [if_neg (fun h => hz h.2)]
      rcases w.2 i with h | h
      · rw [h]
        exact h2.mono hs fun a _ => rfl
      · exact absurd h hz
  · split at ha
    · cases ha
    · rename_i hn
      refine ⟨?_, (G.pn i a ha).2⟩
      rw [addS_out]
      · exact (G.pn i a ha).1
      · intro hm
        obtain ⟨j, hj, hz, h⟩ := (inA a).mp hm
        by_cases hij : i = j
        · subst hij
          exact hn ⟨hj, hz⟩
        · exact G.dj i j a hij ha h
  · split
    · exact .nil
    · exact G.nd i
  · split at h1
    · cases h1
    · split at h2
      · cases h2
      · exact G.dj i j a hij h1 h2
/-- slot i's list gets other items -/
theorem Good.mut (G : Good K S0 H0 J ω σ ρ S H P) {i k : Nat} {a : Addr} {o : HO} {d : D} {Q : List Addr} (hi : ω.getD i 0 = k) (hv : σ[i]? = some (some (.ref a))) (ha : a ∈ P i) (hQ : ∀ b ∈ Q, b = a ∨ b ∈ P i ∨ (S b = none ∧ H0 b = none ∧ ∀ j, b ∉ P j)) (hn : Q.Nodup)
    (h : OwnN K S (upd H a o) k (.ref a) d Q) : Good K S0 H0 J ω σ (ρ.set i (some d)) S (upd H a o) fun j => if j = i then Q else P j := by
  obtain ⟨a1, a2, a3⟩ := G.pn i a ha
  have ne : ∀ b u, S b = some u → b ≠ a := fun b u e z => by rw [z, a1] at e; cases e
  have ne0 : ∀ b u, H0 b = some u → b ≠ a := fun b u e z => by rw [z, a2] at e; cases e
  have nn : ∀ b, H b ≠ none → upd H a o b ≠ none := fun b q => by
    by_cases hb : b = a
    · rw [hb, upd_same]
      exact fun z => nomatch z
    · rw [upd_ne hb]
      exact q
  refine ⟨⟨G.g.ss, fun b u e => ?_, fun b u e => ?_, G.g.nw⟩, by rw [List.length_set]; exact G.ln, by rw [List.length_set]; exact G.lw, fun j d' e => ?_, fun j b hb => ?_, fun j => ?_, fun j l b hjl h1 h2 => ?_, G.xi⟩
  · rw [upd_ne (ne0 b u e)]
    exact G.g.hh _ _ e
  · rw [upd_ne (ne b u e)]
    exact G.g.sh _ _ e
  · by_cases hj : j = i
    · subst hj
      rw [List.getElem?_set, if_pos rfl] at e
      split at e
      · obtain rfl : d = d' := Option.some.inj (Option.some.inj e)
        exact ⟨_, hv, by rw [hi, if_pos rfl]; exact h⟩
      · cases e
    · rw [List.getElem?_set_ne (fun z => hj z.symm)] at e
      obtain ⟨v, h1, h2⟩ := G.sl j d' e
      refine ⟨v, h1, ?_⟩
      rw [if_neg hj]
      exact h2.mono (.refl _) fun b hb => upd_ne fun z => G.dj j i b hj hb (by rw [z]; exact ha)
  · split at hb
    · rcases hQ b hb with e | hb' | ⟨q1, q2, _⟩
      · rw [e]
        exact ⟨a1, a2, by rw [upd_same]; exact fun z => nomatch z⟩
      · obtain ⟨b1, b2, b3⟩ := G.pn i b hb'
        exact ⟨b1, b2, nn b b3⟩
      · exact ⟨q1, q2, h.there b hb⟩
    · obtain ⟨b1, b2, b3⟩ := G.pn j b hb
      exact ⟨b1, b2, nn b b3⟩
  · split
    · exact hn
    · exact G.nd j
  · have key : ∀ l', l' ≠ i → b ∈ Q → b ∈ P l' → False := fun l' hl' hb hp => by
      rcases hQ b hb with e | hb' | ⟨_, _, q⟩
      · rw [e] at hp
        exact G.dj l' i a hl' hp ha
      · exact G.dj l' i b hl' hp hb'
      · exact q l' hp
    split at h1
    · split at h2
      · rename_i e1 e2
        exact hjl (e1.trans e2.symm)
      · rename_i _ z
        exact key l z h1 h2
    · split at h2
      · rename_i z _
        exact key j z h2 h1
      · exact G.dj j l b hjl h1 h2
end

/-! ### statements -/
structure Lp where
  kr : Nat := 0
  wb : List Nat := []
  wc : List Nat := []
section
variable (K : PySem.W.Frag) (Z : Sx) (L : Lp)
/-- what is wanted behind a statement, by what it does -/
def ClS (S0 H0 : Hp) (n : Nat) (ωn : List Nat) (D : Ends) : F → Prop
  | .nx ρ => ∀ σ S H P, Good K S0 H0 Z.J ωn σ ρ S H P → D.nx σ H
  | .bk ρ => ∀ σ S H P, Good K S0 H0 Z.J L.wb σ ρ S H P → D.bk σ H
  | .ct ρ => ∀ σ S H P, Good K S0 H0 Z.J L.wc σ ρ S H P → D.ct σ H
  | .rt d => ∀ v S H, Grow S0 H0 S H → relF K L.kr S0 H0 S H v d → D.rt v H
  | .ex c fs ρ => ∀ dd σ S H P, Good K S0 H0 Z.J (List.replicate n 0) σ ρ S H P → ExcD S dd fs → Z.W (.ref (He.ga K c)) dd σ H
  | .bad => False
def tS (ω ωn : List Nat) (f : SS) : TS := fun D σ H => ∃ S0 H0 S ρ P, Good K S0 H0 Z.J ω σ ρ S H P ∧ ClS K Z L S0 H0 ω.length ωn D (f ρ)
end
section
variable (X : Cx) (Z : Sx) (L : Lp)
abbrev RS (ω ωn : List Nat) (st : Stmt) (f : SS) : Prop := PS X st (tS X.K Z L ω ωn f)
abbrev RSs (ω ωn : List Nat) (sts : List Stmt) (f : SS) : Prop := PSs X sts (tS X.K Z L ω ωn f)
end
theorem PS.of {X : Cx} {e : Stmt} {t t' : TS} (h : PS X e t) (i : ∀ D σ H, t' D σ H → t D σ H) : PS X e t' := ⟨fun pins s σ H D I q => h.run pins s σ H D I (i D σ H q)⟩
theorem PSs.of {X : Cx} {e : List Stmt} {t t' : TS} (h : PSs X e t) (i : ∀ D σ H, t' D σ H → t D σ H) : PSs X e t' := ⟨fun pins s σ H D I q => h.run pins s σ H D I (i D σ H q)⟩
theorem zeros {ω : List Nat} : ω.map (fun _ => 0) = List.replicate ω.length 0 := by
  induction ω with
  | nil => rfl
  | cons n ω ih => rw [List.map_cons, ih, List.length_cons, List.replicate_succ]
/-- an expression's outcome in a statement -/
def eS {α : Type} (f : Rho → R α) (k : α → SS) : SS := fun ρ => match f ρ with
  | .ok a => k a ρ
  | .ex c fs => .ex c fs ρ
  | .bad => .bad
def sSeq (f g : SS) : SS := fun ρ => match f ρ with
  | .nx ρ' => g ρ'
  | r => r
section
variable {X : Cx} {Z : Sx} {L : Lp} {ω ωm ωn ω' : List Nat} {st : Stmt} {sts a b : List Stmt} {f g : SS} {e c : Expr} {fe : SE} {ft : SB} {pos : Pos}
/-- the expression is run, then the rest is wanted -/
theorem tS.expr {K : PySem.W.Frag} {β α : Type} {rel : Rel β α} {ff : Rho → R α} {k : α → SS} {D : Ends} {σ : St} {H : Hp} {Q : β → Hp → Prop} (h : tS K Z L ω ωn (eS ff k) D σ H)
    (hq : ∀ x S0 H0 S H S1 H1 ρ P d, Good K S0 H0 Z.J ω σ ρ S H P → Grow S H S1 H1 → rel S H S1 H1 x d → Good K S0 H0 Z.J ω σ ρ S1 H1 P → ClS K Z L S0 H0 ω.length ωn D (k d ρ) → Q x H1) : tI K Z ω rel ff σ H Q := by
  obtain ⟨S0, H0, S, ρ, P, G, c⟩ := h
  refine ⟨S, ρ, ⟨S0, H0, P, G⟩, ?_⟩
  unfold eS at c
  cases e : ff ρ with
  | ok d =>
    rw [e] at c
    exact fun v S1 H1 g r => hq v S0 H0 S H S1 H1 ρ P d G g r (G.grow g) c
  | ex k' fs =>
    rw [e] at c
    intro dd S1 H1 g x
    obtain ⟨S2, P2, G2, hs⟩ := (G.grow g).weak (wk_zero (ω := ω))
    rw [zeros] at G2
    exact c dd σ S2 H1 P2 G2 (x.mono hs)
  | bad =>
    rw [e] at c
    exact c.elim
/-! blocks -/
theorem ss_nil : RSs X Z L ω ω [] (fun ρ => .nx ρ) := PSs.of pss_nil fun D σ H ⟨S0, H0, S, ρ, P, G, c⟩ => c σ S H P G
/-- at a block's end things may become shared -/
theorem ss_end (w : wkB ω ωn = true := by decide) : RSs X Z L ω ωn [] (fun ρ => .nx ρ) := PSs.of pss_nil fun D σ H ⟨S0, H0, S, ρ, P, G, c⟩ => by
  obtain ⟨S', P', G', _⟩ := G.weak (wk_of w)
  exact c σ S' H P' G'
theorem ClS.len {K : PySem.W.Frag} {S0 H0 : Hp} {n n' : Nat} {D : Ends} {r : F} (h : n = n') (c : ClS K Z L S0 H0 n ωn D r) : ClS K Z L S0 H0 n' ωn D r := by
  subst h
  exact c
theorem ss_cons (h : RS X Z L ω ωm st f) (hr : RSs X Z L ωm ωn sts g) (hl : ωm.length = ω.length := by rfl) : RSs X Z L ω ωn (st :: sts) (sSeq f g) := PSs.of (pss_cons h hr) fun D σ H ⟨S0, H0, S, ρ, P, G, c⟩ => by
  refine ⟨S0, H0, S, ρ, P, G, ?_⟩
  unfold sSeq at c
  cases e : f ρ with
  | nx ρ' =>
    rw [e] at c
    exact fun σ' S' H' P' G' => ⟨S0, H0, S', ρ', P', G', c.len hl.symm⟩
  | rt d =>
    rw [e] at c
    exact c
  | bk d =>
    rw [e] at c
    exact c
  | ct d =>
    rw [e] at c
    exact c
  | ex k fs d =>
    rw [e] at c
    exact c
  | bad =>
    rw [e] at c
    exact c
/-- things become shared ahead of the rest -/
theorem ss_frz (ω' : List Nat) (h : RSs X Z L ω' ωn sts f) (w : wkB ω ω' = true := by decide) (hl : ω'.length = ω.length := by rfl) : RSs X Z L ω ωn sts f := PSs.of h fun D σ H ⟨S0, H0, S, ρ, P, G, c⟩ => by
  obtain ⟨S', P', G', _⟩ := G.weak (wk_of w)
  exact ⟨S0, H0, S', ρ, P', G', c.len hl.symm⟩
theorem s_pass : RS X Z L ω ω (.Pass pos) (fun ρ => .nx ρ) := PS.of ps_pass fun D σ H ⟨S0, H0, S, ρ, P, G, c⟩ => c σ S H P G
theorem s_break (w : wkB ω L.wb = true := by decide) : RS X Z L ω ωn (.Break pos) (fun ρ => .bk ρ) := PS.of ps_break fun D σ H ⟨S0, H0, S, ρ, P, G, c⟩ => by
  obtain ⟨S', P', G', _⟩ := G.weak (wk_of w)
  exact c σ S' H P' G'
theorem s_cont (w : wkB ω L.wc = true := by decide) : RS X Z L ω ωn (.Continue pos) (fun ρ => .ct ρ) := PS.of ps_continue fun D σ H ⟨S0, H0, S, ρ, P, G, c⟩ => by
  obtain ⟨S', P', G', _⟩ := G.weak (wk_of w)
  exact c σ S' H P' G'
def sDrop (fe : SE) : SS := eS fe fun _ ρ => .nx ρ
theorem s_drop (h : RP X Z ω e fe) (hs : swapsWith e none pos.line X.env = pure false := by rfl) : RS X Z L ω ω (.Expr e pos) (sDrop fe) := PS.of (ps_expr h hs) fun D σ H h =>
  tS.expr h fun x S0 H0 S H S1 H1 ρ P d G g r G1 c => c σ S1 H1 P G1
def sRet (fe : SE) : SS := eS fe fun d _ => .rt d
theorem s_ret {k : Nat} (hk : L.kr = k := by rfl) (h : RF X Z ω k e fe) : RS X Z L ω ωn (.Return (some e) pos) (sRet fe) := PS.of (ps_ret h) fun D σ H h =>
  tS.expr h fun x S0 H0 S H S1 H1 ρ P d G g ⟨Q, h1, h2, h3⟩ G1 c => c x S1 H1 G1.g ⟨Q, by rw [hk]; exact h1, h2, fun a ha => ⟨(h3 a ha).1, G.g.hh.free (h3 a ha).2⟩⟩
/-- what a slot owns is handed back -/
def sRetV (i : Nat) : SS := fun ρ => match ρ[i]? with
  | some (some d) => .rt d
  | _ => .bad
theorem s_retv (i : Nat) {x : Str} {p : Pos} (hk : ω.getD i 0 = L.kr := by rfl) (hN : X.N[i]? = some x := by rfl) (hv : Vis X.env.scope x := by first | exact Or.inl rfl | exact Or.inr (Or.inl rfl) | exact Or.inr (Or.inr rfl)) (hd : (x == ("__debug__" : Str)) = false := by decide)
    (hcd : (x == ("__classdict__" : Str)) = false := by decide) : RS X Z L ω ωn (.Return (some (.Name x p)) pos) (sRetV i) := PS.of (ps_ret (pe_var (i := i) hN hv hd hcd)) fun D σ H ⟨S0, H0, S, ρ, P, G, c⟩ => by
  unfold sRetV at c
  split at c
  · rename_i d e
    obtain ⟨v, h1, h2⟩ := G.sl i d e
    rw [hk] at h2
    exact ⟨v, h1, c v S H G.g ⟨P i, h2, G.nd i, fun a ha => ⟨(G.pn i a ha).1, (G.pn i a ha).2.1⟩⟩⟩
  · exact c.elim
theorem s_retN (hk : L.kr = 0 ∨ 0 < L.kr := by decide) : RS X Z L ω ωn (.Return none pos) (fun _ => .rt .none) := PS.of ps_retN fun D σ H ⟨S0, H0, S, ρ, P, G, c⟩ => by
  refine c .non S H G.g ⟨[], ?_, .nil, fun a ha => nomatch ha⟩
  cases e : L.kr with
  | zero => exact ⟨.non, rfl⟩
  | succ k => exact .inl ⟨.non, rfl, trivial⟩
/-- an atom handed back where a list may be -/
theorem rf_atom {k : Nat} (h : RP X Z ω e fe) : RF X Z ω (k + 1) e (sAtom fe) := PE.of h fun σ H Q ⟨S, ρ, h, c⟩ => tI.seq an_F h c fun x S1 H1 d g1 r c1 => by
  split at c1
  · rename_i ha
    refine c1 x S1 H1 (.refl g1.sh) ⟨[], .inl ⟨r, rfl, ?_⟩, .nil, fun a ha => nomatch ha⟩
    cases d <;> first
      | exact trivial
      | cases ha
  · exact c1.elim
def sIfS (ft : SB) (f g : SS) : SS := eS ft fun b => if b = true then f else g
theorem s_if (hc : RT X Z ω c ft) (ha : RSs X Z L ω ωn a f) (hb : RSs X Z L ω ωn b g) : RS X Z L ω ωn (.If c a b pos) (sIfS ft f g) := PS.of (ps_if hc ha hb) fun D σ H h =>
  tS.expr h fun x S0 H0 S H S1 H1 ρ P d G g' r G1 c => by
    have e : x = d := r
    subst e
    cases x with
    | true => exact iteT ⟨S0, H0, S1, ρ, P, G1, c⟩
    | false => exact iteF ⟨S0, H0, S1, ρ, P, G1, c⟩
def sSet (i : Nat) (fe : SE) : SS := eS fe fun d ρ => .nx (ρ.set i (some d))
theorem set_end {K : PySem.W.Frag} {S0 H0 S H S1 H1 : Hp} {J : Option Exi} {σ : St} {ρ : Rho} {P : Nat → List Addr} {i k : Nat} {v : V} {d : D} (G : Good K S0 H0 J ω σ ρ S H P) (g : Grow S H S1 H1) (r : relF K k S H S1 H1 v d) (hi : i < ω.length) (hJ : ∀ q, J = some q → q.slot ≠ i) :
    ∃ P', Good K S0 H0 J (ω.set i k) (σ.set i (some v)) (ρ.set i (some d)) S1 H1 P' := by
  obtain ⟨Q, h1, h2, h3⟩ := r
  exact ⟨_, (G.grow g).set hi h1 h2 (fun a ha => ⟨(h3 a ha).1, G.g.hh.free (h3 a ha).2, fun j _ hp => (G.pn j a hp).2.2 (h3 a ha).2⟩) hJ⟩
theorem s_set (i : Nat) {k : Nat} {x : Str} {p' : Pos} (h : RF X Z ω k e fe) (hJ : ∀ q, Z.J = some q → q.slot ≠ i := by intro _ z; cases z) (hi : i < ω.length := by decide) (hN : X.N.Nodup := by first | assumption | decide) (hx : X.N[i]? = some x := by rfl) (hl : Loc X.env.scope x := by first | exact Or.inl rfl | exact Or.inr rfl)
    (hs : swapsWith e (some (.Name x p')) pos.line X.env = pure false := by rfl) (hf : X.fn x = true ∨ X.env.scope.names.lookup x = some .local := by first | exact .inl rfl | exact .inr rfl | assumption) : RS X Z L ω (ω.set i k) (.Assign [.Name x p'] e pos) (sSet i fe) :=
  PS.of (ps_set hN hx hl h hs hf) fun D σ H h => tS.expr h fun v S0 H0 S H S1 H1 ρ P d G g r G1 c => by
    obtain ⟨P', G'⟩ := set_end G g r hi hJ
    exact c _ S1 H1 P' G'
/-- name = [..] -/
theorem s_setc (i j : Nat) {y x : Str} {elt iter : Expr} {ifs : List Expr} {scope : Scope} {p2 tp py : Pos} {fi : SI} {ft : SB} {fe : SE} (hJ : Z.J = none) (hj : j < ω.length) (hw : ω.getD i 0 = 0) (hω : i < ω.length) (hc : X.calm = true) (hN : X.N.Nodup) (hy : X.N[j]? = some y) (hyl : X.env.scope.names.lookup y = some .local)
    (hsw : swapsWith (.ListComp elt [⟨.Name x tp, iter, ifs, 0⟩] scope p2) (some (.Name y py)) pos.line X.env = pure true) (hi : RIG X Z ω (.Name x tp) iter fi) (ok : BlkOk X.N X.env.scope scope [(x, i)]) (hx : X.N[i]? = some x)
    (hg : ∀ (s : Shared) (H : Hp) (C : Addr) (cl : List (Str × Addr)) (fp : List Addr), PG (X.blk s H scope (compEnvC scope cl C X.env) fp) (.Name x tp) (gName i))
    (ht : ∀ (s : Shared) (H : Hp) (C : Addr) (cl : List (Str × Addr)) (fp : List Addr), RTs (X.blk s H scope (compEnvC scope cl C X.env) fp) Zb ω ifs ft) (he : ∀ (s : Shared) (H : Hp) (C : Addr) (cl : List (Str × Addr)) (fp : List Addr), RP (X.blk s H scope (compEnvC scope cl C X.env) fp) Zb ω elt fe)
    (hs : ∀ x, foldedSetIterable iter X.env x = pure x := by intro _; rfl) : RS X Z L ω (ω.set j 1) (.Assign [.Name y py] (.ListComp elt [⟨.Name x tp, iter, ifs, 0⟩] scope p2) pos) (sSet j (sComp i fi ft fe)) :=
  PS.of (ps_setLc (i := j) (own := [(x, i)]) hc hN hy hyl hsw hi ok hg ht he hs) fun D σ H h => comp_run hω hJ hw hc hN hi ok hx ht he hg trivial (tS.expr h fun v S0 H0 S H S1 H1 ρ P d G g r G1 c => by
    obtain ⟨P', G'⟩ := set_end G g r hj (fun q e => by rw [hJ] at e; cases e)
    exact c _ S1 H1 P' G')
end
end Pu
end

section
set_option Elab.async false
set_option linter.all false
set_option maxRecDepth 100000
set_option maxHeartbeats 2000000
/-! Pu8: stores into what a slot owns, loops. -/
namespace Pu
open PySem PySem.Spec PyProof.Rows L2

theorem OwnAll.snoc {f : V → D → List Addr → Prop} {v : V} {d : D} {Q : List Addr} (h : f v d Q) : ∀ {vs : List V} {ds : List D} {P : List Addr}, OwnAll f vs ds P → OwnAll f (vs ++ [v]) (ds ++ [d]) (P ++ Q)
  | [], [], P, e => by
    rw [show P = [] from e]
    exact ⟨Q, [], by simp, h, rfl⟩
  | [], _ :: _, _, e => e.elim
  | _ :: _, [], _, e => e.elim
  | v' :: vs, d' :: ds, P, ⟨P1, P2, e, h1, h2⟩ => ⟨P1, P2 ++ Q, by rw [e, List.append_assoc], h1, OwnAll.snoc h h2⟩
section
variable {K : PySem.W.Frag} {S H : Hp} {k : Nat} {v : V} {ds : List D} {P : List Addr}
theorem OwnN.lst (h : OwnN K S H (k + 1) v (.list ds) P) : ∃ a xs P', v = .ref a ∧ H a = some (.lst xs) ∧ P = a :: P' ∧ OwnAll (OwnN K S H k) xs ds P' := by
  rcases h with ⟨_, _, s⟩ | ⟨a, xs, ds', P', ev, ed, ha, eP, h⟩ | ⟨a, kvs, ds', ev, ed, _⟩ | ⟨a, kvs, ds', ev, ed, _⟩
  · exact s.elim
  · cases ed
    exact ⟨a, xs, P', ev, ha, eP, h⟩
  · cases ed
  · cases ed
end

/-! ### append -/
def sApp (i : Nat) (fe : SE) : SS := fun ρ => match ρ[i]? with
  | some (some (.list ds)) => eS fe (fun d ρ => if ds.length < sizeLine then .nx (ρ.set i (some (.list (ds ++ [d])))) else .bad) ρ
  | _ => .bad
section
variable {X : Cx} {Z : Sx} {L : Lp} {ω ωn : List Nat} {e o : Expr} {fe : SE} {pos p1 p2 : Pos}
theorem s_app (i : Nat) {k : Nat} {x : Str} (hk : ω.getD i 0 = k + 1 := by rfl) (h : RF X Z ω k e fe) (hN : X.N[i]? = some x := by rfl) (hv : Vis X.env.scope x := by first | exact Or.inl rfl | exact Or.inr (Or.inl rfl) | exact Or.inr (Or.inr rfl)) (hd : (x == ("__debug__" : Str)) = false := by decide)
    (hcd : (x == ("__classdict__" : Str)) = false := by decide) {te0 : TE} {pe : PE X (.Call (.Attribute (.Name x p1) "append" p2) [e] [] pos) (tBM X.K "list" rAppend (tVar i) (tCons (tI X.K Z ω (relF X.K k) fe) tNil))} {pos2 : Pos}
    (hs : swapsWith (.Call (.Attribute (.Name x p1) "append" p2) [e] [] pos) none pos2.line X.env = pure false := by rfl) : RS X Z L ω ω (.Expr (.Call (.Attribute (.Name x p1) "append" p2) [e] [] pos) pos2) (sApp i fe) :=
  PS.of (ps_expr pe hs) fun D σ H ⟨S0, H0, S, ρ, P, G, c⟩ => by
    unfold sApp at c
    split at c
    · rename_i ds e1
      obtain ⟨v, h1, h2⟩ := G.sl i _ e1
      rw [hk] at h2
      obtain ⟨a, xs, P', rfl, ha, eP, hA⟩ := h2.lst
      refine ⟨_, h1, .inl ⟨rfl, xs, .of ha⟩, ?_⟩
      have c2 : tS X.K Z L ω ω (eS fe (fun d ρ' => if ds.length < sizeLine then .nx (ρ'.set i (some (.list (ds ++ [d])))) else .bad)) D σ H := ⟨S0, H0, S, ρ, P, G, c⟩
      refine ⟨S, ρ, ⟨S0, H0, P, G⟩, ?_⟩
      unfold eS at c
      cases ef : fe ρ with
      | ok d =>
        rw [ef] at c
        dsimp only at c
        split at c
        · rename_i hz
          intro y S1 H1 g ⟨Q, q1, q2, q3⟩
          have ha1 : H1 a = some (.lst xs) := g.hh _ _ ha
          refine ⟨a, xs, y, rfl, rfl, ha1, by rw [hA.len]; exact hz, ?_⟩
          have G1 := G.grow g
          have hPa : a ∈ P i := by rw [eP]; exact List.mem_cons_self
          have nd := G.nd i
          rw [eP] at nd
          obtain ⟨nd1, nd2⟩ := List.nodup_cons.mp nd
          have nq : ∀ b ∈ Q, b ≠ a := fun b hb z => by
            have := (q3 b hb).2
            rw [z, ha] at this
            cases this
          have np : ∀ j, ∀ b ∈ Q, b ∉ P j := fun j b hb hp => (G.pn j b hp).2.2 (q3 b hb).2
          refine c σ S1 _ _ (G1.mut (o := .lst (xs ++ [y])) (Q := a :: (P' ++ Q)) hk h1 hPa (fun b hb => ?_) ?_ ?_)
          · rcases List.mem_cons.mp hb with hb | hb
            · exact .inl hb
            · rcases List.mem_append.mp hb with hb | hb
              · exact .inr (.inl (by rw [eP]; exact List.mem_cons_of_mem _ hb))
              · exact .inr (.inr ⟨(q3 b hb).1, G.g.hh.free (q3 b hb).2, fun j => np j b hb⟩)
          · refine List.nodup_cons.mpr ⟨fun hm => ?_, List.nodup_append.mpr ⟨nd2, q2, fun b hb c hc z => ?_⟩⟩
            · rcases List.mem_append.mp hm with hm | hm
              · exact nd1 hm
              · exact nq a hm rfl
            · exact np i c hc (by rw [← z, eP]; exact List.mem_cons_of_mem _ hb)
          · refine .inr (.inl ⟨a, xs ++ [y], ds ++ [d], P' ++ Q, rfl, rfl, upd_same, rfl, ?_⟩)
            refine OwnAll.snoc (q1.mono (.refl _) fun b hb => upd_ne (nq b hb)) (hA.imp fun v' d' P2 s r => r.mono g.ss fun b hb => ?_)
            rw [upd_ne (fun z => nd1 (by rw [← z]; exact s b hb))]
            obtain ⟨_, _, b3⟩ := G.pn i b (by rw [eP]; exact List.mem_cons_of_mem _ (s b hb))
            cases q : H b with
            | none => exact absurd q b3
            | some u => exact g.hh _ _ q
        · exact c.elim
      | ex k' fs =>
        rw [ef] at c
        intro dd S1 H1 g x
        obtain ⟨S2, P2, G2, hs'⟩ := (G.grow g).weak (wk_zero (ω := ω))
        rw [zeros] at G2
        exact c dd σ S2 H1 P2 G2 (x.mono hs')
      | bad =>
        rw [ef] at c
        exact c.elim
    · exact c.elim
end

/-! ### o[i] = v -/
def dPut (kvs : List (D × D)) (k d : D) : List (D × D) := if kvs.any (fun p => PyData.eqv p.1 k) then kvs.map fun p => if PyData.eqv p.1 k then (p.1, d) else p else kvs ++ [(k, d)]
theorem key_eqv (a b : Key) : PyData.eqv (kD a) (kD b) = decide (a = b) := by
  cases a <;> cases b
  · rw [key_ll]
    simp only [kD, PyData.eqv]
  · rw [key_lr]
    simp only [kD, PyData.eqv]
  · rw [key_rl]
    simp only [kD, PyData.eqv]
  · rw [key_rr]
    simp only [kD, PyData.eqv]
    rename_i x y
    by_cases h : x = y
    · rw [decide_eq_true h, h]
      simp
    · rw [decide_eq_false h]
      simp [h]
section
variable {K : PySem.W.Frag} {S : Hp}
theorem RpKs.len : ∀ {kvs : List (Key × V)} {ds : List (D × D)}, RpKs K S kvs ds → kvs.length = ds.length
  | _, _, .nil => rfl
  | _, _, .cons _ b => congrArg Nat.succ b.len
theorem RpKs.val (k : Key) : ∀ {kvs : List (Key × V)} {ds : List (D × D)}, RpKs K S kvs ds → ∀ d, dLook ds (kD k) = some d → ∃ v, valV kvs k = some v ∧ Rp K S v d
  | _, _, .nil, d, h => by cases h
  | _, _, .cons (k := j) (v := v) (d := d0) (vs := vs) (ds := ds) a b, d, h => by
    unfold dLook at h
    rw [List.find?_cons] at h
    dsimp only at h
    rw [key_eqv] at h
    by_cases e : j = k
    · rw [decide_eq_true e] at h
      cases h
      exact ⟨v, valV_pos e, a⟩
    · rw [decide_eq_false e] at h
      obtain ⟨v', h1, h2⟩ := b.val k d h
      exact ⟨v', by rw [valV_neg e]; exact h1, h2⟩
theorem RpKs.valN (k : Key) : ∀ {kvs : List (Key × V)} {ds : List (D × D)}, RpKs K S kvs ds → (valV kvs k).isSome = (dLook ds (kD k)).isSome
  | _, _, .nil => rfl
  | _, _, .cons (k := j) (v := v) (d := d0) (vs := vs) (ds := ds) a b => by
    unfold dLook
    rw [List.find?_cons]
    dsimp only
    rw [key_eqv]
    by_cases e : j = k
    · rw [decide_eq_true e, valV_pos e]
      rfl
    · rw [decide_eq_false e, valV_neg e]
      exact b.valN k
theorem RpKs.any (k : Key) : ∀ {kvs : List (Key × V)} {ds : List (D × D)}, RpKs K S kvs ds → (kvs.any fun kv => decide (kv.1 = k)) = ds.any fun p => PyData.eqv p.1 (kD k)
  | _, _, .nil => rfl
  | _, _, .cons a b => by
    rw [List.any_cons, List.any_cons, b.any k]
    dsimp only
    rw [key_eqv]
theorem RpKs.map (k : Key) {v : V} {d : D} (r : Rp K S v d) : ∀ {kvs : List (Key × V)} {ds : List (D × D)}, RpKs K S kvs ds → RpKs K S (kvs.map fun kv => if kv.1 = k then (kv.1, v) else kv) (ds.map fun p => if PyData.eqv p.1 (kD k) then (p.1, d) else p)
  | _, _, .nil => .nil
  | _, _, .cons (k := j) a b => by
    rw [List.map_cons, List.map_cons]
    dsimp only
    rw [key_eqv]
    by_cases e : j = k
    · rw [if_pos e, if_pos (decide_eq_true e)]
      exact .cons r (b.map k r)
    · rw [if_neg e, if_neg (by rw [decide_eq_false e]; exact Bool.false_ne_true)]
      exact .cons a (b.map k r)
theorem RpKs.snoc {k : Key} {v : V} {d : D} (r : Rp K S v d) : ∀ {kvs : List (Key × V)} {ds : List (D × D)}, RpKs K S kvs ds → RpKs K S (kvs ++ [(k, v)]) (ds ++ [(kD k, d)])
  | _, _, .nil => .cons r .nil
  | _, _, .cons a b => .cons a (b.snoc r)
theorem RpKs.put {k : Key} {v : V} {d : D} {kvs : List (Key × V)} {ds : List (D × D)} (h : RpKs K S kvs ds) (r : Rp K S v d) : RpKs K S (putK kvs k v) (dPut ds (kD k) d) := by
  unfold putK dPut
  rw [h.any k]
  split
  · exact h.map k r
  · exact h.snoc r
end
theorem isKey_of {K : PySem.W.Frag} {S : Hp} {v : V} {d : D} (h : isKey d = true) (r : Rp K S v d) : ∃ k : Key, d = kD k ∧ v = kV k := by
  cases d with
  | int i =>
    cases r
    exact ⟨.inl i, rfl, rfl⟩
  | str x =>
    cases r
    exact ⟨.inr x, rfl, rfl⟩
  | _ => cases h
/-- the store, by the data -/
def gSet : D → D → D → R D
  | .list ds, .int k, d => match ixN ds.length k with
    | some j => .ok (.list (ds.set j d))
    | none => .bad
  | .dict kvs, k, d => rIf (isKey k = true ∧ kvs.all (fun p => isKey p.1) = true ∧ kvs.length < sizeLine) (.dict (dPut kvs k d))
  | _, _, _ => .bad
def rSetA : V → V → V → Hp → (Hp → Prop) → Prop := fun o i v H Q => rSetL o i v H Q ∨ ∃ a H', o = .ref a ∧ DPut H a i v H' ∧ Q H'
theorem set_any {X : Cx} (hu : X.A.units + 1 < cLine) : PSet X rSetA := by
  intro pins s σ H o i v ov iv u Q I ro ri rv h
  rcases h with h | ⟨a, H', rfl, g, q⟩
  · exact set_list pins s σ H o i v ov iv u Q I ro ri rv h
  · obtain rfl : ov = Value.ref a := ro
    exact d_setItem hu I g ri rv fun s' I' => ⟨H', I', q⟩
def sSetI (i : Nat) (fi fe : SE) : SS := eS fe fun d ρ => match ρ[i]? with
  | some (some o) => eS fi (fun k ρ => match gSet o k d with
    | .ok o' => .nx (ρ.set i (some o'))
    | _ => .bad) ρ
  | _ => .bad
section
variable {X : Cx} {Z : Sx} {L : Lp} {ω ωn : List Nat} {e ie : Expr} {fe fi : SE} {pos p1 p2 : Pos}
/-- what a store into slot i needs and gives -/
theorem seti_end {K : PySem.W.Frag} {S0 H0 S H : Hp} {J : Option Exi} {σ : St} {ρ : Rho} {P : Nat → List Addr} {i : Nat} {o k d o' : D} {vk v : V} {Q : Hp → Prop} (G : Good K S0 H0 J ω σ ρ S H P) (hk : ω.getD i 0 = 1) (e1 : ρ[i]? = some (some o)) (rk : Rp K S vk k) (rv : Rp K S v d) (e2 : gSet o k d = .ok o')
    (q : ∀ H' P', Good K S0 H0 J ω σ (ρ.set i (some o')) S H' P' → Q H') : ∃ vo, σ[i]? = some (some vo) ∧ rSetA vo vk v H Q := by
  obtain ⟨vo, h1, h2⟩ := G.sl i _ e1
  rw [hk] at h2
  unfold gSet at e2
  split at e2
  · rename_i ds kk dd
    split at e2
    · rename_i j ej
      cases e2
      obtain ⟨a, xs, P', rfl, ha, eP, hA⟩ := h2.lst
      obtain ⟨hB, rfl⟩ := hA.rp
      cases rk
      refine ⟨_, h1, .inl ⟨a, xs, _, j, rfl, rfl, ha, by rw [hB.len]; exact ej, ?_⟩⟩
      refine q _ _ (G.mut (o := .lst (xs.set j v)) (Q := [a]) hk h1 (by rw [eP]; exact List.mem_cons_self) (fun b hb => .inl (List.mem_singleton.mp hb)) (List.nodup_cons.mpr ⟨by simp, .nil⟩) ?_)
      exact .inr (.inl ⟨a, _, _, [], rfl, rfl, upd_same, rfl, .of (hB.set j rv)⟩)
    · cases e2
  · rename_i kvs kk dd
    obtain ⟨⟨c1, c2, c3⟩, rfl⟩ := rIf_ok e2
    obtain ⟨ky, rfl, rfl⟩ := isKey_of c1 rk
    rcases h2 with ⟨_, _, s⟩ | ⟨a, xs, ds', P', ev, ed, ha, eP, h⟩ | ⟨a, kvs', ds', rfl, ed, ha, eP, r⟩ | ⟨a, kvs', ds', rfl, ed, ha, eP, r⟩
    · exact s.elim
    · cases ed
    · cases ed
      refine ⟨_, h1, .inr ⟨a, _, rfl, .k ha (by rw [r.len]; exact c3), ?_⟩⟩
      refine q _ _ (G.mut (o := .dK (putK kvs' ky v)) (Q := [a]) hk h1 (by rw [eP]; exact List.mem_cons_self) (fun b hb => .inl (List.mem_singleton.mp hb)) (List.nodup_cons.mpr ⟨by simp, .nil⟩) ?_)
      exact .inr (.inr (.inl ⟨a, _, _, rfl, rfl, upd_same, rfl, r.put rv⟩))
    · cases ed
      rw [List.all_cons] at c2
      cases c2
  · cases e2
end
end Pu
end

section
set_option Elab.async false
set_option linter.all false
set_option maxRecDepth 100000
set_option maxHeartbeats 2000000
/-! Pu9: stores by place, targets, loops. -/
namespace Pu
open PySem PySem.Spec PyProof.Rows L2

section
variable {X : Cx} {Z : Sx} {L : Lp} {ω ωn ωh : List Nat} {e ie tg iter c : Expr} {fe fi : SE} {pos p1 p2 : Pos} {body : List Stmt}
theorem s_seti (i : Nat) {x : Str} (hu : X.A.units + 1 < cLine) (hk : ω.getD i 0 = 1 := by rfl) (he : RP X Z ω e fe) (hi : RP X Z ω ie fi) (hN : X.N[i]? = some x := by rfl) (hv : Vis X.env.scope x := by first | exact Or.inl rfl | exact Or.inr (Or.inl rfl) | exact Or.inr (Or.inr rfl)) (hd : (x == ("__debug__" : Str)) = false := by decide)
    (hcd : (x == ("__classdict__" : Str)) = false := by decide)
    (ha : ∀ v, assign (.Subscript (.Name x p1) ie p2) X.env v = (do
      let ov ← holding [v] (eval (.Name x p1) X.env)
      let iv ← holding [v, ov] (eval ie X.env)
      standAt p2
      holding [v, ov, iv] (setItem ov iv v)
      release [v, ov, iv] []) := by intro _; rfl)
    (hs : swapsWithSole [.Subscript (.Name x p1) ie p2] e pos.line X.env = pure false := by rfl) (hw : swappedStores [.Subscript (.Name x p1) ie p2] e X.env = pure none := by rfl)
    (h1 : (assignEach [.Subscript (.Name x p1) ie p2] X.env).map (·.2) = [assign (.Subscript (.Name x p1) ie p2) X.env] := by rfl) : RS X Z L ω ω (.Assign [.Subscript (.Name x p1) ie p2] e pos) (sSetI i fi fe) :=
  PS.of (ps_asg he (pg_sub (pe_var (i := i) hN hv hd hcd) hi (set_any hu) ha) hs hw h1) fun D σ H h => tS.expr h fun v S0 H0 S H S1 H1 ρ P d G g r G1 c => by
    split at c
    · rename_i o e1
      obtain ⟨vo, h2, _⟩ := G1.sl i _ e1
      refine ⟨vo, h2, ?_⟩
      have c2 : tS X.K Z L ω ω (eS fi (fun k ρ' => match gSet o k d with
        | .ok o' => .nx (ρ'.set i (some o'))
        | _ => .bad)) D σ H1 := ⟨S0, H0, S1, ρ, P, G1, c⟩
      refine ⟨S1, ρ, ⟨S0, H0, P, G1⟩, ?_⟩
      unfold eS at c
      cases ef : fi ρ with
      | ok k =>
        rw [ef] at c
        dsimp only at c
        intro vk S2 H2 g2 rk
        cases e2 : gSet o k d with
        | ok o' =>
          rw [e2] at c
          obtain ⟨vo', h3, q⟩ := seti_end (Q := fun H4 => D.nx σ H4) (G1.grow g2) hk e1 rk ((show Rp X.K S1 v d from r).mono g2.ss) e2 fun H' P' G' => c σ S2 H' P' G'
          rw [h2] at h3
          cases h3
          exact q
        | ex k' fs =>
          rw [e2] at c
          exact c.elim
        | bad =>
          rw [e2] at c
          exact c.elim
      | ex k' fs =>
        rw [ef] at c
        intro dd S2 H2 g2 x
        obtain ⟨S3, P3, G3, hs'⟩ := (G1.grow g2).weak (wk_zero (ω := ω))
        rw [zeros] at G3
        exact c dd σ S3 H2 P3 G3 (x.mono hs')
      | bad =>
        rw [ef] at c
        exact c.elim
    · exact c.elim
end

/-! ### targets -/
/-- a target stores a shared thing -/
structure TgD (K : PySem.W.Frag) (J : Option Exi) (ω : List Nat) (t : TG) (f : D → Rho → Option Rho) : Prop where
  ok : ∀ {S0 H0 S H σ ρ P x d ρ' Q}, Good K S0 H0 J ω σ ρ S H P → Rp K S x d → f d ρ = some ρ' → (∀ σ' P', Good K S0 H0 J ω σ' ρ' S H P' → Q σ' H) → t x σ H Q
def tgN (i : Nat) : D → Rho → Option Rho := fun d ρ => some (ρ.set i (some d))
def setAll : List Nat → List D → Rho → Option Rho
  | [], [], ρ => some ρ
  | i :: is, d :: ds, ρ => setAll is ds (ρ.set i (some d))
  | _, _, _ => none
def tgT (is : List Nat) : D → Rho → Option Rho := fun d ρ => match d with
  | .tuple ds => setAll is ds ρ
  | _ => none
theorem Good.set0 {K : PySem.W.Frag} {S0 H0 S H : Hp} {J : Option Exi} {ω : List Nat} {σ : St} {ρ : Rho} {P : Nat → List Addr} (G : Good K S0 H0 J ω σ ρ S H P) {i : Nat} {v : V} {d : D} (hi : i < ω.length) (hw : ω.getD i 0 = 0) (r : Rp K S v d) (hJ : ∀ q, J = some q → q.slot ≠ i) :
    ∃ P', Good K S0 H0 J ω (σ.set i (some v)) (ρ.set i (some d)) S H P' := by
  have G' := G.set (k := 0) (Q := []) hi ⟨r, rfl⟩ .nil (fun a ha => nomatch ha) hJ
  have e : ω.set i 0 = ω := by
    rw [List.getD_eq_getElem?_getD, List.getElem?_eq_getElem hi] at hw
    have hw' : ω[i] = 0 := hw
    rw [← hw', List.set_getElem_self]
  rw [e] at G'
  exact ⟨_, G'⟩
theorem tg_name {K : PySem.W.Frag} {J : Option Exi} {ω : List Nat} (i : Nat) (hi : i < ω.length := by decide) (hw : ω.getD i 0 = 0 := by rfl) (hJ : ∀ q, J = some q → q.slot ≠ i := by intro _ z; cases z) : TgD K J ω (gName i) (tgN i) where
  ok := by
    intro S0 H0 S H σ ρ P x d ρ' Q G r e q
    cases e
    obtain ⟨P', G'⟩ := G.set0 hi hw r hJ
    exact q _ P' G'
def gNames : List Nat → TGs
  | [] => gNil
  | i :: is => gCons (gName i) (gNames is)
theorem tg_all {K : PySem.W.Frag} {J : Option Exi} {ω : List Nat} : ∀ (is : List Nat), (∀ i ∈ is, i < ω.length ∧ ω.getD i 0 = 0 ∧ ∀ q, J = some q → q.slot ≠ i) → ∀ {S0 H0 S H σ ρ P xs ds ρ' Q}, Good K S0 H0 J ω σ ρ S H P → RpAll K S xs ds → setAll is ds ρ = some ρ' → (∀ σ' P', Good K S0 H0 J ω σ' ρ' S H P' → Q σ' H) → gNames is xs σ H Q
  | [], h, S0, H0, S, H, σ, ρ, P, xs, ds, ρ', Q, G, r, e, q => by
    cases r with
    | nil =>
      cases e
      exact ⟨rfl, q _ P G⟩
    | cons _ _ => cases e
  | i :: is, h, S0, H0, S, H, σ, ρ, P, xs, ds, ρ', Q, G, r, e, q => by
    cases r with
    | nil => cases e
    | cons a b =>
      obtain ⟨h1, h2, h3⟩ := h i List.mem_cons_self
      obtain ⟨P', G'⟩ := G.set0 h1 h2 a h3
      exact ⟨_, _, rfl, tg_all is (fun j hj => h j (List.mem_cons_of_mem _ hj)) G' b e q⟩
theorem setAll_len : ∀ {is : List Nat} {ds : List D} {ρ ρ' : Rho}, setAll is ds ρ = some ρ' → ds.length = is.length
  | [], [], _, _, _ => rfl
  | [], _ :: _, _, _, h => by cases h
  | _ :: _, [], _, _, h => by cases h
  | _ :: _, _ :: _, _, _, h => congrArg Nat.succ (setAll_len (by exact h))
theorem tg_tup {K : PySem.W.Frag} {J : Option Exi} {ω : List Nat} (is : List Nat) (h : ∀ i ∈ is, i < ω.length ∧ ω.getD i 0 = 0) (hJ : J = none) : TgD K J ω (gTup K is.length (gNames is)) (tgT is) where
  ok := by
    intro S0 H0 S H σ ρ P x d ρ' Q G r e q
    cases d with
    | tuple ds =>
      cases r with
      | tup e1 r1 =>
        refine ⟨_, _, rfl, sqT_mono G.g.sh e1, by rw [r1.len]; exact setAll_len e, tg_all is (fun i hi => ⟨(h i hi).1, (h i hi).2, fun q z => by rw [hJ] at z; cases z⟩) G r1 e q⟩
    | _ => cases e

/-! ### for -/
def forL (tg : D → Rho → Option Rho) (body : SS) : List D → SS
  | [], ρ => .nx ρ
  | d :: ds, ρ => match tg d ρ with
    | some ρ1 => (match body ρ1 with
      | .nx ρ' => forL tg body ds ρ'
      | .ct ρ' => forL tg body ds ρ'
      | .bk ρ' => .nx ρ'
      | .rt v => .rt v
      | .ex c fs ρ' => .ex c fs ρ'
      | .bad => .bad)
    | none => .bad
def sFor (fi : SI) (tg : D → Rho → Option Rho) (body : SS) : SS := eS fi fun ds => forL tg body ds
section
variable {K : PySem.W.Frag} {S0 H0 S H S1 H1 : Hp} {J : Option Exi} {ω ωn : List Nat} {σ : St} {ρ : Rho} {P : Nat → List Addr} {Z : Sx} {L : Lp}
/-- the ground is lifted to what is shared now -/
theorem Good.base (G : Good K S0 H0 J ω σ ρ S H P) : Good K S H0 J ω σ ρ S H P := ⟨⟨.refl _, G.g.hh, G.g.sh, fun _ h _ => h⟩, G.ln, G.lw, G.sl, G.pn, G.nd, G.dj, G.xi⟩
theorem Grow.base (g : Grow S0 H0 S H) (g' : Grow S H0 S1 H1) : Grow S0 H0 S1 H1 := ⟨g.ss.trans g'.ss, g'.hh, g'.sh, fun a h n => g'.nw a (g.nw a h n) n⟩
theorem Good.unbase (g : Grow S0 H0 S1 H1) (G : Good K S1 H0 J ω σ ρ S H P) : Good K S0 H0 J ω σ ρ S H P := ⟨g.base G.g, G.ln, G.lw, G.sl, G.pn, G.nd, G.dj, G.xi⟩
theorem ClS.base {n : Nat} {D : Ends} {r : F} (g : Grow S0 H0 S1 H1) (c : ClS K Z L S0 H0 n ωn D r) : ClS K Z L S1 H0 n ωn D r := by
  cases r with
  | nx ρ => exact fun σ S H P G => c σ S H P (G.unbase g)
  | bk ρ => exact fun σ S H P G => c σ S H P (G.unbase g)
  | ct ρ => exact fun σ S H P G => c σ S H P (G.unbase g)
  | rt d => exact fun v S H g' r => c v S H (g.base g') r
  | ex k fs ρ => exact fun dd σ S H P G => c dd σ S H P (G.unbase g)
  | bad => exact c
end
section
variable {X : Cx} {Z : Sx} {L : Lp} {ω ωn ωh : List Nat} {tg iter : Expr} {fi : SI} {pos : Pos} {body : List Stmt} {g : TG} {ft : D → Rho → Option Rho} {fb : SS}
/-- ωh: what is owned at each turn; behind the loop ωn -/
theorem s_for (ωh : List Nat) (hp : PassesOwn (model X.prog X.w) X.A X.env X.xe) (hc : X.calm = true) (hi : RI X Z ω tg iter fi) (hg : PG X tg g) (ht : TgD X.K Z.J ωh g ft) (hb : RSs X Z { L with wb := ωn, wc := ωh } ωh ωh body fb) (w1 : wkB ω ωh = true := by decide) (w2 : wkB ωh ωn = true := by decide)
    (hs : ∀ x, foldedSetIterable iter X.env x = pure x := by intro _; rfl) : RS X Z L ω ωn (.For tg iter body [] pos) (sFor fi ft fb) :=
  PS.of (ps_for hp hc hi hg hb hs) fun D σ H h => tS.expr h fun J S0 H0 S H S1 H1 ρ P ds G g1 rJ G1 c => by
    obtain ⟨Gd, Y, w, hG, hY⟩ := rJ
    have hl : ωh.length = ω.length := (wk_of w1).1
    have hl2 : ωn.length = ω.length := (wk_of w2).1.trans hl
    obtain ⟨S2, P2, G2, hs2⟩ := G1.weak (wk_of w1)
    refine for_it w (fun j σ' H' => ∃ S' ρ' P', Good X.K S0 H0 Z.J ωh σ' ρ' S' H' P' ∧ Same S2 S' ∧ ClS X.K Z L S0 H0 ω.length ωn D (forL ft fb (ds.drop j) ρ')) ⟨S2, ρ, P2, G2, .refl _, c⟩ ?_ ?_ ?_
    · rintro j σ' H' hj ⟨S', ρ', P', G', hs', _⟩
      exact hG S' H' ⟨hs2.trans hs', G'.g.sh⟩
    · rintro j v σ' H' H3 hj ⟨S', ρ', P', G', hs', c'⟩ hy
      obtain ⟨S3, d, g3, hd, rd⟩ := hY S' H' j v H3 hj ⟨hs2.trans hs', G'.g.sh⟩ hy
      have ed : ds.drop j = d :: ds.drop (j + 1) := by
        rw [List.drop_eq_getElem_cons hj]
        have : ds[j] = d := by
          rw [List.getElem?_eq_getElem hj] at hd
          exact Option.some.inj hd
        rw [this]
      rw [ed] at c'
      unfold forL at c'
      cases et : ft d ρ' with
      | none =>
        rw [et] at c'
        exact c'.elim
      | some ρ1 =>
        rw [et] at c'
        refine ht.ok (G'.grow g3) rd et fun σ4 P4 G4 => ⟨S3, H0, S3, ρ1, P4, G4.base, ?_⟩
        have hs3 := hs'.trans g3.ss
        have gb := G4.g
        dsimp only at c'
        have again : ∀ {ρ5 : Rho}, ClS X.K Z L S0 H0 ω.length ωn D (forL ft fb (ds.drop (j + 1)) ρ5) → ∀ σ5 S5 H5 P5, Good X.K S3 H0 Z.J ωh σ5 ρ5 S5 H5 P5 → ∃ S' ρ' P', Good X.K S0 H0 Z.J ωh σ5 ρ' S' H5 P' ∧ Same S2 S' ∧ ClS X.K Z L S0 H0 ω.length ωn D (forL ft fb (ds.drop (j + 1)) ρ') :=
          fun c5 σ5 S5 H5 P5 G5 => ⟨S5, _, P5, G5.unbase gb, hs3.trans G5.g.ss, c5⟩
        cases eb : fb ρ1 with
        | nx ρ5 =>
          rw [eb] at c'
          exact again c'
        | ct ρ5 =>
          rw [eb] at c'
          exact again c'
        | bk ρ5 =>
          rw [eb] at c'
          exact fun σ5 S5 H5 P5 G5 => c' σ5 S5 H5 P5 (G5.unbase gb)
        | rt v =>
          rw [eb] at c'
          exact fun v S5 H5 g5 r5 => c' v S5 H5 (gb.base g5) r5
        | ex k fs ρ5 =>
          rw [eb] at c'
          rw [hl]
          exact fun dd σ5 S5 H5 P5 G5 => c' dd σ5 S5 H5 P5 (G5.unbase gb)
        | bad =>
          rw [eb] at c'
          exact c'.elim
    · rintro σ' H' ⟨S', ρ', P', G', hs', c'⟩
      rw [List.drop_length] at c'
      obtain ⟨S5, P5, G5, _⟩ := G'.weak (wk_of w2)
      exact c' σ' S5 H' P5 G5
end
end Pu
end

section
set_option Elab.async false
set_option linter.all false
set_option maxRecDepth 100000
set_option maxHeartbeats 2000000
/-! Pu10: enumerate of a list or a tuple. -/
namespace PySem
open Sem (wp)
open AutoSeq1 (wpAny_loadPart')
theorem puT_new (l : Addr) (items : Array Value) (n : Nat) (dct : Option Addr) (sl : Array (Option Value)) :
    Meets (Builtin.«enumerate.__new__» ⟨[.type "enumerate", .ref l], []⟩) (fun _ R s => s.heap.get? l = some { cls := .type "tuple", dict := dct, data := .seq items n, slots := sl } ∧
      R (.ok (.ret (.ref (s.heap.push { cls := .type "tuple_iterator", data := .fields #[.ref l, .int 0 0] }).objs.size)))
        { s with heap := (s.heap.push { cls := .type "tuple_iterator", data := .fields #[.ref l, .int 0 0] }).push { cls := .type "enumerate", data := .fields #[.none, .bool false, .ref s.heap.objs.size, rawInt 0, .none, .none] } }) :=
  .of_wp fun prog w A R s h => by
    obtain ⟨hp, g, d, tk, os⟩ := s; obtain ⟨hl, h⟩ := h
    have hsub := sub_enumerate
    have hL : Heap.IsTuple (Shared.heap ⟨hp, g, d, tk, os⟩) l items := ⟨_, hl, rfl, n, rfl⟩
    wp_walk using wpAny_loadPart' hl
    refine wpAny_stack_any fun st => wpAny_pure ?_
    split
    · rename_i c _ _ _ _ _
      cases (c == Value.type "enumerate")
      · wp_walk using wpAny_loadPart' hl, wpAny_pyIter_tuple hL
        exact ⟨_, rfl, h⟩
      · wp_walk using wpAny_loadPart' hl, wpAny_pyIter_tuple hL
        exact ⟨_, rfl, h⟩
    · wp_walk using wpAny_loadPart' hl, wpAny_pyIter_tuple hL
      exact ⟨_, rfl, h⟩
theorem puT_call {prog : Program} {w : World} {A : Around} {E : Value → Shared → Prop} {s : Shared} {l : Addr} {items : Array Value} {Q : Value → Shared → Prop} (hL : s.heap.IsTuple l items)
    (h : ∀ h', IsEnum h' (s.heap.objs.size + 1) s.heap.objs.size 0 .none → h'.IsTupleIter s.heap.objs.size l 0 → h'.objs.size = s.heap.objs.size + 2 →
      (∀ b o, s.heap.get? b = some o → h'.get? b = some o) → Q (.ref (s.heap.objs.size + 1)) { s with heap := h' }) :
    wpAny (model prog w) A (call (.type "enumerate") [.ref l]) Q E s := by
  obtain ⟨⟨c, dct, dt, sl⟩, hl, hc, n, hd⟩ := hL
  replace hc : c = .type "tuple" := hc
  replace hd : dt = .seq items n := hd
  subst hc hd
  refine callType_new F.called_enumerate (by decide) (F.typeCall_enumerate_1 _) (F.newCall_enumerate_1 _) (fun obj => F.args_object_init_2 obj _) F.entry_enumerate_new
    (puT_new l items n dct sl) ⟨hl, ?_⟩
  have hz : (s.heap.push { cls := .type "tuple_iterator", data := .fields #[.ref l, .int 0 0] }).objs.size = s.heap.objs.size + 1 := Heap.size_push ..
  show _ ∧ _
  rw [hz]
  have he : IsEnum ((s.heap.push { cls := .type "tuple_iterator", data := .fields #[.ref l, .int 0 0] }).push
      { cls := .type "enumerate", data := .fields #[.none, .bool false, .ref s.heap.objs.size, rawInt 0, .none, .none] }) (s.heap.objs.size + 1) s.heap.objs.size 0 .none := by
    have := Heap.get?_push_size (s.heap.push { cls := .type "tuple_iterator", data := .fields #[.ref l, .int 0 0] })
      (o := { cls := .type "enumerate", data := .fields #[.none, .bool false, .ref s.heap.objs.size, rawInt 0, .none, .none] }) rfl
    rw [hz] at this; exact this
  refine ⟨⟨_, he, rfl⟩, h _ he ⟨_, Heap.get?_push_of_some _ (Heap.get?_push_size _ rfl), rfl, rfl⟩ (by rw [Heap.size_push, hz]) fun b o x => Heap.get?_push_of_some _ (Heap.get?_push_of_some _ x)⟩
end PySem
namespace Pu
open PySem PySem.Spec PyProof.Rows L2

/-- the tuple at a, each item in a new pair -/
def Itet (K : PySem.W.Frag) (a : Addr) : It :=
  ⟨fun i H => ∃ (xs : List V) (x : V), SqT K H a xs ∧ xs[i]? = some x, fun i H v H' => ∃ T x, v = .ref T ∧ H T = none ∧ H' = upd H T (.tup [.int (i : Nat), x]) ∧ ∀ xs, SqT K H a xs → xs[i]? = some x, fun i H => ∃ xs : List V, SqT K H a xs ∧ xs.length ≤ i⟩
theorem turn_enumT {P : Program} {w : World} {K : PySem.W.Frag} {elts : List Expr} {kk : Nat} {tpos : Pos} (a e it : Addr) :
    Turn P w K (.Tuple elts kk tpos) (Itet K a) [e, it] e (fun i h => (∃ old, IsEnum h e it ((i : Nat) : Int) old) ∧ h.IsTupleIter it a i ∧ e ≠ it) where
  mem := by simp
  obj := fun i h st b hb => by
    obtain ⟨⟨old, he⟩, ⟨o, ho, hc, hd⟩, _⟩ := st
    have e' : b = e ∨ b = it := by simpa using hb
    rcases e' with z | z
    · rw [z]; exact ⟨_, he, fun v q => nomatch q⟩
    · rw [z]; exact ⟨o, ho, fun v q => by rw [hd] at q; cases q⟩
  keep := fun i h h' st k => let ⟨⟨old, he⟩, hi, hne⟩ := st; ⟨⟨old, k e (by simp) _ he⟩, hi.at fun o q => k it (by simp) o q, hne⟩
  item := by
    intro X hP hw hK hc i pins s σ H E I hf st hg
    subst hP hw hK
    obtain ⟨⟨old, he⟩, hit, hne⟩ := st
    obtain ⟨xs, x, hq, hx⟩ := hg
    obtain ⟨its, rv, p, hz⟩ := I.tuple hq
    obtain ⟨u, hu, ru⟩ := rv.get hx
    have p' : s.heap.IsTuple a its.toArray := p
    have hel : e < s.heap.objs.size := Heap.lt_size he
    have hil : it < s.heap.objs.size := by obtain ⟨_, q, _⟩ := hit; exact Heap.lt_size q
    have hai : a ≠ it := fun z => by
      obtain ⟨o1, q1, c1, _⟩ := hit
      obtain ⟨o2, q2, c2, _⟩ := p'
      rw [z, q1] at q2
      cases q2
      rw [c1] at c2
      exact absurd (Value.type.inj c2) (by decide)
    have hae : e ≠ a := fun z => by
      obtain ⟨o2, q2, c2, _⟩ := p'
      rw [← z, show s.heap.get? e = _ from he] at q2
      cases q2
      exact absurd (Value.type.inj c2) (by decide)
    refine wpAny_pyNext_enum_itemD (PySem.Draws.tuple (A := X.A.in1) (I.ok.hd hc) it a hai its.toArray) he ⟨hit, p'⟩ (by simp; exact (List.getElem?_eq_some_iff.mp hu).1) hne (by simp [hne, hae]) fun y h' tk hy ho ⟨hit', _⟩ hT hsz hk => ?_
    have ey : y = u := by
      rw [show its.toArray[i]? = some u by simpa using hu] at hy
      exact (Option.some.inj hy).symm
    subst ey
    refine ⟨_, rfl, wpAny_letOwnedTupleGo_enum (s := { s with heap := h', toks := tk + 1 }) ho fun h'' he' sb => ?_⟩
    have hT2 : h''.get? s.heap.objs.size = some { cls := .type "tuple", data := .seq #[.int i tk, y] } := (sb.2 _ (Nat.ne_of_gt hel)).trans hT
    have new : ObjOk X.prog X.w (upd H s.heap.objs.size (.tup [.int (i : Nat), x])) h'' s.heap.objs.size (.tup [.int (i : Nat), x]) :=
      ⟨by show 2 ≤ sizeLine; decide, [.int i tk, y], .cons ⟨_, rfl⟩ (.cons ru .nil), ⟨_, hT2, rfl, _, rfl⟩⟩
    have I1 : Inv X pins σ (upd H s.heap.objs.size (.tup [.int (i : Nat), x])) { s with heap := h'', toks := tk + 1 } :=
      I.turnedNew (ch := [e, it]) (fun b ob hb q => (sb.2 b (fun z => hb (by simp [z]))).trans (hk b ob (fun z => hb (by simp [z])) (fun z => hb (by simp [z])) q)) hf (Nat.le_refl _) new
    refine ⟨.ref s.heap.objs.size, _, I1, rfl, ⟨_, x, rfl, I.hok.fresh (Nat.le_refl _), rfl, fun ys hy => by rw [I.tuple_inj hy hq]; exact hx⟩, ⟨⟨y, ?_⟩, hit'.at fun o q => (sb.2 it (Ne.symm hne)).trans q, hne⟩, fun b hb => ?_⟩
    · have e1 : ((i + 1 : Nat) : Int) = (i : Int) + 1 := by omega
      rw [e1]; exact he'
    · have hb' : b < s.heap.objs.size := by
        have e' : b = e ∨ b = it := by simpa using hb
        rcases e' with z | z
        · rw [z]; exact hel
        · rw [z]; exact hil
      rw [upd_ne (Nat.ne_of_lt hb')]
      exact (hf b hb).1
  done := by
    intro X hP hw hK hc i pins s σ H E I hf st hg
    subst hP hw hK
    obtain ⟨⟨old, he⟩, hit, hne⟩ := st
    obtain ⟨xs, hq, hx⟩ := hg
    obtain ⟨its, rv, p, hz⟩ := I.tuple hq
    obtain ⟨f0, f1, f2, f3, f4, f5⟩ := hf it (by simp)
    have hl := rv.length
    have p' : s.heap.IsTuple a its.toArray := p
    have hTe : s.TypeIs (.ref e) "enumerate" := ⟨_, he, rfl⟩
    unfold pyNext
    refine wpAny_bind (wpAny_attempt (wpAny_callSpecial?_slot (name := Str.ofString "__next__") hTe F.slot_enumerate_next
      (wpAny_call_entry F.slot_enumerate_next hTe F.entry_enumerate_next ?_ (F.args_enumerate_next_1 _))))
    show wpAny _ _ (field (.ref e) 2 >>= _) _ _ _
    refine wpAny_bind (wpAny_field he rfl (x := .ref it) rfl ?_)
    refine wpAny_bind (PySem.wpAny_nextOf_tuple_end (I.ok.hd hc) hit p' (by simp; omega) fun h' x he' hx' => ?_)
    obtain ⟨o, ho, hc'⟩ := hx'
    refine wpAny_bind (wpAny_isInstance (T := "StopIteration") (b := true) ⟨o, ho, hc'⟩ isSubtype_stop ?_)
    exact wpAny_pure ⟨rfl, I.turned (t' := s.toks) (fun b o hb q => he' b o hb q) f0 f1 f3 f4 f5⟩
  self := fun A i s Q E st h => let ⟨⟨_, he⟩, _⟩ := st; wpAny_pyIter_enum he h
theorem walk_enumT {K : PySem.W.Frag} {a : Addr} {xs : List V} : Walk (Itet K a) xs.length (fun H => SqT K H a xs) (YPair (fun i => some (.int (i : Nat))) (fun i => xs[i]?)) := by
  refine ⟨fun i _ hi q => ⟨xs, xs[i], q, by simp [hi]⟩, fun _ q => ⟨xs, q, Nat.le_refl _⟩, fun i H v H' _ q y => ?_⟩
  obtain ⟨T, x, h1, h2, h3, h4⟩ := y
  exact ⟨T, .int (i : Nat), x, h1, h2, h3, rfl, h4 xs q⟩
section
variable {X : Cx} {Z : Sx} {ω : List Nat} {e : Expr} {fa : SA} {p pos tpos : Pos} {elts : List Expr} {kk : Nat}
theorem pi_enumA {ta : TA} (hg : Gl X "enumerate") (hm : X.mg "enumerate" = none) (ha : PA X [e] ta) (hs : starEach [e] X.env = [(false, eval e X.env)]) :
    PI X (.Tuple elts kk tpos) (.Call (.Name "enumerate" p) [e] [] pos) (fun σ H R => ta σ H fun vs H1 => ∃ a, vs = [.ref a] ∧ (((∃ xs, SqL X.K H1 a xs) ∧ R (Ite X.K a) H1) ∨ ((∃ xs, SqT X.K H1 a xs) ∧ R (Itet X.K a) H1))) := by
  refine ⟨fun pins s σ H R I h => ?_⟩
  refine Call_ (ld_blt I hg hm boot_enumerate (PyProof.Rows.callWith_type1 (thn (ha.run pos pins s σ H _ I h) fun us s1 ⟨vs, H1, I1, r1, q1⟩ => ?_) hs rfl))
  obtain ⟨a, ex, q⟩ := q1
  subst ex
  cases r1 with
  | cons r rr =>
    cases rr
    cases r
    have go : ∀ {J : It} {tn : Nat → Heap → Prop} {h' : Heap}, Turn X.prog X.w X.K (.Tuple elts kk tpos) J [s1.heap.objs.size + 1, s1.heap.objs.size] (s1.heap.objs.size + 1) tn → tn 0 h' → (∀ b o, s1.heap.get? b = some o → h'.get? b = some o) → R J H1 →
        PIE X pins σ (.Tuple elts kk tpos) R (.ref (s1.heap.objs.size + 1)) { s1 with heap := h' } := fun {J tn h'} t t0 hk q => by
      refine ⟨s1.heap.objs.size + 1, [s1.heap.objs.size + 1, s1.heap.objs.size], _, _, H1, rfl, I1.kept (t' := s1.toks) hk, t, t0, fun b hb => ?_, q⟩
      have e' : b = s1.heap.objs.size + 1 ∨ b = s1.heap.objs.size := by simpa using hb
      have hle : s1.heap.objs.size ≤ b := by
        rcases e' with z | z
        · rw [z]; exact Nat.le_add_right _ _
        · rw [z]; exact Nat.le_refl _
      exact I1.fpOk hle (I1.hok.fresh hle)
    rcases q with ⟨⟨xs, hq⟩, q⟩ | ⟨⟨xs, hq⟩, q⟩
    · obtain ⟨its, rv, p', hz⟩ := I1.list hq
      exact call_enumerate_list p'.isList fun h' he hit hsz hk => wpAny_pyIter_enum he (go (turn_enum a (s1.heap.objs.size + 1) s1.heap.objs.size) ⟨⟨.none, he⟩, hit, Nat.succ_ne_self _⟩ hk q)
    · obtain ⟨its, rv, p', hz⟩ := I1.tuple hq
      exact PySem.puT_call (show s1.heap.IsTuple a its.toArray from p') fun h' he hit hsz hk => wpAny_pyIter_enum he (go (turn_enumT a (s1.heap.objs.size + 1) s1.heap.objs.size) ⟨⟨.none, he⟩, hit, Nat.succ_ne_self _⟩ hk q)
def sEnumA (f : SA) : SI := fun ρ => (f ρ).bind fun ds => match ds with
  | [d] => gEnum d
  | _ => .bad
theorem i_enum (ha : RA X Z ω [e] fa) (hm : X.mg "enumerate" = none) (hg : Gl X "enumerate" := by rfl) (hs : starEach [e] X.env = [(false, eval e X.env)] := by rfl) : RI X Z ω (.Tuple elts kk tpos) (.Call (.Name "enumerate" p) [e] [] pos) (sEnumA fa) := PI.of (pi_enumA hg hm ha hs) fun σ H R ⟨S, ρ, h, c⟩ =>
  tI.seq (rel1 := relA X.K) an_IS h c fun xs S1 H1 ds g1 rx c1 => by
    split at c1
    · rename_i d
      have rx : RpAll X.K S1 xs [d] := rx
      cases rx with
      | cons r rn =>
        cases rn
        cases d with
        | list ds =>
          cases r with
          | @lst a ys _ e r => exact ⟨a, rfl, .inl ⟨⟨ys, .of (g1.sh _ _ e)⟩, c1 _ S1 H1 (.refl g1.sh) (walks_pair walk_enum (by rw [enum_len]; exact r.len) (fun S H al => .of (al.2 _ _ (al.1 _ _ e))) (fun S H al => al.2) fun S H i x y al hx hy => by
              obtain ⟨d', h1, h2⟩ := r.get hy
              cases hx
              exact ⟨_, _, enum_at h1, .int _, h2.mono al.1⟩)⟩⟩
        | tuple ds =>
          cases r with
          | @tup a ys _ e r => exact ⟨a, rfl, .inr ⟨⟨ys, sqT_mono g1.sh e⟩, c1 _ S1 H1 (.refl g1.sh) (walks_pair walk_enumT (by rw [enum_len]; exact r.len) (fun S H al => sqT_mono al.2 (sqT_mono al.1 e)) (fun S H al => al.2) fun S H i x y al hx hy => by
              obtain ⟨d', h1, h2⟩ := r.get hy
              cases hx
              exact ⟨_, _, enum_at h1, .int _, h2.mono al.1⟩)⟩⟩
        | _ => exact c1.elim
    · exact c1.elim
end
end Pu
end

section
set_option Elab.async false
set_option linter.all false
set_option maxRecDepth 100000
set_option maxHeartbeats 2000000
/-! Pu11: dicts read and walked; the borrowed argument. -/
namespace Pu
open PySem PySem.Spec PyProof.Rows L2

/-- a locked dict -/
abbrev lk (ds : List (D × D)) : D := .dict ((.list [], .none) :: ds)
def keyed (ds : List (D × D)) : Bool := ds.all fun p => isKey p.1
def dPairs : D → Option (List (D × D))
  | .dict ds => match ds with
    | (.list [], .none) :: r => some r
    | _ => if keyed ds = true then some ds else none
  | _ => none
@[simp] theorem dPairs_lk (ds : List (D × D)) : dPairs (lk ds) = some ds := id rfl
theorem RpKs.keyed {K : PySem.W.Frag} {S : Hp} : ∀ {kvs : List (Key × V)} {ds : List (D × D)}, RpKs K S kvs ds → keyed ds = true
  | _, _, .nil => rfl
  | _, _, .cons (k := k) a b => by
    unfold Pu.keyed
    rw [List.all_cons, Bool.and_eq_true]
    refine ⟨?_, b.keyed⟩
    cases k <;> rfl
theorem rpKs_head {K : PySem.W.Frag} {S : Hp} {kvs : List (Key × V)} {ds : List (D × D)} {d e : D} (h : isKey d = false) : ¬ RpKs K S kvs ((d, e) :: ds) := fun r => by
  have := r.keyed
  unfold keyed at this
  rw [List.all_cons, h] at this
  cases this
section
variable {K : PySem.W.Frag} {S H : Hp} {v : V} {d : D} {ds : List (D × D)}
theorem keyed_of_key {p : D × D} {r : List (D × D)} (h : keyed (p :: r) = true) : isKey p.1 = true := by
  unfold keyed at h
  rw [List.all_cons, Bool.and_eq_true] at h
  exact h.1
theorem dPairs_cases (h : dPairs d = some ds) : d = lk ds ∨ (d = .dict ds ∧ keyed ds = true) := by
  unfold dPairs at h
  split at h
  · split at h
    · cases h
      exact .inl rfl
    · split at h
      · rename_i hk
        cases h
        exact .inr ⟨rfl, hk⟩
      · cases h
  · cases h
theorem Rq.dic (hs : Same S H) (h : Rq K S H v d) (e : dPairs d = some ds) : ∃ a kvs, v = .ref a ∧ Rd H a (.dK kvs) ∧ RpKs K S kvs ds := by
  rcases dPairs_cases e with rfl | ⟨rfl, hk⟩
  · rcases h with h | ⟨P, h⟩
    · cases h with
      | dic e r => exact (rpKs_head rfl r).elim
      | dicF e r => exact ⟨_, _, rfl, .inr ⟨_, hs _ _ e⟩, r⟩
    · rcases h with ⟨_, _, s⟩ | ⟨a, xs, ds', P', ev, ed, ha, _, h⟩ | ⟨a, kvs, ds', ev, ed, ha, _, r⟩ | ⟨a, kvs, ds', ev, ed, _⟩
      · exact s.elim
      · cases ed
      · cases ed
        exact (rpKs_head rfl r).elim
      · cases ed
  · rcases h with h | ⟨P, h⟩
    · cases h with
      | scr e r => exact absurd (keyed_of_key hk) (fun z => Bool.noConfusion z)
      | dic e r => exact ⟨_, _, rfl, rd_mono hs e, r⟩
      | dicT e r => exact absurd (keyed_of_key hk) (fun z => Bool.noConfusion z)
      | dicF e r => exact absurd (keyed_of_key hk) (fun z => Bool.noConfusion z)
    · rcases h with ⟨_, _, s⟩ | ⟨a, xs, ds', P', ev, ed, ha, _, h⟩ | ⟨a, kvs, ds', ev, ed, ha, _, r⟩ | ⟨a, kvs, ds', ev, ed, _⟩
      · exact s.elim
      · cases ed
      · cases ed
        exact ⟨a, kvs, ev, .inl ha, r⟩
      · cases ed
        exact absurd (keyed_of_key hk) (fun z => Bool.noConfusion z)
end
/-! ### d[k] -/
def rIxD : R2 := fun x y H Q => ∃ a v, x = .ref a ∧ DGet H a y (some v) ∧ Q v H
theorem ix_dict {X : Cx} (hu : X.A.units + 1 < cLine) : IxR X rIxD := by
  intro value slice pins s σ H x y v u Q I rx ry q hs
  obtain ⟨a, w, rfl, g, q⟩ := q
  obtain rfl : v = Value.ref a := rx
  exact tail_any (dict_typeIs I g) PySem.F.slot_dict_getitem.lookup (d_getItem hu I g ry fun w' s3 I3 rw' => ⟨w, H, I3, rw', q⟩) hs
def gIxA : D → D → R D := fun o k => match dPairs o with
  | some ds => if isKey k = true then (match dLook ds k with
    | some d => .ok d
    | none => .bad) else .bad
  | none => gIx o k
theorem Rq.key {K : PySem.W.Frag} {S H : Hp} {v : V} {d : D} (h : Rq K S H v d) (e : isKey d = true) : ∃ k : Key, d = kD k ∧ v = kV k := isKey_of e (h.rp (by cases d <;> first | trivial | cases e))
theorem oIxA {K : PySem.W.Frag} : OpD K (relP K) (fun x y H Q => rIx K x y H Q ∨ rIxD x y H Q) gIxA where
  ne := by
    intro a b c fs h
    unfold gIxA at h
    split at h
    · split at h
      · split at h <;> cases h
      · cases h
    · exact oIx.ne (K := K) _ _ _ _ h
  ok := by
    intro S H x y dx dy hs rx ry d e Q q
    unfold gIxA at e
    split at e
    · rename_i ds hp
      split at e
      · rename_i hk
        split at e
        · rename_i d' hl
          cases e
          obtain ⟨a, kvs, rfl, h1, h2⟩ := rx.dic hs hp
          obtain ⟨k, rfl, rfl⟩ := ry.key hk
          obtain ⟨w, h3, h4⟩ := h2.val k _ hl
          exact .inr ⟨a, w, rfl, .inl ⟨kvs, k, h1, rfl, h3.symm⟩, q w S H (.refl hs) h4⟩
        · cases e
      · cases e
    · exact .inl (oIx.ok S H x y dx dy hs rx ry d e Q q)
def gInA : D → D → R D := fun k o => match dPairs o with
  | some ds => if isKey k = true then .ok (.bool (dLook ds k).isSome) else .bad
  | none => gIn k o
def gNotInA : D → D → R D := fun k o => match dPairs o with
  | some ds => if isKey k = true then .ok (.bool (!(dLook ds k).isSome)) else .bad
  | none => gNotIn k o
def rInDi : R2 := fun x y H Q => ∃ a o, y = .ref a ∧ DGet H a x o ∧ Q (.bl o.isSome) H
def rNotInDi : R2 := fun x y H Q => ∃ a o, y = .ref a ∧ DGet H a x o ∧ Q (.bl (!o.isSome)) H
theorem op_inDi {X : Cx} (hu : X.A.units + 1 < cLine) : OpR X (compareOp .In) rInDi := by
  intro pins s σ H x y v u Q I rx ry h
  obtain ⟨a, o, rfl, g, q⟩ := h
  obtain rfl : u = Value.ref a := ry
  exact d_in hu I g rx fun s3 I3 => ⟨.bl o.isSome, H, I3, rfl, q⟩
theorem op_notInDi {X : Cx} (hu : X.A.units + 1 < cLine) : OpR X (compareOp .NotIn) rNotInDi := by
  intro pins s σ H x y v u Q I rx ry h
  obtain ⟨a, o, rfl, g, q⟩ := h
  obtain rfl : u = Value.ref a := ry
  exact d_notIn hu I g rx fun s3 I3 => ⟨.bl (!o.isSome), H, I3, rfl, q⟩
theorem oInA {K : PySem.W.Frag} : OpD K (relP K) (fun x y H Q => rInD K x y H Q ∨ rInDi x y H Q) gInA where
  ne := by
    intro a b c fs h
    unfold gInA at h
    split at h
    · split at h <;> cases h
    · exact oIn.ne (K := K) _ _ _ _ h
  ok := by
    intro S H x y dx dy hs rx ry d e Q q
    unfold gInA at e
    split at e
    · rename_i ds hp
      split at e
      · rename_i hk
        cases e
        obtain ⟨a, kvs, rfl, h1, h2⟩ := ry.dic hs hp
        obtain ⟨k, rfl, rfl⟩ := rx.key hk
        refine .inr ⟨a, valV kvs k, rfl, .inl ⟨kvs, k, h1, rfl, rfl⟩, ?_⟩
        rw [h2.valN k]
        exact q _ S H (.refl hs) (.bl _)
      · cases e
    · exact .inl (oIn.ok S H x y dx dy hs rx ry d e Q q)
theorem oNotInA {K : PySem.W.Frag} : OpD K (relP K) (fun x y H Q => rNotInD K x y H Q ∨ rNotInDi x y H Q) gNotInA where
  ne := by
    intro a b c fs h
    unfold gNotInA at h
    split at h
    · split at h <;> cases h
    · exact oNotIn.ne (K := K) _ _ _ _ h
  ok := by
    intro S H x y dx dy hs rx ry d e Q q
    unfold gNotInA at e
    split at e
    · rename_i ds hp
      split at e
      · rename_i hk
        cases e
        obtain ⟨a, kvs, rfl, h1, h2⟩ := ry.dic hs hp
        obtain ⟨k, rfl, rfl⟩ := rx.key hk
        refine .inr ⟨a, valV kvs k, rfl, .inl ⟨kvs, k, h1, rfl, rfl⟩, ?_⟩
        rw [h2.valN k]
        exact q _ S H (.refl hs) (.bl _)
      · cases e
    · exact .inl (oNotIn.ok S H x y dx dy hs rx ry d e Q q)
section
variable {X : Cx} {Z : Sx} {ω : List Nat} {a b : Expr} {fa fb : SE} {pos : Pos}
theorem r_ixa (hu : X.A.units + 1 < cLine) (ha : RQ X Z ω a fa) (hb : RQ X Z ω b fb) (hs : PlainIx b := by intro _ _; rfl) : RP X Z ω (.Subscript a b pos) (s2 gIxA fa fb) := PE.of (pe_ix (ix_seq.or (ix_dict hu)) ha hb hs) fun σ H Q h => op_run an_P oIxA rfl rfl h
theorem op_inA (hu : X.A.units + 65 < cLine) : OpR X (compareOp .In) (fun x y H Q => rInD X.K x y H Q ∨ rInDi x y H Q) := OpR.or (op_inD hu) (op_inDi (by omega))
theorem op_notInA (hu : X.A.units + 65 < cLine) : OpR X (compareOp .NotIn) (fun x y H Q => rNotInD X.K x y H Q ∨ rNotInDi x y H Q) := OpR.or (op_notInD hu) (op_notInDi (by omega))
/-- {} -/
theorem r_dnew : RF X Z ω 1 (.Dict [] [] pos) (sC (.dict [])) := PE.of pe_dnewK fun σ H Q ⟨S, ρ, h, c⟩ => fun p hp => c _ S _ (.own h.sh hp) ⟨[p], .inr (.inr (.inl ⟨p, [], [], rfl, rfl, upd_same, rfl, .nil⟩)), List.nodup_cons.mpr ⟨by simp, .nil⟩, fun a ha => by
  rw [List.mem_singleton.mp ha]
  exact ⟨h.sh.free hp, hp⟩⟩
end

/-! ### a dict is locked and shared -/
section
variable {K : PySem.W.Frag} {S0 H0 S H : Hp} {J : Option Exi} {ω : List Nat} {σ : St} {ρ : Rho} {P : Nat → List Addr}
/-- slot i's dict at a, locked -/
theorem Good.lock (G : Good K S0 H0 J ω σ ρ S H P) {i : Nat} {a : Addr} {kvs : List (Key × V)} {ds : List (D × D)} {od : Obj} (hi : i < ω.length) (hv : σ[i]? = some (some (.ref a))) (hP : P i = [a]) (ha : H a = some (.dK kvs)) (hr : RpKs K S kvs ds) (hJ : ∀ q, J = some q → q.slot ≠ i) :
    Good K S0 H0 J (ω.set i 0) σ (ρ.set i (some (lk ds))) (upd S a (.frz od (.dK kvs))) (upd H a (.frz od (.dK kvs))) fun j => if j = i then [] else P j := by
  have haP : a ∈ P i := by rw [hP]; exact List.mem_cons_self
  obtain ⟨a1, a2, a3⟩ := G.pn i a haP
  have sS : Same S (upd S a (.frz od (.dK kvs))) := same_upd a1
  have nea : ∀ b u, S b = some u → b ≠ a := fun b u e z => by rw [z, a1] at e; cases e
  have ne0 : ∀ b u, H0 b = some u → b ≠ a := fun b u e z => by rw [z, a2] at e; cases e
  have nj : ∀ j, j ≠ i → a ∉ P j := fun j hj hm => G.dj j i a hj hm haP
  refine ⟨⟨G.g.ss.trans sS, fun b u e => ?_, fun b u e => ?_, fun b e n => ?_⟩, ?_, ?_, fun j d' e => ?_, fun j b hb => ?_, fun j => ?_, fun j l b hjl h1 h2 => ?_, fun q e => ⟨(G.xi q e).1, (G.xi q e).2.mono sS⟩⟩
  · rw [upd_ne (ne0 b u e)]
    exact G.g.hh _ _ e
  · by_cases hb : b = a
    · rw [hb, upd_same] at e ⊢
      exact e
    · rw [upd_ne hb] at e ⊢
      exact G.g.sh _ _ e
  · have hb : b ≠ a := fun z => n (by rw [z]; exact a2)
    rw [upd_ne hb]
    exact G.g.nw b e n
  · rw [List.length_set]
    exact G.ln
  · rw [List.length_set, List.length_set]
    exact G.lw
  · by_cases hj : j = i
    · subst hj
      rw [List.getElem?_set, if_pos rfl] at e
      split at e
      · obtain rfl : lk ds = d' := Option.some.inj (Option.some.inj e)
        refine ⟨_, hv, ?_⟩
        have e0 : (ω.set j 0).getD j 0 = 0 := by
          rw [List.getD_eq_getElem?_getD, List.getElem?_set, if_pos rfl, if_pos hi]
          rfl
        rw [e0, if_pos rfl]
        exact ⟨.dicF upd_same (hr.mono sS), rfl⟩
      · cases e
    · rw [List.getElem?_set_ne (fun z => hj z.symm)] at e
      obtain ⟨v, h1, h2⟩ := G.sl j d' e
      refine ⟨v, h1, ?_⟩
      rw [List.getD_eq_getElem?_getD, List.getElem?_set_ne (fun z => hj z.symm), ← List.getD_eq_getElem?_getD, if_neg hj]
      exact h2.mono sS fun b hb => upd_ne fun z => nj j hj (by rw [← z]; exact hb)
  · split at hb
    · cases hb
    · rename_i hj
      obtain ⟨b1, b2, b3⟩ := G.pn j b hb
      have hba : b ≠ a := fun z => nj j hj (by rw [← z]; exact hb)
      rw [upd_ne hba, upd_ne hba]
      exact ⟨b1, b2, b3⟩
  · split
    · exact .nil
    · exact G.nd j
  · split at h1
    · cases h1
    · split at h2
      · cases h2
      · exact G.dj j l b hjl h1 h2
end
/-- slot i's dict is locked, then the rest -/
def sLock (i : Nat) (f : SS) : SS := fun ρ => match ρ[i]? with
  | some (some (.dict ds)) => if keyed ds = true then f (ρ.set i (some (lk ds))) else .bad
  | _ => .bad
section
variable {X : Cx} {Z : Sx} {L : Lp} {ω ωn : List Nat} {sts : List Stmt} {f : SS}
theorem ss_lock (i : Nat) (h : RSs X Z L (ω.set i 0) ωn sts f) (hi : i < ω.length := by decide) (hk : ω.getD i 0 = 1 := by rfl) (hJ : Z.J = none := by rfl) : RSs X Z L ω ωn sts (sLock i f) := by
  refine ⟨fun pins s σ H D I q => ?_⟩
  obtain ⟨S0, H0, S, ρ, P, G, c⟩ := q
  unfold sLock at c
  split at c
  · rename_i ds e
    split at c
    · rename_i hkd
      obtain ⟨v, h1, h2⟩ := G.sl i _ e
      rw [hk] at h2
      rcases h2 with ⟨_, _, s'⟩ | ⟨a, xs, ds', P', ev, ed, ha, _, h⟩ | ⟨a, kvs, ds', ev, ed, ha, eP, r⟩ | ⟨a, kvs, ds', ev, ed, _⟩
      · exact s'.elim
      · cases ed
      · cases ed
        subst ev
        obtain ⟨od, I'⟩ := Inv.lock I ha (by exact trivial)
        refine h.run pins s σ _ D I' ⟨S0, H0, _, _, _, G.lock (od := od) hi h1 eP ha r (fun q z => by rw [hJ] at z; cases z), ?_⟩
        rw [List.length_set]
        exact c
      · cases ed
        exact absurd (keyed_of_key hkd) (fun z => Bool.noConfusion z)
    · exact c.elim
  · exact c.elim
end

/-! ### walked: a list, a tuple, a locked dict -/
def gIterA : D → R (List D)
  | .dict ((.list [], .none) :: ds) => .ok (ds.map (·.1))
  | d => gIter d
def sIterA (f : SE) : SI := fun ρ => (f ρ).bind gIterA
section
variable {X : Cx} {Z : Sx} {ω : List Nat} {tg l : Expr} {fe : SE}
theorem pi_any {tl : TE} (hl : PE X l tl) : PI X tg l (fun σ H R => tl σ H fun x H1 => ∃ a, x = .ref a ∧ (((∃ xs, SqL X.K H1 a xs) ∧ R (Itl X.K a) H1) ∨ ((∃ xs, SqT X.K H1 a xs) ∧ R (Itt X.K a) H1) ∨ ∃ o kvs, H1 a = some (.frz o (.dK kvs)) ∧ R (Itk a o kvs) H1)) := by
  refine ⟨fun pins s σ H R I h => ?_⟩
  refine thn (hl.run pins s σ H _ I h) fun v s1 ⟨x, H1, I1, r1, a, e, q⟩ => ?_
  subst e
  cases r1
  have fr : ∀ b ∈ [s1.heap.objs.size], FpOk X pins H1 b := fun b hb => by
    rw [List.mem_singleton.mp hb]
    exact I1.fpOk (Nat.le_refl _) (I1.hok.fresh (Nat.le_refl _))
  rcases q with ⟨⟨xs, hq⟩, q⟩ | ⟨⟨xs, hq⟩, q⟩ | ⟨o, kvs, hd, q⟩
  · obtain ⟨its, rv, p, hz⟩ := I1.list hq
    exact wpAny_pyIter_list p.isList ⟨_, [s1.heap.objs.size], _, _, H1, rfl, I1.kept (t' := s1.toks) fun b o e => Heap.get?_push_of_some _ e, turn_list a _, ⟨_, Heap.get?_push_size _ rfl, rfl, rfl⟩, fr, q⟩
  · obtain ⟨its, rv, p, hz⟩ := I1.tuple hq
    exact wpAny_pyIter_tuple (show s1.heap.IsTuple a its.toArray from p) ⟨_, [s1.heap.objs.size], _, _, H1, rfl, I1.kept (t' := s1.toks) fun b o e => Heap.get?_push_of_some _ e, turn_tuple a _, ⟨_, Heap.get?_push_size _ rfl, rfl, rfl⟩, fr, q⟩
  · obtain ⟨hs, hgd, hx, es, ep, vs, hdt, hsz, kv, hm⟩ := I1.frzK hd
    refine iter_keys hs hgd hx hdt (pi_one (tk := s1.toks) I1 _ (turn_keys _ hdt) ⟨_, Heap.get?_push_size _ rfl, rfl, ?_⟩ q)
    rw [hsz] <;> rfl
theorem RpKs.keys {K : PySem.W.Frag} {S : Hp} : ∀ {kvs : List (Key × V)} {ds : List (D × D)} {i : Nat} {k : Key} {v : V}, RpKs K S kvs ds → kvs[i]? = some (k, v) → (ds.map (·.1))[i]? = some (kD k)
  | _, _, _, _, _, .nil, h => by simp at h
  | _, _, 0, _, _, .cons a b, h => by
    cases h
    rfl
  | _, _, i + 1, _, _, .cons a b, h => RpKs.keys (i := i) b h
theorem rp_key {K : PySem.W.Frag} {S : Hp} (k : Key) : Rp K S (kV k) (kD k) := by
  cases k with
  | inl i => exact .int i
  | inr x => exact .str x
theorem walks_keys {K : PySem.W.Frag} {Al : Hp → Hp → Prop} {a : Addr} {o : Obj} {kvs : List (Key × V)} {ds : List (D × D)} {S1 : Hp} (hG : ∀ S H, Al S H → H a = some (.frz o (.dK kvs))) (hsh : ∀ S H, Al S H → Same S H) (hr : RpKs K S1 kvs ds) : Walks K Al (Itk a o kvs) (ds.map (·.1)) :=
  ⟨fun H => H a = some (.frz o (.dK kvs)), fun i H x H' => H' = H ∧ ∃ k v, kvs[i]? = some (k, v) ∧ x = kV k, by rw [List.length_map, ← hr.len]; exact walk_keys, hG, fun S H i x H' hi al ⟨e, k, v, hk, ex⟩ => ⟨S, kD k, by rw [e]; exact .refl (hsh S H al), hr.keys hk, by rw [ex]; exact rp_key k⟩⟩
theorem i_any (h : RP X Z ω l fe) : RI X Z ω tg l (sIterA fe) := PI.of (pi_any h) fun σ H R ⟨S, ρ, h, c⟩ =>
  tI.seq an_IS h c fun x S1 H1 d g1 rx c1 => by
    have rx : Rp X.K S1 x d := rx
    unfold gIterA at c1
    split at c1
    · rename_i ds
      cases rx with
      | dic e r => exact (rpKs_head rfl r).elim
      | @dicF a o kvs _ e r => exact ⟨a, rfl, .inr (.inr ⟨o, kvs, g1.sh _ _ e, c1 _ S1 H1 (.refl g1.sh) (walks_keys (fun S H al => al.2 _ _ (al.1 _ _ e)) (fun S H al => al.2) r)⟩)⟩
    · cases d with
      | list ds =>
        cases rx with
        | @lst a xs _ e r => exact ⟨a, rfl, .inl ⟨⟨xs, .of (g1.sh _ _ e)⟩, c1 _ S1 H1 (.refl g1.sh) (walks_at walk_list (fun S H al => .of (al.2 _ _ (al.1 _ _ e))) (fun S H al => al.2) (fun S H al => r.mono al.1) r.len)⟩⟩
      | tuple ds =>
        cases rx with
        | @tup a xs _ e r => exact ⟨a, rfl, .inr (.inl ⟨⟨xs, sqT_mono g1.sh e⟩, c1 _ S1 H1 (.refl g1.sh) (walks_at walk_tup (fun S H al => sqT_mono al.2 (sqT_mono al.1 e)) (fun S H al => al.2) (fun S H al => r.mono al.1) r.len)⟩)⟩
      | _ => exact c1.elim
theorem ig_any (h : RQ X Z ω l fe) : RIG X Z ω tg l (sIterA fe) := PI.of (pi_any h) fun σ H R ⟨S, ρ, h, c⟩ =>
  tI.seq an_IG h c fun x S1 H1 d g1 rx c1 => by
    have rx : Rq X.K S1 H1 x d := rx
    unfold gIterA at c1
    split at c1
    · rename_i ds
      rcases rx with rx | ⟨P, rx⟩
      · cases rx with
        | dic e r => exact (rpKs_head rfl r).elim
        | @dicF a o kvs _ e r => exact ⟨a, rfl, .inr (.inr ⟨o, kvs, g1.sh _ _ e, c1 _ S1 H1 (.refl g1.sh) (walks_keys (fun S H (al : Grow _ _ _ _) => al.hh _ _ (g1.sh _ _ e)) (fun S H al => al.sh) r)⟩)⟩
      · rcases rx with ⟨_, _, s⟩ | ⟨a, xs, ds', P', ev, ed, ha, _, h⟩ | ⟨a, kvs, ds', ev, ed, ha, _, r⟩ | ⟨a, kvs, ds', ev, ed, _⟩
        · exact s.elim
        · cases ed
        · cases ed
          exact (rpKs_head rfl r).elim
        · cases ed
    · cases d with
      | list ds =>
        obtain ⟨a, xs, rfl, e, r⟩ := rx.lst g1.sh
        exact ⟨a, rfl, .inl ⟨⟨xs, .of e⟩, c1 _ S1 H1 (.refl g1.sh) (walks_at walk_list (fun S H (al : Grow _ _ _ _) => .of (al.hh _ _ e)) (fun S H al => al.sh) (fun S H al => r.mono al.ss) r.len)⟩⟩
      | tuple ds =>
        obtain ⟨a, xs, rfl, e, r⟩ := rx.tup g1.sh
        exact ⟨a, rfl, .inr (.inl ⟨⟨xs, e⟩, c1 _ S1 H1 (.refl g1.sh) (walks_at walk_tup (fun S H (al : Grow _ _ _ _) => sqT_mono al.hh e) (fun S H al => al.sh) (fun S H al => r.mono al.ss) r.len)⟩)⟩
      | _ => exact c1.elim
end
end Pu
end

section
set_option Elab.async false
set_option linter.all false
set_option maxRecDepth 100000
set_option maxHeartbeats 2000000
/-! Pu12: what is owned, lent to a call that answers an atom. -/
namespace Pu
open PySem PySem.Spec PyProof.Rows L2

/-- a thing that may be owned -/
def CellO (o : Option HO) : Prop := (∃ xs, o = some (.lst xs)) ∨ (∃ kvs, o = some (.dK kvs)) ∨ ∃ kvs, o = some (.dT kvs)
theorem CellO.noxd {o : Option HO} {fs : List (Str × V)} (h : CellO o) : o ≠ some (.xd fs) := fun z => by
  rcases h with ⟨_, h⟩ | ⟨_, h⟩ | ⟨_, h⟩ <;>
    · rw [h] at z
      cases z
section
variable {K : PySem.W.Frag} {S H : Hp}
theorem OwnAll.cell {f : V → D → List Addr → Prop} : ∀ {vs : List V} {ds : List D} {P : List Addr}, OwnAll f vs ds P → (∀ v d P', f v d P' → ∀ a ∈ P', CellO (H a)) → ∀ a ∈ P, CellO (H a)
  | [], [], _, h, _ => fun a ha => by rw [show _ = [] from h] at ha; cases ha
  | [], _ :: _, _, h, _ => h.elim
  | _ :: _, [], _, h, _ => h.elim
  | v :: vs, d :: ds, P, ⟨P1, P2, e, h1, h2⟩, q => fun a ha => by
    rw [e] at ha
    rcases List.mem_append.mp ha with ha | ha
    · exact q _ _ _ h1 a ha
    · exact OwnAll.cell h2 q a ha
theorem OwnN.cell : ∀ {k : Nat} {v : V} {d : D} {P : List Addr}, OwnN K S H k v d P → ∀ a ∈ P, CellO (H a)
  | 0, _, _, _, ⟨_, e⟩ => fun a ha => by rw [e] at ha; cases ha
  | k + 1, v, d, P, h => fun b hb => by
    rcases h with ⟨h, e, z⟩ | ⟨a, xs, ds, P', ev, ed, ha, eP, h⟩ | ⟨a, kvs, ds, ev, ed, ha, eP, h⟩ | ⟨a, kvs, ds, ev, ed, ha, eP, h⟩
    · rw [e] at hb
      cases hb
    · rw [eP] at hb
      rcases List.mem_cons.mp hb with hb | hb
      · rw [hb]
        exact .inl ⟨_, ha⟩
      · exact h.cell (fun v d P' r => OwnN.cell r) b hb
    · rw [eP] at hb
      rw [List.mem_singleton.mp hb]
      exact .inr (.inl ⟨_, ha⟩)
    · rw [eP] at hb
      rw [List.mem_singleton.mp hb]
      exact .inr (.inr ⟨_, ha⟩)
/-- an atom's value -/
def aV : D → V
  | .bool b => .bl b
  | .int i => .int i
  | .str x => .str x
  | _ => .non
theorem aV_rp {d : D} (a : atom d = true) : Rp K S (aV d) d := by
  cases d <;> first
    | exact .non
    | exact .bl _
    | exact .int _
    | exact .str _
    | cases a
theorem rp_aV {v : V} {d : D} (h : Rp K S v d) (a : atom d = true) : v = aV d := by
  cases h <;> first
    | rfl
    | cases a
theorem OwnN.aV {k : Nat} {v : V} {d : D} {P : List Addr} (h : OwnN K S H k v d P) (a : atom d = true) : v = Pu.aV d := by
  cases k with
  | zero => exact rp_aV h.1 a
  | succ k =>
    rcases h with ⟨h, _, _⟩ | ⟨_, _, _, _, _, ed, _⟩ | ⟨_, _, _, _, ed, _⟩ | ⟨_, _, _, _, ed, _⟩
    · exact rp_aV h a
    · rw [ed] at a
      cases a
    · rw [ed] at a
      cases a
    · rw [ed] at a
      cases a
end
section
variable {K : PySem.W.Frag} {S0 H0 S H : Hp} {J : Option Exi} {ω ω' : List Nat} {σ : St} {ρ : Rho} {P : Nat → List Addr}
theorem Good.lend (G : Good K S0 H0 J ω σ ρ S H P) (w : Wk ω ω') : ∃ A P', Good K S0 H0 J ω' σ ρ (addS S H A) H P' ∧ ∀ a ∈ A, S a = none ∧ CellO (H a) := by
  let A : List Addr := (List.range ω.length).flatMap fun i => if ω'.getD i 0 = 0 ∧ (ρ[i]?.bind id).isSome = true then P i else []
  have inA : ∀ a, a ∈ A ↔ ∃ i, i < ω.length ∧ (ω'.getD i 0 = 0 ∧ (ρ[i]?.bind id).isSome = true) ∧ a ∈ P i := fun a => by
    show a ∈ List.flatMap _ _ ↔ _
    rw [List.mem_flatMap]
    constructor
    · rintro ⟨i, hi, h⟩
      split at h
      · exact ⟨i, List.mem_range.mp hi, by assumption, h⟩
      · cases h
    · rintro ⟨i, hi, hz, h⟩
      exact ⟨i, List.mem_range.mpr hi, by rw [if_pos hz]; exact h⟩
  have hA : ∀ a ∈ A, S a = none ∧ H0 a = none := fun a ha => by
    obtain ⟨i, _, _, h⟩ := (inA a).mp ha
    exact ⟨(G.pn i a h).1, (G.pn i a h).2.1⟩
  have hs : Same S (addS S H A) := addS_same fun a ha => (hA a ha).1
  refine ⟨A, fun i => if i < ω.length ∧ (ω'.getD i 0 = 0 ∧ (ρ[i]?.bind id).isSome = true) then [] else P i, ⟨G.g.frz hA, G.ln, by rw [w.1]; exact G.lw, fun i d e => ?_, fun i a ha => ?_, fun i => ?_, fun i j a hij h1 h2 => ?_, fun q e => ⟨(G.xi q e).1, (G.xi q e).2.mono hs⟩⟩, fun a ha => ⟨(hA a ha).1, ?_⟩⟩
  · obtain ⟨v, h1, h2⟩ := G.sl i d e
    refine ⟨v, h1, ?_⟩
    have hi : i < ω.length := by
      rw [G.lw]
      exact (List.getElem?_eq_some_iff.mp e).1
    have hsome : (ρ[i]?.bind id).isSome = true := by rw [e]; rfl
    by_cases hz : ω'.getD i 0 = 0
    · rw [if_pos ⟨hi, hz, hsome⟩, hz]
      exact ⟨h2.frz hs fun a ha => addS_in ((inA a).mpr ⟨i, hi, ⟨hz, hsome⟩, ha⟩), rfl⟩
    · rw [if_neg (fun h => hz h.2.1)]
      rcases w.2 i with h | h
      · rw [h]
        exact h2.mono hs fun a _ => rfl
      · exact absurd h hz
  · split at ha
    · cases ha
    · rename_i hn
      refine ⟨?_, (G.pn i a ha).2⟩
      rw [addS_out]
      · exact (G.pn i a ha).1
      · intro hm
        obtain ⟨j, hj, hz, h⟩ := (inA a).mp hm
        by_cases hij : i = j
        · subst hij
          exact hn ⟨hj, hz⟩
        · exact G.dj i j a hij ha h
  · split
    · exact .nil
    · exact G.nd i
  · split at h1
    · cases h1
    · split at h2
      · cases h2
      · exact G.dj i j a hij h1 h2
  · obtain ⟨i, hi, ⟨_, hsome⟩, h⟩ := (inA a).mp ha
    cases e : ρ[i]? with
    | none =>
      rw [e] at hsome
      cases hsome
    | some o =>
      rw [e] at hsome
      cases o with
      | none => cases hsome
      | some d =>
        obtain ⟨v, _, h2⟩ := G.sl i d e
        exact h2.cell a h
end
section
variable {X : Cx} {Z : Sx} {ω : List Nat} {e : Expr} {f : SE} {k : Nat}
theorem rp_borrow (ω0 : List Nat) (h : RF X Z ω0 k e f) (w : wkB ω ω0 = true := by decide) : RP X Z ω e (sAtom f) := PE.of h fun σ H Q ⟨S, ρ, ⟨S0, H0, P, G⟩, c⟩ => by
  obtain ⟨A, P', G', hA⟩ := G.lend (wk_of w)
  refine ⟨_, ρ, ⟨S0, H0, P', G'⟩, ?_⟩
  have back : ∀ {S' H' : Hp}, Grow (addS S H A) H S' H' → Grow S H (fun a => if a ∈ A then none else S' a) H' := fun {S' H'} g => by
    refine ⟨fun b u q => ?_, g.hh, fun b u q => ?_, fun b q n => ?_⟩
    · have hb : b ∉ A := fun z => by
        rw [(hA b z).1] at q
        cases q
      show (if b ∈ A then none else S' b) = some u
      rw [if_neg hb]
      exact g.ss _ _ (by rw [addS_out hb]; exact q)
    · have q' : (if b ∈ A then none else S' b) = some u := q
      split at q'
      · cases q'
      · exact g.sh _ _ q'
    · show (if b ∈ A then none else S' b) = none
      split
      · rfl
      · rename_i hb
        exact g.nw b (by rw [addS_out hb]; exact q) n
  unfold sAtom at c
  cases ef : f ρ with
  | ok d =>
    rw [ef] at c
    have c' : Cl X.K Z (relP X.K) σ Q S H (if atom d = true then .ok d else .bad) := c
    split at c'
    · rename_i ha
      intro v S' H' g ⟨P2, hr, _, _⟩
      rw [hr.aV ha]
      exact c' _ _ H' (back g) (aV_rp ha)
    · exact c'.elim
  | ex cc fs =>
    rw [ef] at c
    intro dd S' H' g x
    refine c dd _ H' (back g) ?_
    rcases x with x | ⟨a, e1, x⟩
    · exact .inl x
    · refine .inr ⟨a, e1, ?_⟩
      have na : a ∉ A := fun ha => by
        have h1 := (hA a ha).2
        have h2 := g.sh _ _ x
        cases q : H a with
        | none =>
          rw [q] at h1
          rcases h1 with ⟨_, h1⟩ | ⟨_, h1⟩ | ⟨_, h1⟩ <;> cases h1
        | some o =>
          have h3 := g.hh _ _ q
          rw [h2] at h3
          cases h3
          rw [q] at h1
          exact h1.noxd rfl
      show (if a ∈ A then none else S' a) = _
      rw [if_neg na]
      exact x
  | bad =>
    rw [ef] at c
    exact c.elim
end
end Pu
end

section
set_option Elab.async false
set_option linter.all false
set_option maxRecDepth 100000
set_option maxHeartbeats 2000000
/-! Px1: own exceptions over ValueError (through own classes), made by super().__init__(text); self.f = f. -/
namespace PySem
namespace Xc
open PySem PySem.Spec PySem.W PySem.Calls PyProof.Rows PySem.HandSPX
/-- where the words of __init__ stand -/
structure Ps where
  a1 : Pos
  a2 : Pos
  a3 : Pos
  a4 : Pos
  a5 : Pos
  a6 : Pos
  b1 : Pos
  b2 : Pos
  b3 : Pos
  b4 : Pos
  p1 : Pos
  p2 : Pos
  j : Nat
def iA (f : Str) (p : Ps) : Arguments := { posonlyargs := [], args := [{ arg := "self", annotation := none, pos := p.p1 }, { arg := f, annotation := none, pos := p.p2 }], vararg := none, kwonlyargs := [], kw_defaults := [], kwarg := none, defaults := [] }
def iB (m f : Str) (p : Ps) : List Stmt := [.Expr (.Call (.Attribute (.Call (.Name "super" p.a1) [] [] p.a2) "__init__" p.a3) [.Constant (.str m) p.j p.a4] [] p.a5) p.a6, .Assign [.Attribute (.Name "self" p.b1) f p.b2] (.Name f p.b3) p.b4]
def iS (f : Str) : Scope := { kind := .function, names := [("self", .local), (f, .local), ("__class__", .free), ("super", .globalImplicit)], isGenerator := false, isCoroutine := false, more := [] }
/-- what the written part says of the class x at C, its __init__ at fI -/
structure Txt (P : Program) (K : Frag) (x f m : Str) (C fI cc cda : Addr) : Prop where
  cls : ∃ nm q N bs bm sn sub ab col dd k0 k1 k2 k3 k5, K.lookup C = some (excClassObj nm q C N bs bm true sn sub ab col dd k0 k1 k2 k3 k5 "ValueError.__new__") ∧ refsVE bm = true ∧ alongIn K "__init__" bm = some (some (.builtin "ValueError.__init__"))
  sa : findIn K (.ref C) "__setattr__" = some (some (.builtin "object.__setattr__"))
  noN : findIn K (.ref C) f = some none
  iC : findIn K (.ref C) "__init__" = some (some (.ref fI))
  tC : typeIn K (.ref fI) = some (.type "function")
  kC : keepIn K (.ref C) = true
  exC : subIn K (.ref C) (.type "BaseException") = some true
  seC : subIn K (.ref C) (.ref C) = some true
  veC : subIn K (.ref C) (.type "ValueError") = some true
  tyC : typeIn K (.ref C) = some (.type "type")
  cell : ∃ cl cld csl, K.lookup cc = some ⟨cl, cld, .cell (some (.ref C)), csl⟩
  code : ∃ ccl cdd vs ccs file tf, K.lookup cda = some ⟨ccl, cdd, .fields vs, ccs⟩ ∧ vs[2]? = some (.str file tf) ∧ ((P.main.file : Str) == file) = true
  opq : nsIn K cStatics "thirdparty.any" = some none
  htop : (P.main.scope.names.lookup ("super" : Str)).isSome = false
  fne : ((f == ("self" : Str)) = false ∧ (f == ("__class__" : Str)) = false) ∧ (f == ("super" : Str)) = false ∧ (f == ("__debug__" : Str)) = false
  fn : ∃ (oc : Value) (od : Option Addr) (doc pm : Value) (an : Option Addr) (ct : Value) (osl : Array (Option Value)) (qual : Str) (p : Ps),
    K.lookup fI = some ⟨oc, od, .func (ksFn "__init__" qual (iA f p) (iB m f p) (iS f) .none .none doc pm an (.ref cda) ct cc), osl⟩ ∧ codeIn K (.ref cda) qual = true ∧ (p.a3.endLine == p.a5.line) = true ∧
    ∀ (s : Shared) (u v : Value), BindsTo s (ksFn "__init__" qual (iA f p) (iB m f p) (iS f) .none .none doc pm an (.ref cda) ct cc) ⟨[u, v], []⟩ [("self", u), (f, v)]
theorem kept_but {K : Frag} {h h' : Heap} {x : Addr} (X : K.In h) (hx : K.lookup x = none) (k : ∀ b o, b ≠ x → h.get? b = some o → h'.get? b = some o) : K.In h' := fun a o e =>
  k a o (fun z => by rw [z, hx] at e; cases e) (X a o e)
/-- what __init__ leaves of a fresh exception at x -/
structure InitEnd (h h' : Heap) (x C dx t1 : Addr) (f : Str) (v : Value) : Prop where
  keep : ∀ b o, b ≠ x → h.get? b = some o → h'.get? b = some o
  obj : h'.get? x = some { cls := .ref C, dict := some dx, data := .fields #[.ref t1, .none, .none, .none, .bool false, .none] }
  dbig : h.objs.size ≤ dx
  dne : dx ≠ x
  ns : h'.Ns1 dx (fun y => if y = f then some v else none)
section
variable {prog : Program} {w : World} {A : Around} {E : Value → Shared → Prop} {h : Heap} {g : Array GenState} {d : Drawn} {t : Nat} {os : OsState}
variable {nm q : Str} {C N : Addr} {bs bm : List Value} {hdct : Bool} {sn : List Str} {sub : List Value} {ab : Bool} {col : Option Bool} {dd : Option Addr} {k0 k1 k2 k3 k5 : Option Value}
theorem call_vw {u e t0 : Addr} {rest : List Value} {Q : Value → Shared → Prop}
    (hC : h.get? C = some (excClassObj nm q C N bs bm hdct sn sub ab col dd k0 k1 k2 k3 k5 "ValueError.__new__")) (he : h.get? e = some (excO C t0)) (hu : h.get? u = some (kxs_mw "ValueError.__init__" e)) (hrest : rest.length ≤ sizeLine)
    (hq : ∀ h' t1, (∀ b o, b ≠ e → h.get? b = some o → h'.get? b = some o) → h'.get? e = some (excO C t1) → Q .none ⟨h', g, d, t, os⟩) :
    wpAny (model prog w) A (call (.ref u) rest) Q E ⟨h, g, d, t, os⟩ := by
  refine wpAny_call (codeAny_of_tree ?_)
  show wpAny _ A.in1 (callAny (.ref u) ⟨rest, []⟩) _ _ _
  simp only [callAny]
  refine wpAny_bind (wpAny_load hu ?_)
  simp only [kxs_mw, show (Value.type "method-wrapper" == Value.type "method" || Value.type "method-wrapper" == Value.type "builtin_function_or_method" || Value.type "method-wrapper" == Value.type "method-wrapper") = true by decide, if_true]
  refine KFB.if_so (by decide) ?_
  refine wpAny_bind (check_bound_init F.excBase_ValueError.toExcCallFacts hC he rfl ?_)
  refine wpAny_bind (wpAny_pure (wpAny_pure ?_))
  refine ⟨plainId_quiet F.excBase_ValueError.init.plain _, codeAny_builtin F.excBase_ValueError.initEntry ?_⟩
  exact exc_init_tree (cls := .ref C) (t0 := t0) (dv := none) (c2 := .none) (c3 := .none) (b4 := .bool false) he hrest fun h' k e' _ => hq h' _ k e'
end
section
variable {prog : Program} {w : World} {A : Around} {E : Value → Shared → Prop} {R : Result → Shared → Prop} {s : Shared} {K : Frag} {mg mb : Str → Option Value} {C fI cc cda : Addr} {xn f m : Str}
theorem ldF {M : Model} {s : Shared} {env : Env} {m : Str → Option Value} {x : Str} {pos : Pos} {v : Value} {Q : Value → Shared → Prop} {A : Around} {E : Value → Shared → Prop} (hn : s.heap.Ns env.locals m) (hv : m x = some v) (h : Q v s)
    (hk : env.scope.kind = .function) (hl : env.kindOf x = some .local) (hd : (x == ("__debug__" : Str)) = false) :
    wpAny M A (eval (.Name x pos) env) Q E s := wpAny_Name (wpAny_loadName_local hk hl hn hv h) hd
theorem xc_init (T : Txt prog K xn f m C fI cc cda) {x t0 : Addr} {v : Value} (X : K.In s.heap) (hlim : s.heap.NoLimit) (G : s.heap.Ns mainGlobals mg) (gS : mg "super" = none) (B : s.heap.Ns builtinsNs mb) (bS : mb "super" = some (.type "super"))
    (hx : s.heap.get? x = some (excO C t0)) (hnx : K.lookup x = none) (hroom : A.depth < recursionLimit)
    (hq : ∀ h' tk dx t1, InitEnd s.heap h' x C dx t1 f v → R (.ok (.ret .none)) { s with heap := h', toks := tk }) :
    codeAny (model prog w) A (.call (.ref fI) ⟨[.ref x, v], []⟩) R s := by
  obtain ⟨oc, od, doc, pm, an, ct, osl, qual, p, ho, hcd, hline, hbind⟩ := T.fn
  obtain ⟨nm, q, N, bs, bm, sn, sub, ab, col, dd, k0, k1, k2, k3, k5, hC, hbm, hal⟩ := T.cls
  obtain ⟨⟨f1, f2⟩, f3, f4⟩ := T.fne
  have hcl : clsIn K C = some { name := nm, bases := bs, mro := .ref C :: bm, ns := N, qualname := q, hasDict := true, slotNames := sn, subclasses := sub, abstract := ab, collection := col, hasDel := false } := by unfold clsIn; rw [hC] <;> rfl
  have lS : (iS f).names.lookup ("self" : Str) = some .local := rfl
  have lF : (iS f).names.lookup f = some .local := by
    show (match f == ("self" : Str) with | true => some NameKind.local | false => (match f == f with | true => some NameKind.local | false => _)) = _
    rw [f1, beq_self_eq_true]
  have lC : (iS f).names.lookup ("__class__" : Str) = some .free := by
    have e : (("__class__" : Str) == f) = false := by
      rw [beq_eq_false_iff_ne] at f2 ⊢
      exact fun z => f2 z.symm
    show (match ("__class__" : Str) == ("self" : Str) with | true => some NameKind.local | false => (match ("__class__" : Str) == f with | true => some NameKind.local | false => _)) = _
    rw [e]
    rfl
  have lU : (iS f).names.lookup ("super" : Str) = some .globalImplicit := by
    have e : (("super" : Str) == f) = false := by
      rw [beq_eq_false_iff_ne] at f3 ⊢
      exact fun z => f3 z.symm
    show (match ("super" : Str) == ("self" : Str) with | true => some NameKind.local | false => (match ("super" : Str) == f with | true => some NameKind.local | false => _)) = _
    rw [e]
    rfl
  refine ks_codeAny_call_defAt (fd := ksFn "__init__" qual (iA f p) (iB m f p) (iS f) .none .none doc pm an (.ref cda) ct cc) (body := iB m f p) hroom (X _ _ ho) rfl hlim (codeRec_of X hcd) rfl (hbind s _ _) ?_ ?_ (fun h₁ hns hk₁ => ?_) rfl rfl rfl
  · intro y hy
    have hy' : y ∈ (iS f).names := hy
    simp only [iS, List.mem_cons, List.not_mem_nil, or_false] at hy'
    rcases hy' with rfl | rfl | rfl | rfl <;> exact fun z => nomatch z
  · intro y hy
    rcases List.mem_cons.mp hy with rfl | hy
    · exact lS
    · rw [List.mem_singleton.mp hy]
      exact lF
  have mS : ([("self", Value.ref x), (f, v)] : List (Str × Value)).reverse.lookup ("self" : Str) = some (Value.ref x) := by
    show (match ("self" : Str) == f with | true => some v | false => (match ("self" : Str) == ("self" : Str) with | true => some (Value.ref x) | false => none)) = _
    have e : (("self" : Str) == f) = false := by
      rw [beq_eq_false_iff_ne] at f1 ⊢
      exact fun z => f1 z.symm
    rw [e]
    rfl
  have mF : ([("self", Value.ref x), (f, v)] : List (Str × Value)).reverse.lookup f = some v := by
    show (match f == f with | true => some v | false => _) = _
    rw [beq_self_eq_true]
  show wpAt _ _ (.func (iB m f p) (ksEnv qual (iS f) s.heap.objs.size fI (.ref cda) cc)) (execs (iB m f p) (ksEnv qual (iS f) s.heap.objs.size fI (.ref cda) cc)) _ _ _
  have X₁ : K.In h₁ := X.keeps hk₁
  have hx₁ := hk₁ _ _ hx
  have I₁ : W.InstAt h₁ x (excO C t0) C none := ⟨hx₁, rfl, rfl, trivial⟩
  obtain ⟨ccl, cdd, cvs, ccs, file, tf, hcode, hvs, hfile⟩ := T.code
  obtain ⟨cl, cld, csl, hcell⟩ := T.cell
  have hD1 : h₁.get? C = some (excClassObj nm q C N bs bm true sn sub ab col dd k0 k1 k2 k3 k5 "ValueError.__new__") := X₁ _ _ hC
  unfold iB
  refine ks_wpAt_execs_cons (ks_wpAt_Expr_any ?_)
  -- super().__init__(m)
  rw [arm_eval_Call]
  refine wpAt_bind (ks_wpAt_mono (ks_wpAt_super_base (env := ksEnv qual (iS f) s.heap.objs.size fI (.ref cda) cc) (ar := { arg := "self", annotation := none, pos := p.p1 }) lU lC rfl rfl (X₁ _ _ ho) rfl rfl rfl (X₁ _ _ hcode) rfl hvs hfile T.htop
    (Q := fun ov s₁ => ∃ h₂, s₁ = { s with heap := h₂, toks := s.toks + 2 } ∧ ov = .ref h₁.objs.size ∧ h₂.get? h₁.objs.size = some (ks_superObj C x C) ∧ ∀ y o, h₁.get? y = some o → h₂.get? y = some o) ?_) (fun ov s₁ hov => ?_) fun _ _ z => z)
  · refine ks_loadName_global rfl lU (loadGlobal_builtin (env := ksEnv qual (iS f) s.heap.objs.size fI (.ref cda) cc) (G.keeps hk₁) gS (B.keeps hk₁) bS ⟨rfl, ?_⟩)
    refine wpAny_loadName_free rfl lC rfl ⟨_, X₁ _ _ hcell, rfl⟩ ?_
    refine wpAny_loadName_local rfl lS hns mS ?_
    refine ks_wpAny_isType_cls hD1 rfl ⟨rfl, ?_⟩
    refine ks_wpAny_call_super hD1 rfl hx₁ rfl (fun c e => by cases e) (looks_subIn X₁ T.seC) (fun h₂ e k => ⟨h₂, rfl, rfl, e, k⟩)
  obtain ⟨h₂, rfl, rfl, hso, hk₂⟩ := hov
  have X₂ : K.In h₂ := X₁.keeps hk₂
  have hx₂ := hk₂ _ _ hx₁
  have hC₂ := hk₂ _ _ hD1
  have hnC : x ≠ C := fun z => by
    rw [z] at hnx
    rw [hnx] at hC
    cases hC
  refine wpAt_of_wpAny (wpAny_bind (wpAny_standAt ?_))
  rw [L2.mcall_line rfl hline]
  refine wpAny_bind (wpAny_holding ?_)
  have hmr : Looks (model prog w) h₂ (mroOf (.ref C)) (.ref C :: bm) := fun A Q E s k q => wpAny_bind ((looks_clsIn X₂ hcl) A _ E s k (wpAny_pure q))
  refine kxs_getMethod kxs_ValueError hso (looks_opaque X₂ T.opq) hmr (by simp [List.dropWhile_cons]) X₂ hal (Looks.andThen (fun A Q E s k q => wpAny_typeOf_ref (k _ _ hx₂) q) (looks_subIn X₂ T.veC)) hnC rfl ?_
  have one : [Value.str m (s.toks + 2 + 1)].length ≤ sizeLine := by
    rw [sizeLine_eq]
    exact (by decide : 1 ≤ 16777216)
  let h₃ := h₂.push (kxs_mw "ValueError.__init__" x)
  have hk₃ : ∀ y o, h₂.get? y = some o → h₃.get? y = some o := fun y o e => Heap.get?_push_of_some _ e
  have hu : h₃.get? h₂.objs.size = some (kxs_mw "ValueError.__init__" x) := Heap.get?_push_at rfl rfl
  refine kxs_callWith (i := "ValueError.__init__") (x := x) rfl (evalArgs_plain ?_)
  show wpAny _ _ (spliced ((false, eval (.Constant (.str m) p.j p.a4) (ksEnv qual (iS f) s.heap.objs.size fI (.ref cda) cc)) :: backTo p.a5 (starEach [] (ksEnv qual (iS f) s.heap.objs.size fI (.ref cda) cc)))) _ _ _
  refine Calls.spliced_cons (Calls.Constant_str (Calls.spliced_nil ⟨hu, ?_⟩))
  have hx₃ := hk₃ _ _ hx₂
  refine call_vw (hk₃ _ _ hC₂) hx₃ hu one fun h₄ t1 hk₄ hx₄ => ?_
  have xL : s.heap.objs.size ≠ x := Nat.ne_of_gt (Heap.lt_size hx)
  have keep : ∀ b o, b ≠ x → h₁.get? b = some o → h₄.get? b = some o := fun b o hb e => hk₄ b o hb (hk₃ _ _ (hk₂ _ _ e))
  have X₄ : K.In h₄ := kept_but X₁ hnx keep
  have hns₄ : h₄.Ns s.heap.objs.size fun y => ([("self", Value.ref x), (f, v)] : List (Str × Value)).reverse.lookup y := hns.at fun o q => keep _ _ xL q
  -- self.f = f
  show wpAt _ _ _ (execs _ _) _ _ _
  refine wpAt_of_wpAny (wpAny_execs_cons (plainObj_wpAny_Assign_Attribute ?_))
  refine ldF hns₄ mF (ldF hns₄ mS ?_ rfl lS rfl) rfl lF f4
  refine set_plain X₄ (ox := excO C t1) (od := none) ⟨hx₄, rfl, rfl, trivial⟩ T.sa ?_
  refine exc_osa X₄ hx₄ hcl (show refsVE (.ref C :: bm) = true from hbm) rfl T.noN (fun h₅ tk₅ dx k₅ dn dne hx₅ hn₅ => ?_)
  show wpAny _ _ (execs _ _) _ _ _
  refine wpAny_execs_nil (hq h₅ tk₅ dx t1 ⟨fun b o hb e => k₅ b o hb (keep b o hb (hk₁ b o e)), hx₅, ?_, dne, hn₅⟩)
  have z : s.heap.objs.size < h₄.objs.size := hns₄.lt
  exact Nat.le_of_lt (Nat.lt_of_lt_of_le z dn)
/-- a made one -/
structure Made (h h' : Heap) (e C d : Addr) (f : Str) (v : Value) : Prop where
  keep : ∀ b o, h.get? b = some o → h'.get? b = some o
  new : h.objs.size ≤ e
  obj : ∃ oe vs, h'.get? e = some oe ∧ oe.cls = .ref C ∧ oe.dict = some d ∧ oe.data = .fields vs ∧ vs[1]? = some .none ∧ vs[2]? = some .none
  dbig : h.objs.size ≤ d
  dne : d ≠ e
  ns : h'.Ns1 d (fun y => if y = f then some v else none)
theorem xc_made (T : Txt prog K xn f m C fI cc cda) {v : Value} (X : K.In s.heap) (hlim : s.heap.NoLimit) (G : s.heap.Ns mainGlobals mg) (gS : mg "super" = none) (B : s.heap.Ns builtinsNs mb) (bS : mb "super" = some (.type "super")) (hroom : A.depth + 1 < recursionLimit)
    (hq : ∀ h' tk e d, Made s.heap h' e C d f v → R (.ok (.ret (.ref e))) { s with heap := h', toks := tk }) :
    codeAny (model prog w) A (.call (.ref C) ⟨[v], []⟩) R s := by
  obtain ⟨nm, q, N, bs, bm, sn, sub, ab, col, dd, k0, k1, k2, k3, k5, hC, hbm, _⟩ := T.cls
  obtain ⟨hp, g, dr, tk, os⟩ := s
  have k : ∀ b o, hp.get? b = some o → ((hp.push (kdv_tup [v])).push (excO C hp.objs.size)).get? b = some o := fun b o e => Heap.get?_push_of_some _ (Heap.get?_push_of_some _ e)
  have hget : ((hp.push (kdv_tup [v])).push (excO C hp.objs.size)).get? (hp.objs.size + 1) = some (excO C hp.objs.size) := by heap_get
  have one : [v].length ≤ sizeLine := by
    rw [sizeLine_eq]
    exact (by decide : 1 ≤ 16777216)
  have hnx : K.lookup (hp.objs.size + 1) = none := by
    cases e : K.lookup (hp.objs.size + 1) with
    | none => rfl
    | some o =>
      have z : hp.get? (hp.objs.size + 1) = some o := X _ _ e
      exact absurd (Nat.lt_of_succ_lt (Heap.lt_size z)) (Nat.lt_irrefl _)
  refine call_own F.excBase_ValueError (fun X => refsVE_contains X bm hbm) (X _ _ hC) (looks_findIn X T.iC) (fun self => bind_fn X self T.tC) one ?_
  refine xc_init (s := ⟨(hp.push (kdv_tup [v])).push (excO C hp.objs.size), g, dr, tk, os⟩) T (X.keeps k) (hlim.keeps k) (G.keeps k) gS (B.keeps k) bS hget hnx ?_ fun h' tk' dx t1 ⟨k', hx, dn, dne, hns⟩ => ?_
  · show A.depth + 1 < recursionLimit
    exact hroom
  · have old : ∀ b o, hp.get? b = some o → h'.get? b = some o := fun b o e => k' b o (Nat.ne_of_lt (Nat.lt_succ_of_lt (Heap.lt_size e))) (k b o e)
    have z : hp.objs.size + 1 + 1 ≤ dx := by
      first
        | (simpa only [Heap.size_push] using dn)
        | exact dn
        | (have q := dn; rw [Heap.size_push, Heap.size_push] at q; exact q)
    exact ⟨rfl, hq h' tk' (hp.objs.size + 1) dx ⟨old, Nat.le_succ _, ⟨_, _, hx, rfl, rfl, rfl, rfl, rfl⟩, Nat.le_trans (Nat.le_trans (Nat.le_succ _) (Nat.le_succ _)) z, dne, hns⟩⟩
end
end Xc
end PySem
end

section
set_option Elab.async false
set_option linter.all false
set_option maxRecDepth 100000
set_option maxHeartbeats 2000000
/-! Px2: raise of an own exception, try with clauses, what a suite reads. -/
namespace Pu
open PySem PySem.Spec PyProof.Rows L2

theorem lookup_one {v : V} {v' : Value} {f : Str} (r : RelV v v') (g : Str) : RelO (List.lookup g [(f, v)]) (if g = f then some v' else none) := by
  by_cases hw : g = f
  · subst hw
    rw [if_pos rfl]
    have q : List.lookup g [(g, v)] = some v := by simp [List.lookup]
    rw [q]
    exact r
  · rw [if_neg hw]
    have qw : (g == f) = false := by simpa using hw
    have q2 : List.lookup g [(f, v)] = none := by simp [List.lookup, qw]
    rw [q2]
    trivial
section
variable {X : Cx} {C fI cc cda : Addr}
/-- x(e) -/
def tMkX (C : Addr) (f : Str) (ta : TE) : St → Hp → XK → Prop := fun σ H Q => tCons ta tNil σ H fun vs H1 => ∃ v, vs = [v] ∧ ∀ d, H1 d = none → Q (.ref C) (some d) (upd H1 d (.xd [(f, v)]))
theorem pmk_x {x f m : Str} {a : Expr} {ta : TE} {p pos : Pos} {k : Nat} (T : PySem.Xc.Txt X.prog X.K x f m C fI cc cda) (gC : X.mg x = some (.ref C)) (gS : X.mg "super" = none) (hr : Room k X.A) (ha : PE X a ta) (hg : Gl X x := by rfl) (hdb : (x == ("__debug__" : Str)) = false := by decide)
    (he : starEach (a :: []) X.env = (false, eval a X.env) :: starEach [] X.env := by rfl) (hpl : (backTo pos (starEach [] X.env)).any (·.1) = false := by rfl) :
    L2N.PMk X (.Call (.Name x p) [a] [] pos) (tMkX C f ta) := by
  intro pins s σ H Q I h
  refine wpAny_Call_Name_kw (ld_glob I hg gC ?_ hdb)
  have hA : PA X [a] (tCons ta tNil) := pa_cons ha pa_nil he
  refine PySem.W.callWith_K (h₀ := X.base) I.ok.mod.kin T.kC (thn (hA.run pos pins s σ H _ I h) fun us s1 hh => ?_) he hpl
  obtain ⟨vs, H1, I1, r1, v, ev, q1⟩ := hh
  subst ev
  refine ⟨I1.kIn, ?_⟩
  cases r1 with
  | cons rv rn =>
    rename_i v' us'
    cases rn
    show wpAny _ _ (call (.ref C) [v']) _ _ _
    have hlim := I1.nolimit
    obtain ⟨mb, hB, bS⟩ := I1.ok.mod.blt
    have G1 := I1.ok.mod.glob.keeps I1.bk
    have B1 := hB.keeps I1.bk
    obtain ⟨hp, g, dr, tk, os⟩ := s1
    refine wpAny_call (PySem.Xc.xc_made T I1.kIn hlim G1 gS B1 ((bS "super" (by decide)).trans (by decide +kernel)) (by have := hr.dp; omega) fun h' tk' e d M => ?_)
    show L2N.MkP X pins σ Q (.ref e) ⟨h', g, dr, tk', os⟩
    obtain ⟨oe, fv, hoe, hc, hd, hdat, h1, h2⟩ := M.obj
    have hns := M.ns
    obtain ⟨G', g1, g2⟩ := restrict h' fun b => decide (b ≠ e)
    have gk : ∀ b, b ≠ e → G'.get? b = h'.get? b := fun b hb => g1 b (decide_eq_true hb)
    have ge : G'.get? e = none := g2 e (by simp)
    have old : ∀ b o, hp.get? b = some o → G'.get? b = some o := fun b o q => (gk b (Nat.ne_of_lt (Nat.lt_of_lt_of_le (Heap.lt_size q) M.new))).trans (M.keep b o q)
    have ob : ObjOk X.prog X.w (upd H1 d (.xd [(f, v)])) G' d (.xd [(f, v)]) :=
      ⟨_, hns.at (fun o q => (gk d M.dne).trans q), fun g => lookup_one rv g⟩
    have J : Inv X pins σ (upd H1 d (.xd [(f, v)])) ⟨G', g, dr, tk', os⟩ := I1.laid (t' := tk') old M.dbig ob
    refine ⟨e, oe, fv, ⟨G', g, dr, tk', os⟩, _, .ref C, some d, rfl, J, fun b o q => ?_, ge, hoe, ⟨hc, hd, fun vs e => by rw [hdat] at e; cases e; exact h2⟩, hdat, h1, ?_, rfl, I1.bare, raises_own T.exC T.tyC, q1 d (I1.hok.fresh M.dbig)⟩
    · by_cases hb : b = e
      · have q' : G'.get? b = some o := q
        rw [hb, ge] at q'; cases q'
      · exact (gk b hb).symm.trans q
    · rw [upd_ne (Ne.symm M.dne)]
      exact I1.hok.fresh M.new
end
/-! ### raise -/
def sRaise (x f : Str) (fe : SE) : SS := eS fe fun d ρ => if atom d = true then .ex x [(f, d)] ρ else .bad
theorem atom_rp {K : PySem.W.Frag} {S : Hp} {v : V} {d : D} (h : Rp K S v d) (a : atom d = true) : v = scV d := by
  cases h <;> first
    | rfl
    | cases a
section
variable {X : Cx} {Z : Sx} {L : Lp} {ω ωn : List Nat} {e : Expr} {fe : SE} {x f m : Str} {p pos pos2 : Pos} {k : Nat} {fI cc cda : Addr}
theorem s_raise (T : PySem.Xc.Txt X.prog X.K x f m (He.ga X.K x) fI cc cda) (gC : X.mg x = some (.ref (He.ga X.K x))) (gS : X.mg "super" = none) (hr : Room k X.A) (tk : L2N.Takes X Z.W) (hc : X.calm = true) (he : RP X Z ω e fe) (hg : Gl X x := by rfl) (hdb : (x == ("__debug__" : Str)) = false := by decide)
    (hs : starEach (e :: []) X.env = (false, eval e X.env) :: starEach [] X.env := by rfl) (hpl : (backTo pos (starEach [] X.env)).any (·.1) = false := by rfl) :
    RS X Z L ω ωn (.Raise (some (.Call (.Name x p) [e] [] pos)) none pos2) (sRaise x f fe) :=
  PS.of (L2N.ps_raise hc tk (pmk_x T gC gS hr he hg hdb hs hpl)) fun D σ H h => tS.expr h fun v S0 H0 S H S1 H1 ρ P d G g r G1 c => by
    split at c
    · rename_i ha
      refine ⟨v, rfl, fun dd hd => ?_⟩
      have r' : Rp X.K S1 v d := r
      have n1 : S1 dd = none := G1.g.sh.free hd
      have G2 : Grow S1 H1 (upd S1 dd (.xd [(f, v)])) (upd H1 dd (.xd [(f, v)])) := .new G1.g.sh hd
      obtain ⟨S3, P3, G3, hs3⟩ := (G1.grow G2).weak (wk_zero (ω := ω))
      rw [zeros] at G3
      refine c (some dd) σ S3 _ P3 G3 (.inr ⟨dd, rfl, ?_⟩)
      rw [show fldV [(f, d)] = [(f, v)] by rw [atom_rp r' ha]; rfl]
      exact hs3 _ _ upd_same
    · exact c.elim
end
end Pu
end

section
set_option Elab.async false
set_option linter.all false
set_option maxRecDepth 100000
set_option maxHeartbeats 2000000
/-! Px3: try with several clauses, each with a name or none. -/
namespace Pu
open PySem PySem.Spec PyProof.Rows L2

def setE (i : Option Nat) (a : Addr) (σ : St) : St := match i with
  | some j => σ.set j (some (.ref a))
  | none => σ
def endE (i : Option Nat) (D : Ends) : Ends := match i with
  | some j => { nx := fun σ H => D.nx (σ.set j none) H, bk := fun σ H => D.bk (σ.set j none) H, ct := fun σ H => D.ct (σ.set j none) H, rt := D.rt }
  | none => D
abbrev Clause : Type := Value × Option Nat × (Addr → Value → Option Addr → TS)
/-- what the clauses wish of an exception of the body -/
def wCl (K : PySem.W.Frag) (Wout : WX) (D : Ends) : List Clause → WX
  | [] => Wout
  | (c, i, ts) :: r => fun cls d σ H => ∃ b, PySem.W.exmOne K cls c = some b ∧ (b = true → ∀ a, H a = none → ts a cls d (endE i D) (setE i a σ) H) ∧ (b = false → wCl K Wout D r cls d σ H)
inductive ClOk (X : Cx) : List ExceptHandler → List Clause → Prop
  | nil : ClOk X [] []
  | as {x n : Str} {c : Value} {i : Nat} {ts : Addr → Value → Option Addr → TS} {b₀ : Stmt} {suite : List Stmt} {np pos' : Pos} {hds : List ExceptHandler} {l : List Clause} (hc : Names X x c) (hN : X.N.Nodup) (hi : X.N[i]? = some n) (hln : X.env.kindOf n = some .local)
      (hsu : ∀ (a : Addr) (oe : Obj) (cls : Value) (d : Option Addr) (pn : List (Addr × Obj)), L2N.Zn cls d oe → (∃ vs, oe.data = .fields vs) → PSs (X.suite a ((a, oe) :: pn)) (b₀ :: suite) (ts a cls d)) (r : ClOk X hds l) :
      ClOk X (.ExceptHandler (some (.Name x np)) (some n) (b₀ :: suite) pos' :: hds) ((c, some i, ts) :: l)
  | no {x : Str} {c : Value} {ts : Addr → Value → Option Addr → TS} {b₀ : Stmt} {suite : List Stmt} {np pos' : Pos} {hds : List ExceptHandler} {l : List Clause} (hc : Names X x c)
      (hsu : ∀ (a : Addr) (oe : Obj) (cls : Value) (d : Option Addr) (pn : List (Addr × Obj)), L2N.Zn cls d oe → (∃ vs, oe.data = .fields vs) → PSs (X.suite a ((a, oe) :: pn)) (b₀ :: suite) (ts a cls d)) (r : ClOk X hds l) :
      ClOk X (.ExceptHandler (some (.Name x np)) none (b₀ :: suite) pos' :: hds) ((c, none, ts) :: l)
section
variable {X : Cx} {body : List Stmt} {h₀ : ExceptHandler} {hds : List ExceptHandler} {l : List Clause} {pos : Pos} {tb : WX → TS} {Wout : WX}
open L2N in
theorem ps_try_x (hs : X.stack = X.env :: X.outer) (hf : X.env.frame = some X.env.locals) (tk : L2N.Takes X Wout)
    (hb : ∀ (W : WX) (pn : List (Addr × Obj)) (xe : Value → Shared → Prop), L2N.Takes (X.tr pn xe) W → PassesOwn (model X.prog X.w) X.A X.env xe → PSs (X.tr pn xe) body (tb W))
    (hh : ClOk X (h₀ :: hds) l) : PS X (.Try body (h₀ :: hds) [] [] pos) (fun D σ H => tb (wCl X.K Wout D l) D σ H) := by
  refine ⟨fun pins s σ H D I h => ?_⟩
  have ok := I.ok
  have hfr : X.A.frames = some (X.env :: X.outer) := by rw [ok.frames, hs]
  refine wpAny_Try_except ?_
  refine wpAny_mono ((hb (wCl X.K Wout D l) (X.pn ++ pins) (fun e s₁ => wpAny (model X.prog X.w) X.A (noteFrame e X.env) (fun _ s₂ => wpAny (model X.prog X.w) X.A (setFlight e none) (fun _ s₃ =>
    wpAny (model X.prog X.w) X.A (handleBy e X.env (h₀ :: hds)) (SP X pins D) X.xe s₃) X.xe s₂) X.xe s₁) (fun u s' xx => ?_) PassesOwn.looking).run [] s σ H D (I.toTry _) h) (fun f s1 hsp => ?_) (fun e s1 he => he)
  · obtain ⟨a, B, sI, pins', σ', H', cls, d, rfl, J', nb, up, sky, na, os, ag, w⟩ := xx
    have J : Inv X pins σ' H' sI := J'.ofTry ok
    have sky' : Sky B (X.env :: X.outer) a (L2N.Zn cls d) X.env.locals s'.heap := by rw [← hs]; exact sky
    show wpAny (model X.prog X.w) X.A (noteFrame (.ref a) X.env) _ _ _
    refine L2N.Sky.land L2N.Zn.steady hfr hf sky' fun h3 fl3 up3 => ?_
    have J3 : Inv X pins σ' H' { s' with heap := h3 } := J.landed nb fl3.1 (up.trans up3) os ag
    obtain ⟨oe3, vs3, he3, hz3, hd3⟩ := fl3.there
    have notFr : ∀ {h : Heap} {o : Obj} {vs : Array Value}, h.FunFrames B (X.env :: X.outer) → h.get? a = some o → o.data = .fields vs → a ∉ frs (X.env :: X.outer) := fun {h o vs} ff e dd hm => by
      obtain ⟨_, o', e', hnf⟩ := ff.mem hm
      rw [e] at e'; cases e'
      exact hnf _ dd
    have nfr := notFr fl3.2.2.1 he3 hd3
    have nL : a ≠ X.env.locals := fun z => nfr (List.mem_filterMap.mpr ⟨X.env, List.mem_cons_self, by rw [hf, z]⟩)
    have nF : a ∉ X.fs := fun hm => by
      obtain ⟨e, he, q⟩ := List.mem_filterMap.mp hm
      exact nfr (List.mem_filterMap.mpr ⟨e, List.mem_cons_of_mem _ he, q⟩)
    have S3 := J3.suite he3 hd3 na nL nF
    have go : ∀ {hds' : List ExceptHandler} {l' : List Clause}, ClOk X hds' l' → wCl X.K Wout D l' cls d σ' H' →
        wpAny (model X.prog X.w) X.A (handleBy (.ref a) X.env hds') (SP X pins D) X.xe { s' with heap := h3 } := by
      intro hds' l' hk
      have LT : PySem.W.Looks (model X.prog X.w) h3 (typeOf (.ref a)) cls := fun A Q E s k q => wpAny_typeOf_ref (k _ _ he3) (by rw [hz3.1]; exact q)
      have test : ∀ {x : Str} {c : Value} {np : Pos} {Q : Value → Shared → Prop} {E : Value → Shared → Prop}, Names X x c → Q c { s' with heap := h3 } → wpAny (model X.prog X.w) (X.A.mark (some (.ref a))) (eval (.Name x np) X.env) Q E { s' with heap := h3 } := fun {x c np Q E} hc q => by
        obtain ⟨hg, hdbg, hm | ⟨hm, hv, hnn⟩⟩ := hc
        · exact ld_glob (X := X.suite a ((a, oe3) :: (X.pn ++ pins))) S3 hg hm q hdbg
        · exact ld_blt (X := X.suite a ((a, oe3) :: (X.pn ++ pins))) S3 hg hm hv q hnn hdbg
      induction hk with
      | nil =>
        intro w
        refine wpAny_handleBy_nil ?_
        obtain ⟨k1, k2, k3, oe, vs, T, oT, ts', he, hz, hd, h1, hr⟩ := id fl3
        unfold PySem.passOn
        refine wpAny_bind (wpAny_field he hd h1 ?_)
        rw [if_neg (show ¬ ((Value.ref T == Value.none) = true) from by simp)]
        have fin : wpAny (model X.prog X.w) X.A (setFlight (.ref a) X.env.frame) (fun _ s4 => wpAny (model X.prog X.w) X.A (throw (.ref a) : Sem Flow) (SP X pins D) X.xe s4) X.xe { s' with heap := h3 } := by
          rw [hf]
          refine HandSPX.setFlight_upZ fl3 fun h4 hh4 up4 => wpAny_throw (tk _ _ ?_)
          exact ⟨a, B, sI, pins, σ', H', cls, d, rfl, J, nb, (up.trans up3).trans up4, .inr (.inr (by rw [hs]; exact hh4)), na, os, ag, w⟩
        first
          | exact wpAny_bind (wpAny_pure (wpAny_bind fin))
          | exact wpAny_bind fin
      | @as x n c i ts b₀ suite np pos' hds2 l2 hc hN hi hln hsu r ih =>
        intro w
        obtain ⟨b, hb1, hyes, hno⟩ := w
        refine wpAny_handleBy_cons (codeAny_handlers_test ?_) (by intro q; cases q)
        have LM := PySem.W.exm_one (M := model X.prog X.w) (J3.kIn) LT hb1
        refine test hc (LM.here ?_)
        cases b with
        | true =>
          refine codeAny_handlers_suite_as ?_
          refine HandSPX.lands_againZ fl3 fun h4 fl4 up4 => ?_
          have J4 : Inv X pins σ' H' { s' with heap := h4 } := J.landed nb fl4.1 ((up.trans up3).trans up4) os ag
          obtain ⟨oe4, vs4, he4, hz4, hd4⟩ := fl4.there
          have S4 := J4.suite he4 hd4 na nL nF
          refine store_ok (X := X.suite a ((a, oe4) :: (X.pn ++ pins))) (v := .ref a) S4 hN hi (.inl hln) rfl (fun s5 S5 => ?_) (.inr hln)
          refine wpAny_mono ((hsu a oe4 cls d (X.pn ++ pins) hz4 ⟨_, hd4⟩).run [] s5 _ H' _ S5 (hyes rfl a na)) (fun f s6 hsp => ?_) (fun _ _ z => False.elim z)
          have end_ : ∀ {σ6 : St} {H6 : Hp} {Q : Shared → Prop}, Inv (X.suite a ((a, oe4) :: (X.pn ++ pins))) [] σ6 H6 s6 → (∀ s7, Inv X pins (σ6.set i none) H6 s7 → Q s7) →
              wpAny (model X.prog X.w) X.A (do bindName X.env n .none; unbindBehindTheSuite X.env n pos') (fun _ s7 => Q s7) X.xe s6 := fun {σ6 H6 Q} S6 hq => gone_ok (S6.unsuite ok) hN hi hln hq
          cases f with
          | next =>
            obtain ⟨σ6, H6, S6, q6⟩ := hsp
            exact end_ S6 fun s7 J7 => ⟨_, _, J7, q6⟩
          | brk =>
            obtain ⟨σ6, H6, S6, q6⟩ := hsp
            exact end_ S6 fun s7 J7 => ⟨_, _, J7, q6⟩
          | cont =>
            obtain ⟨σ6, H6, S6, q6⟩ := hsp
            exact end_ S6 fun s7 J7 => ⟨_, _, J7, q6⟩
          | ret u =>
            obtain ⟨v6, σ6, H6, S6, r6, q6⟩ := hsp
            exact end_ S6 fun s7 J7 => ⟨_, _, _, J7, r6, q6⟩
        | false =>
          show wpAny _ X.A (handleBy (.ref a) X.env hds2) _ _ _
          exact ih (hno rfl)
      | @no x c ts b₀ suite np pos' hds2 l2 hc hsu r ih =>
        intro w
        obtain ⟨b, hb1, hyes, hno⟩ := w
        refine wpAny_handleBy_cons (codeAny_handlers_test ?_) (by intro q; cases q)
        have LM := PySem.W.exm_one (M := model X.prog X.w) (J3.kIn) LT hb1
        refine test hc (LM.here ?_)
        cases b with
        | true =>
          refine codeAny_handlers_suite ?_
          refine HandSPX.lands_againZ fl3 fun h4 fl4 up4 => ?_
          have J4 : Inv X pins σ' H' { s' with heap := h4 } := J.landed nb fl4.1 ((up.trans up3).trans up4) os ag
          obtain ⟨oe4, vs4, he4, hz4, hd4⟩ := fl4.there
          have S4 := J4.suite he4 hd4 na nL nF
          refine wpAny_mono ((hsu a oe4 cls d (X.pn ++ pins) hz4 ⟨_, hd4⟩).run [] _ _ H' _ S4 (hyes rfl a na)) (fun f s6 hsp => ?_) (fun _ _ z => False.elim z)
          cases f with
          | next =>
            obtain ⟨σ6, H6, S6, q6⟩ := hsp
            exact ⟨_, _, S6.unsuite ok, q6⟩
          | brk =>
            obtain ⟨σ6, H6, S6, q6⟩ := hsp
            exact ⟨_, _, S6.unsuite ok, q6⟩
          | cont =>
            obtain ⟨σ6, H6, S6, q6⟩ := hsp
            exact ⟨_, _, S6.unsuite ok, q6⟩
          | ret u =>
            obtain ⟨v6, σ6, H6, S6, r6, q6⟩ := hsp
            exact ⟨_, _, _, S6.unsuite ok, r6, q6⟩
        | false =>
          show wpAny _ X.A (handleBy (.ref a) X.env hds2) _ _ _
          exact ih (hno rfl)
    exact go hh w
  · cases f with
    | next =>
      obtain ⟨σ', H', J', q⟩ := hsp
      exact wpAny_execs_nil ⟨σ', H', J'.ofTry ok, q⟩
    | brk =>
      obtain ⟨σ', H', J', q⟩ := hsp
      exact ⟨σ', H', J'.ofTry ok, q⟩
    | cont =>
      obtain ⟨σ', H', J', q⟩ := hsp
      exact ⟨σ', H', J'.ofTry ok, q⟩
    | ret u =>
      obtain ⟨v, σ', H', J', r, q⟩ := hsp
      exact ⟨v, σ', H', J'.ofTry ok, r, q⟩
end
end Pu
end

section
set_option Elab.async false
set_option linter.all false
set_option maxRecDepth 100000
set_option maxHeartbeats 2000000
/-! Px4: try by data; what a suite reads; defs. -/
namespace Pu
open PySem PySem.Spec PyProof.Rows L2

abbrev SbC : Type := Str → List (Str × D) → SS
abbrev ClsD : Type := Str × Option Nat × SbC
def clr (i : Option Nat) (ρ : Rho) : Rho := match i with
  | some j => ρ.set j none
  | none => ρ
def tryCl (tbl : Str → Str → Option Bool) (c : Str) (fs : List (Str × D)) : List ClsD → SS
  | [], ρ => .ex c fs ρ
  | (y, i, sb) :: r, ρ => match tbl c y with
    | some true => (match sb c fs (clr i ρ) with
      | .rt d => .rt d
      | _ => .bad)
    | some false => tryCl tbl c fs r ρ
    | none => .bad
def sTry (tbl : Str → Str → Option Bool) (fb : SS) (cl : List ClsD) : SS := fun ρ => match fb ρ with
  | .ex c fs ρ' => tryCl tbl c fs cl ρ'
  | r => r
def Jof (i : Option Nat) (a : Addr) (d : Option Addr) (fs : List (Str × D)) : Option Exi := i.map fun j => ⟨j, a, d, fs⟩
abbrev Wno : WX := fun _ _ _ _ => False
def tsOf (K : PySem.W.Frag) (L : Lp) (n : Nat) (ωn : List Nat) (q : ClsD) : Clause := (.ref (He.ga K q.1), q.2.1, fun a cls d D σ H => ∃ c fs, cls = .ref (He.ga K c) ∧ tS K ⟨Wno, Jof q.2.1 a d fs⟩ L (List.replicate n 0) ωn (q.2.2 c fs) D σ H)
inductive ClD (X : Cx) (L : Lp) (n : Nat) (ωn : List Nat) : List ExceptHandler → List ClsD → Prop
  | nil : ClD X L n ωn [] []
  | as {x nm : Str} {i : Nat} {sb : SbC} {b₀ : Stmt} {suite : List Stmt} {np pos' : Pos} {hds : List ExceptHandler} {l : List ClsD} (gC : X.mg x = some (.ref (He.ga X.K x))) (hN : X.N.Nodup) (hi : X.N[i]? = some nm) (hln : X.env.kindOf nm = some .local) (hin : i < n) (hg : Gl X x) (hdb : (x == ("__debug__" : Str)) = false)
      (hsu : ∀ (a : Addr) (oe : Obj) (c : Str) (fs : List (Str × D)) (d : Option Addr) (pn : List (Addr × Obj)), L2N.Zn (.ref (He.ga X.K c)) d oe → (∃ vs, oe.data = .fields vs) → RSs (X.suite a ((a, oe) :: pn)) ⟨Wno, some ⟨i, a, d, fs⟩⟩ L (List.replicate n 0) ωn (b₀ :: suite) (sb c fs))
      (r : ClD X L n ωn hds l) : ClD X L n ωn (.ExceptHandler (some (.Name x np)) (some nm) (b₀ :: suite) pos' :: hds) ((x, some i, sb) :: l)
  | no {x : Str} {sb : SbC} {b₀ : Stmt} {suite : List Stmt} {np pos' : Pos} {hds : List ExceptHandler} {l : List ClsD} (gC : X.mg x = some (.ref (He.ga X.K x))) (hg : Gl X x) (hdb : (x == ("__debug__" : Str)) = false)
      (hsu : ∀ (a : Addr) (oe : Obj) (c : Str) (fs : List (Str × D)) (d : Option Addr) (pn : List (Addr × Obj)), L2N.Zn (.ref (He.ga X.K c)) d oe → (∃ vs, oe.data = .fields vs) → RSs (X.suite a ((a, oe) :: pn)) ⟨Wno, none⟩ L (List.replicate n 0) ωn (b₀ :: suite) (sb c fs))
      (r : ClD X L n ωn hds l) : ClD X L n ωn (.ExceptHandler (some (.Name x np)) none (b₀ :: suite) pos' :: hds) ((x, none, sb) :: l)
theorem ClD.ok {X : Cx} {L : Lp} {n : Nat} {ωn : List Nat} {hds : List ExceptHandler} {l : List ClsD} (h : ClD X L n ωn hds l) : ClOk X hds (l.map (tsOf X.K L n ωn)) := by
  induction h with
  | nil => exact .nil
  | as gC hN hi hln hin hg hdb hsu r ih =>
    refine .as ⟨hg, hdb, .inl gC⟩ hN hi hln (fun a oe cls d pn hz hf => ⟨fun pins s σ H D I ⟨c, fs, e, q⟩ => ?_⟩) ih
    subst e
    exact (hsu a oe c fs d pn hz hf).run pins s σ H D I q
  | no gC hg hdb hsu r ih =>
    refine .no ⟨hg, hdb, .inl gC⟩ (fun a oe cls d pn hz hf => ⟨fun pins s σ H D I ⟨c, fs, e, q⟩ => ?_⟩) ih
    subst e
    exact (hsu a oe c fs d pn hz hf).run pins s σ H D I q
theorem Good.enter {K : PySem.W.Frag} {S0 H0 S H : Hp} {ω : List Nat} {σ : St} {ρ : Rho} {P : Nat → List Addr} (G : Good K S0 H0 none ω σ ρ S H P) (i : Option Nat) (a : Addr) (d : Option Addr) (fs : List (Str × D)) (x : ExcD S d fs) (hi : ∀ j, i = some j → j < ω.length) : Good K S0 H0 (Jof i a d fs) ω (setE i a σ) (clr i ρ) S H P := by
  cases i with
  | none => exact ⟨G.g, G.ln, G.lw, G.sl, G.pn, G.nd, G.dj, fun q e => nomatch e⟩
  | some j =>
    have hj : j < σ.length := by
      rw [G.ln, ← G.lw]
      exact hi j rfl
    refine ⟨G.g, ?_, ?_, fun l d' e => ?_, G.pn, G.nd, G.dj, fun q e => ?_⟩
    · show (σ.set j _).length = (ρ.set j none).length
      rw [List.length_set, List.length_set]
      exact G.ln
    · show ω.length = (ρ.set j none).length
      rw [List.length_set]
      exact G.lw
    · have e' : (ρ.set j none)[l]? = some (some d') := e
      by_cases hl : l = j
      · rw [hl, List.getElem?_set, if_pos rfl] at e'
        split at e' <;> cases e'
      · rw [List.getElem?_set_ne (fun z => hl z.symm)] at e'
        obtain ⟨v, h1, h2⟩ := G.sl l d' e'
        exact ⟨v, by show (σ.set j _)[l]? = _; rw [List.getElem?_set_ne (fun z => hl z.symm)]; exact h1, h2⟩
    · cases e
      refine ⟨?_, x⟩
      show (σ.set j (some (.ref a)))[j]? = _
      rw [List.getElem?_set, if_pos rfl, if_pos hj]
section
variable {X : Cx} {Z : Sx} {L : Lp} {ω ωn : List Nat} {body : List Stmt} {h₀ : ExceptHandler} {hds : List ExceptHandler} {cl : List ClsD} {pos : Pos} {fb : SS} {tbl : Str → Str → Option Bool}
theorem tryCl_end {K : PySem.W.Frag} {W0 : WX} {S0 H0 : Hp} {De : Ends} {k : Str} {fs : List (Str × D)} {ρ' : Rho} (ht : ∀ c y b, tbl c y = some b → PySem.W.exmOne K (.ref (He.ga K c)) (.ref (He.ga K y)) = some b) : ∀ {cl : List ClsD}, (∀ q ∈ cl, ∀ j, q.2.1 = some j → j < ω.length) → ClS K ⟨W0, none⟩ L S0 H0 ω.length ωn De (tryCl tbl k fs cl ρ') →
    ∀ dd σ' S' H' P', Good K S0 H0 none (List.replicate ω.length 0) σ' ρ' S' H' P' → ExcD S' dd fs → wCl K W0 De (cl.map (tsOf K L ω.length ωn)) (.ref (He.ga K k)) dd σ' H'
  | [], _, c', dd, σ', S', H', P', G', x => c' dd σ' S' H' P' G' x
  | (y, i, sb) :: r, hi, c', dd, σ', S', H', P', G', x => by
    have hr : ∀ q ∈ r, ∀ j, q.2.1 = some j → j < ω.length := fun q hq => hi q (List.mem_cons_of_mem _ hq)
    unfold tryCl at c'
    cases et : tbl k y with
    | none =>
      rw [et] at c'
      exact c'.elim
    | some b =>
      rw [et] at c'
      refine ⟨b, ht _ _ _ et, fun hb' a na => ?_, fun hb' => ?_⟩
      · subst hb'
        dsimp only at c'
        refine ⟨k, fs, rfl, S0, H0, S', clr i ρ', P', G'.enter i a dd fs x fun j ej => by rw [List.length_replicate]; exact hi _ List.mem_cons_self j ej, ?_⟩
        show ClS K _ L S0 H0 _ ωn (endE i De) (sb k fs (clr i ρ'))
        cases es : sb k fs (clr i ρ') with
        | rt d =>
          rw [es] at c'
          cases i with
          | none => exact c'
          | some j => exact c'
        | nx _ =>
          rw [es] at c'
          exact c'.elim
        | bk _ =>
          rw [es] at c'
          exact c'.elim
        | ct _ =>
          rw [es] at c'
          exact c'.elim
        | ex _ _ _ =>
          rw [es] at c'
          exact c'.elim
        | bad =>
          rw [es] at c'
          exact c'.elim
      · subst hb'
        exact tryCl_end ht hr c' dd σ' S' H' P' G' x
theorem s_try (ht : ∀ c y b, tbl c y = some b → PySem.W.exmOne X.K (.ref (He.ga X.K c)) (.ref (He.ga X.K y)) = some b) (hJ : Z.J = none) (tk : L2N.Takes X Z.W)
    (hb : ∀ (W : WX) (pn : List (Addr × Obj)) (xe : Value → Shared → Prop), L2N.Takes (X.tr pn xe) W → PassesOwn (model X.prog X.w) X.A X.env xe → RSs (X.tr pn xe) ⟨W, none⟩ L ω ωn body fb)
    (hh : ClD X L ω.length ωn (h₀ :: hds) cl) (hi : ∀ q ∈ cl, ∀ j, q.2.1 = some j → j < ω.length) (hs : X.stack = X.env :: X.outer := by rfl) (hf : X.env.frame = some X.env.locals := by rfl) : RS X Z L ω ωn (.Try body (h₀ :: hds) [] [] pos) (sTry tbl fb cl) := by
  obtain ⟨W0, J0⟩ := Z
  have hJ' : J0 = none := hJ
  subst hJ'
  refine PS.of (ps_try_x hs hf tk (tb := fun W => tS X.K ⟨W, none⟩ L ω ωn fb) hb hh.ok) fun D σ H ⟨S0, H0, S, ρ, P, G, c⟩ => ⟨S0, H0, S, ρ, P, G, ?_⟩
  unfold sTry at c
  cases e : fb ρ with
  | nx ρ' =>
    rw [e] at c
    exact c
  | rt d =>
    rw [e] at c
    exact c
  | bk ρ' =>
    rw [e] at c
    exact c
  | ct ρ' =>
    rw [e] at c
    exact c
  | bad =>
    rw [e] at c
    exact c
  | ex k fs ρ' =>
    rw [e] at c
    intro dd σ' S' H' P' G' x
    exact tryCl_end ht hi c dd σ' S' H' P' G' x
end

/-! ### what a suite reads -/
theorem fldV_lookup (fs : List (Str × D)) (f : Str) : (fldV fs).lookup f = (fs.lookup f).map scV := by
  induction fs with
  | nil => rfl
  | cons p r ih =>
    obtain ⟨k, d⟩ := p
    show (match f == k with | true => some (scV d) | false => (fldV r).lookup f) = (match f == k with | true => some d | false => r.lookup f).map scV
    cases f == k with
    | true => rfl
    | false => exact ih
theorem atom_rp' {K : PySem.W.Frag} {S : Hp} {d : D} (a : atom d = true) : Rp K S (scV d) d := by
  cases d <;> first
    | exact .non
    | exact .bl _
    | exact .int _
    | exact .str _
    | cases a
def sXf (xs : List Str) (c : Str) (fs : List (Str × D)) (f : Str) : SE := fun _ => if c ∈ xs then (match fs.lookup f with
  | some d => if atom d = true then .ok d else .bad
  | none => .bad) else .bad
def sIsX (tbl : Str → Str → Option Bool) (c y : Str) : SE := fun _ => match tbl c y with
  | some b => .ok (.bool b)
  | none => .bad
/-- isinstance(e, c): e with or without its dict -/
def rIsX (K : PySem.W.Frag) (D a : Addr) (dd : Option Addr) : List V → Hp → VK → Prop := fun xs H Q => ∃ (c : V) (cv : Value) (b : Bool), xs = [.ref a, c] ∧ (∀ u, RelV c u → u = cv) ∧ PySem.W.kitOne K (.ref D) cv = some b ∧ (dd = none ∨ ∃ x fs, dd = some x ∧ H x = some (.xd fs)) ∧ Q (.bl b) H
theorem call_isX {X : Cx} {a D : Addr} {dd : Option Addr} {oe : Obj} {pn : List (Addr × Obj)} (C : ExcC X.K D) (hz : Zc (.ref D) dd oe) (hf : ∃ vs, oe.data = .fields vs) : CallR (X.suite a ((a, oe) :: pn)) (.builtin "isinstance") (rIsX X.K D a dd) := by
  intro pins s σ H xs us Q I r h
  obtain ⟨c, cv, b, rfl, hcv, e, hd, q⟩ := h
  cases r with
  | cons rx rr =>
    cases rr with
    | cons rt rr =>
      cases rr
      cases rx
      have ec := hcv _ rt
      subst ec
      obtain ⟨hget, _⟩ := I.pin (a, oe) (List.mem_append.mpr (.inl List.mem_cons_self))
      obtain ⟨vs, hv⟩ := hf
      have hcl : (PySem.W.clsIn X.K D).isSome = true := by
        have h := C.hd
        unfold PySem.W.hasDictIn at h
        cases q : PySem.W.clsIn X.K D with
        | none =>
          rw [q] at h
          cases h
        | some _ => rfl
      obtain ⟨oc, od, oda, osl⟩ := oe
      obtain ⟨h1, h2⟩ := hz
      dsimp only at h1 h2 hv
      subst h1 h2 hv
      rcases hd with hd | ⟨x, fs, hd, hx⟩
      · subst hd
        have J : PySem.W.InstAt s.heap a _ D none := ⟨hget, rfl, rfl, trivial⟩
        exact PySem.W.kia_one (PySem.W.kitx_exc hcl C.hg C.hk C.hs C.ha C.hn C.ht C.hm) I.kIn J e (fun z => nomatch z) fun tk => ⟨.bl b, H, I.kept (t' := tk) fun _ _ z => z, rfl, q⟩
      · subst hd
        have hx' : ObjOk X.prog X.w H s.heap x (.xd fs) := I.hok x _ hx
        obtain ⟨mA, hns, hr⟩ := hx'
        obtain ⟨od, ho, hl⟩ := lookIn_ns hns
        have J : PySem.W.InstAt s.heap a _ D (some od) := ⟨hget, rfl, rfl, ho⟩
        exact PySem.W.kia_one (PySem.W.kitx_exc hcl C.hg C.hk C.hs C.ha C.hn C.ht C.hm) I.kIn J e (fun z => nomatch z) fun tk => ⟨.bl b, H, I.kept (t' := tk) fun _ _ z => z, rfl, q⟩
end Pu
end

section
set_option Elab.async false
set_option linter.all false
set_option maxRecDepth 100000
set_option maxHeartbeats 2000000
/-! Px5: what a suite reads, by rules; defs; the borrowed argument. -/
namespace Pu
open PySem PySem.Spec PyProof.Rows L2 L2H

/-! ### in a suite -/
theorem _root_.L2.ExcC.xf {K : PySem.W.Frag} {C : Addr} (h : ExcC K C) : XfC K C := ⟨h.hg, h.hk, h.hs, h.hd⟩
section
variable {X : Cx} {Z : Sx} {ω : List Nat} {a : Addr} {oe : Obj} {c : Str} {fs : List (Str × D)} {d : Option Addr} {pn : List (Addr × Obj)} {i : Nat} {e f y : Str} {p p2 p3 pos : Pos} {xs : List Str} {tbl : Str → Str → Option Bool}
/-- the slot's exception, read -/
theorem exi_run {Y : Cx} {σ : St} {H : Hp} {S : Hp} {ρ : Rho} (h : At Y.K Z ω σ S H ρ) (hJ : Z.J = some ⟨i, a, d, fs⟩) : σ[i]? = some (some (.ref a)) ∧ ExcD S d fs := by
  obtain ⟨S0, H0, P, G⟩ := h
  exact G.xi _ hJ
theorem r_xf (i : Nat) (xs : List Str) (hz : L2N.Zn (.ref (He.ga X.K c)) d oe) (hf : ∃ vs, oe.data = .fields vs) (hJ : Z.J = some ⟨i, a, d, fs⟩) (hx : ∀ c ∈ xs, ExcC X.K (He.ga X.K c)) (hno : ∀ c ∈ xs, PySem.W.findIn X.K (.ref (He.ga X.K c)) f = some none) (hN : X.N[i]? = some e := by rfl)
    (hv : Vis X.env.scope e := by first | exact Or.inl rfl | exact Or.inr (Or.inl rfl) | exact Or.inr (Or.inr rfl)) (hd : (e == ("__debug__" : Str)) = false := by decide) (hcd : (e == ("__classdict__" : Str)) = false := by decide) (hb : attributeBase (.Name e p) f X.env (eval (.Name e p) X.env) = eval (.Name e p) X.env := by rfl) :
    RP (X.suite a ((a, oe) :: pn)) Z ω (.Attribute (.Name e p) f pos) (sXf xs c fs f) := by
  by_cases hc : c ∈ xs
  · refine PE.of (pe_xf (hx c hc).xf (hno c hc) hz.zc hf (pe_var (X := X.suite a ((a, oe) :: pn)) (i := i) hN hv hd hcd) hb) fun σ H Q ⟨S, ρ, h, c'⟩ => ?_
    obtain ⟨h1, h2⟩ := exi_run (Y := X.suite a ((a, oe) :: pn)) h hJ
    unfold sXf at c'
    rw [if_pos hc] at c'
    cases el : fs.lookup f with
    | none =>
      rw [el] at c'
      exact c'.elim
    | some dv =>
      rw [el] at c'
      dsimp only at c'
      split at c'
      · rename_i ha
        rcases h2 with ⟨h2, _⟩ | ⟨x, h3, h4⟩
        · rw [h2] at el
          cases el
        · exact ⟨_, h1, rfl, rfl, x, fldV fs, scV dv, h3, h.sh _ _ h4, by rw [fldV_lookup, el]; rfl, c' _ S H (.refl h.sh) (atom_rp' ha)⟩
      · exact c'.elim
  · refine PE.of (t := fun _ _ _ => False) ⟨fun _ _ _ _ _ _ q => q.elim⟩ fun σ H Q ⟨S, ρ, h, c'⟩ => ?_
    unfold sXf at c'
    rw [if_neg hc] at c'
    exact c'
theorem r_isx (i : Nat) (xs : List Str) (hz : L2N.Zn (.ref (He.ga X.K c)) d oe) (hf : ∃ vs, oe.data = .fields vs) (hJ : Z.J = some ⟨i, a, d, fs⟩) (hx : ∀ c y b, tbl c y = some b → ExcC X.K (He.ga X.K c) ∧ PySem.W.kitOne X.K (.ref (He.ga X.K c)) (.ref (He.ga X.K y)) = some b) (gy : X.mg y = some (.ref (He.ga X.K y))) (hI : X.mg "isinstance" = none)
    (hN : X.N[i]? = some e := by rfl) (hv : Vis X.env.scope e := by first | exact Or.inl rfl | exact Or.inr (Or.inl rfl) | exact Or.inr (Or.inr rfl)) (hd : (e == ("__debug__" : Str)) = false := by decide) (hcd : (e == ("__classdict__" : Str)) = false := by decide) (hg : Gl X "isinstance" := by rfl) (hgy : Gl X y := by rfl) (hdy : (y == ("__debug__" : Str)) = false := by decide)
    (hs : starEach (.Name e p2 :: [.Name y p3]) X.env = (false, eval (.Name e p2) X.env) :: starEach [.Name y p3] X.env := by rfl) : RP (X.suite a ((a, oe) :: pn)) Z ω (.Call (.Name "isinstance" p) [.Name e p2, .Name y p3] [] pos) (sIsX tbl c y) := by
  cases et : tbl c y with
  | none =>
    refine PE.of (t := fun _ _ _ => False) ⟨fun _ _ _ _ _ _ q => q.elim⟩ fun σ H Q ⟨S, ρ, h, c'⟩ => ?_
    unfold sIsX at c'
    rw [et] at c'
    exact c'
  | some b =>
    obtain ⟨h1, h2⟩ := hx _ _ _ et
    refine PE.of (pe_callB (X := X.suite a ((a, oe) :: pn)) (call_isX h1 hz.zc hf) hg hI (by decide +kernel) (pa_cons (pe_var (X := X.suite a ((a, oe) :: pn)) (i := i) hN hv hd hcd) (pa_cons (pe_glob (X := X.suite a ((a, oe) :: pn)) (v := .ref (He.ga X.K y)) hgy gy rfl hdy) pa_nil) hs) (by decide) (by decide) hs) fun σ H Q ⟨S, ρ, h, c'⟩ => ?_
    obtain ⟨e1, e2⟩ := exi_run (Y := X.suite a ((a, oe) :: pn)) h hJ
    unfold sIsX at c'
    rw [et] at c'
    refine ⟨_, e1, .ref (He.ga X.K y), _, b, rfl, fun u hu => hu, h2, ?_, c' _ S H (.refl h.sh) (.bl b)⟩
    rcases e2 with ⟨_, e2⟩ | ⟨x, e3, e4⟩
    · exact .inl e2
    · exact .inr ⟨x, _, e3, h.sh _ _ e4⟩
def sIsV (xs : List Str) (c : Str) : SE := fun _ => if c ∈ xs then .ok (.bool true) else .bad
theorem r_isv (i : Nat) (xs : List Str) {Y : Str} (eY : Y = "ValueError") (hz : L2N.Zn (.ref (He.ga X.K c)) d oe) (hf : ∃ vs, oe.data = .fields vs) (hJ : Z.J = some ⟨i, a, d, fs⟩) (hx : ∀ c ∈ xs, ExcC X.K (He.ga X.K c) ∧ PySem.W.kitOne X.K (.ref (He.ga X.K c)) (.type "ValueError") = some true) (hV : X.mg "ValueError" = none) (hI : X.mg "isinstance" = none)
    (hN : X.N[i]? = some e := by rfl) (hv : Vis X.env.scope e := by first | exact Or.inl rfl | exact Or.inr (Or.inl rfl) | exact Or.inr (Or.inr rfl)) (hd : (e == ("__debug__" : Str)) = false := by decide) (hcd : (e == ("__classdict__" : Str)) = false := by decide) (hg : Gl X "isinstance" := by rfl) (hgy : Gl X "ValueError" := by rfl)
    (hs : starEach (.Name e p2 :: [.Name "ValueError" p3]) X.env = (false, eval (.Name e p2) X.env) :: starEach [.Name "ValueError" p3] X.env := by rfl) : RP (X.suite a ((a, oe) :: pn)) Z ω (.Call (.Name "isinstance" p) [.Name e p2, .Name Y p3] [] pos) (sIsV xs c) := by
  subst eY
  by_cases hc : c ∈ xs
  · obtain ⟨h1, h2⟩ := hx c hc
    have bV : bootBuiltins "ValueError" = some (.type "ValueError") := by decide +kernel
    refine PE.of (pe_callB (X := X.suite a ((a, oe) :: pn)) (call_isX h1 hz.zc hf) hg hI (by decide +kernel) (pa_cons (pe_var (X := X.suite a ((a, oe) :: pn)) (i := i) hN hv hd hcd) (pa_cons (pe_bltn (X := X.suite a ((a, oe) :: pn)) (v := .ty "ValueError") hgy hV bV rfl (by decide) (by decide)) pa_nil) hs) (by decide) (by decide) hs) fun σ H Q ⟨S, ρ, h, c'⟩ => ?_
    obtain ⟨e1, e2⟩ := exi_run (Y := X.suite a ((a, oe) :: pn)) h hJ
    unfold sIsV at c'
    rw [if_pos hc] at c'
    refine ⟨_, e1, .ty "ValueError", _, true, rfl, fun u hu => hu, h2, ?_, c' _ S H (.refl h.sh) (.bl true)⟩
    rcases e2 with ⟨_, e2⟩ | ⟨x, e3, e4⟩
    · exact .inl e2
    · exact .inr ⟨x, _, e3, h.sh _ _ e4⟩
  · refine PE.of (t := fun _ _ _ => False) ⟨fun _ _ _ _ _ _ q => q.elim⟩ fun σ H Q ⟨S, ρ, h, c'⟩ => ?_
    unfold sIsV at c'
    rw [if_neg hc] at c'
    exact c'
theorem hot_suite {X : Cx} {cls : Value} (hz : L2N.Zn cls d oe) (hf : ∃ vs, oe.data = .fields vs) : HotC (X.suite a ((a, oe) :: pn)) := by
  obtain ⟨vs, h⟩ := hf
  exact ⟨(a, oe), ⟨rfl, vs, h, hz.2.2 vs h⟩, List.mem_cons_self⟩
theorem room_suite {k : Nat} (hr : Room k X.A) : RoomH k (X.suite a ((a, oe) :: pn)).A := ⟨hr.dp, hr.un⟩
end
/-- a call in a suite -/
theorem r_callH {X : Cx} {Z : Sx} {ω : List Nat} {x : Str} {p pos : Pos} {e : Expr} {es : List Expr} {fa : SA} {k lv n : Nat} {f : Addr} {fd : FuncData} {ps : List Str} {m : List D → R D} (F : FnH X.prog X.w X.K X.mg X.base (L2N.CX X.prog X.w) k f fd ps (spP X.K lv n m)) (hx : ∀ σ, PassesAt (L2N.CX X.prog X.w) X σ (WE Z.W σ)) (hr : RoomH k X.A) (hc : HotC X) (hm : X.mg x = some (.ref f)) (hk : PySem.W.keepIn X.K (.ref f) = true) (hb : Binds X.K fd ps []) (ha : RA X Z ω (e :: es) fa) (hn : n = es.length + 1 := by rfl)
    (hg : Gl X x := by rfl) (hdb : (x == ("__debug__" : Str)) = false := by decide) (he : starEach (e :: es) X.env = (false, eval e X.env) :: starEach es X.env := by rfl) (hpl : (backTo pos (starEach es X.env)).any (·.1) = false := by rfl)
    (hl : ALen fa (es.length + 1) := by repeat' first | exact len_nil | refine len_cons ?_) : RF X Z ω lv (.Call (.Name x p) (e :: es) [] pos) (sCall m fa) :=
  PE.of (pe_callH (E := WE Z.W) F hr hc hg hm hk hb hx ha hdb he hpl) fun σ H Q ⟨S, ρ, h, c⟩ => by
    refine ⟨S, ρ, h, ?_⟩
    unfold sCall at c
    cases ef : fa ρ with
    | ok ds =>
      rw [ef] at c
      have c' : Cl X.K Z (relF X.K lv) σ Q S H (m ds) := c
      intro vs S' H' g rv
      refine ⟨by rw [RpAll.len rv, hl ρ ds ef, hn], S', ds, g.sh, rv, ?_⟩
      have c3 := c'.grow an_F g
      cases em : m ds with
      | ok d =>
        rw [em] at c3
        exact c3
      | ex cc fs =>
        rw [em] at c3
        exact c3
      | bad =>
        rw [em] at c3
        exact c3
    | ex cc fs =>
      rw [ef] at c
      exact c
    | bad =>
      rw [ef] at c
      exact c

/-! ### defs -/
def dataOf (nN : Nat) (fb : SS) : List D → R D := fun ds => match fb (ds.map some ++ List.replicate (nN - ds.length) none) with
  | .nx _ => .ok .none
  | .rt d => .ok d
  | .ex c fs _ => .ex c fs
  | _ => .bad
theorem entry {K : PySem.W.Frag} {N : List Str} {vs : List V} {H : Hp} {Q : VK} {E : XK} {lv n : Nat} {fb : SS} {ωe : List Nat} (hn : n ≤ N.length) (h : spP K lv n (dataOf N.length fb) vs H Q E) :
    tS K ⟨fun c d _ H' => E c d H', none⟩ ⟨lv, [], []⟩ (List.replicate N.length 0) ωe fb { nx := fun _ H' => Q .non H', rt := Q } (L2.start N vs) H := by
  obtain ⟨hl, S, ds, hs, hr, c⟩ := h
  have hld := hr.len
  refine ⟨S, H, S, ds.map some ++ List.replicate (N.length - ds.length) none, fun _ => [], ?_, ?_⟩
  · refine ⟨.refl hs, ?_, ?_, fun i d e => ?_, (fun i a ha => nomatch ha), fun _ => .nil, (fun i j a _ ha => nomatch ha), (fun q e => nomatch e)⟩
    · unfold L2.start
      rw [List.length_append, List.length_append, List.length_map, List.length_map, List.length_replicate, List.length_replicate, hld]
    · rw [List.length_append, List.length_map, List.length_replicate, List.length_replicate]
      omega
    · have hi : i < ds.length := by
        by_cases hi : i < ds.length
        · exact hi
        · rw [List.getElem?_append_right (by simpa using hi), List.getElem?_replicate] at e
          split at e <;> cases e
      rw [List.getElem?_append_left (by simpa using hi), List.getElem?_map] at e
      cases ed : ds[i]? with
      | none =>
        rw [ed] at e
        cases e
      | some d' =>
        rw [ed] at e
        have e2 : d' = d := Option.some.inj (Option.some.inj e)
        subst e2
        obtain ⟨v, hv, rv⟩ := hr.get' ed
        refine ⟨v, ?_, ?_⟩
        · unfold L2.start
          have hi' : i < vs.length := by rw [hld]; exact hi
          rw [List.getElem?_append_left (by simpa using hi'), List.getElem?_map, hv]
          rfl
        · have e0 : (List.replicate N.length 0).getD i 0 = 0 := by
            rw [List.getD_eq_getElem?_getD, List.getElem?_replicate]
            split <;> rfl
          rw [e0]
          exact ⟨rv, rfl⟩
  · unfold dataOf at c
    cases e : fb (ds.map some ++ List.replicate (N.length - ds.length) none) with
    | nx ρ =>
      rw [e] at c
      intro σ S' H' P G
      refine c .non S' H' G.g ⟨[], ?_, .nil, fun a ha => nomatch ha⟩
      cases lv with
      | zero => exact ⟨.non, rfl⟩
      | succ k => exact .inl ⟨.non, rfl, trivial⟩
    | rt d =>
      rw [e] at c
      exact fun v S' H' g r => c v S' H' g r
    | ex k fs ρ =>
      rw [e] at c
      exact fun dd σ S' H' P G x => c dd S' H' G.g x
    | bk ρ =>
      rw [e] at c
      exact c.elim
    | ct ρ =>
      rw [e] at c
      exact c.elim
    | bad =>
      rw [e] at c
      exact c.elim
section
variable {P : Program} {w : World} {K : PySem.W.Frag} {mg : Str → Option Value} {base : Heap} {x qual : Str} {params : Arguments} {body : List Stmt} {scope : Scope} {dvs : List V} {kws : List (Str × V)} {f : Addr} {fd : FuncData}
theorem fn_ok {N ps : List Str} {k lv : Nat} {fb : SS} (ωe : List Nat) (F : L2.FunD K x qual params body scope dvs kws f fd) (S : FnScope N ps scope) (hn : ps.length ≤ N.length)
    (hb : ∀ (cdv : Value) (A : Around) (outer : List Env) (s : Shared) (H : Hp) (E : XK), Room k (A.deeper (envOfC qual scope s.heap.objs.size f cdv)) →
      RSs (cxOf (L2N.CX P w) P w K mg base N qual scope f cdv A outer s H E) ⟨fun c d _ H' => E c d H', none⟩ ⟨lv, [], []⟩ (List.replicate N.length 0) ωe body fb) :
    FnOk P w K mg base (L2N.CX P w) (k + 1) f fd ps (spP K lv ps.length (dataOf N.length fb)) :=
  F.ok S (fun vs H Q E h => h.1) fun cdv A outer s H vs Q E hr h => ⟨_, hb cdv A outer s H E hr, entry hn h⟩
theorem fn_okH {N ps : List Str} {k lv : Nat} {fb : SS} (ωe : List Nat) (F : L2.FunD K x qual params body scope dvs kws f fd) (S : FnScope N ps scope) (hn : ps.length ≤ N.length)
    (hb : ∀ (cdv : Value) (A : Around) (outer : List Env) (s : Shared) (H : Hp) (E : XK) (p : Addr × Obj), RoomH k (A.deeper (envOfC qual scope s.heap.objs.size f cdv)) →
      RSs (cxH (L2N.CX P w) P w K mg base N qual scope f cdv A outer s H E p) ⟨fun c d _ H' => E c d H', none⟩ ⟨lv, [], []⟩ (List.replicate N.length 0) ωe body fb) :
    FnH P w K mg base (L2N.CX P w) (k + 1) f fd ps (spP K lv ps.length (dataOf N.length fb)) := by
  obtain ⟨oc, od, dV, kV, doc, pm, an, cdv, ct, osl, rfl, lk, hcd, _, _⟩ := F.ex
  exact fn_ofH lk hcd S (fun vs H Q E h => h.1) fun A outer s H vs Q E p hot hr h => ⟨_, hb cdv A outer s H E p hr, entry hn h⟩
end
end Pu
end

section
set_option Elab.async false
set_option linter.all false
set_option maxRecDepth 100000
set_option maxHeartbeats 2000000
/-! Px6: a hook that tells the defs, the names, the own exceptions. -/
namespace Pu
open PySem PySem.Spec PyProof.Rows L2

/-- an own exception class: its name, its field, its text, its line at the top -/
structure XcD where
  x : Str
  f : Str
  m : Str
  st : Stmt
def iniOf : Stmt → Option Stmt
  | .ClassDef _ _ _ (s :: _) _ _ _ _ _ _ _ => some s
  | _ => none
def posOf : Option Stmt → Option PySem.Xc.Ps
  | some (.FunctionDef _ a [.Expr (.Call (.Attribute (.Call (.Name _ a1) [] [] a2) _ a3) [.Constant _ j a4] [] a5) a6, .Assign [.Attribute (.Name _ b1) _ b2] (.Name _ b3) b4] _ _ _ _ _ _ _) => (match a.args with
    | [s, t] => some ⟨a1, a2, a3, a4, a5, a6, b1, b2, b3, b4, s.pos, t.pos, j⟩
    | _ => none)
  | _ => none
def XcD.p (c : XcD) : PySem.Xc.Ps := (posOf (iniOf c.st)).getD ⟨⟨0, 0, 0, 0⟩, ⟨0, 0, 0, 0⟩, ⟨0, 0, 0, 0⟩, ⟨0, 0, 0, 0⟩, ⟨0, 0, 0, 0⟩, ⟨0, 0, 0, 0⟩, ⟨0, 0, 0, 0⟩, ⟨0, 0, 0, 0⟩, ⟨0, 0, 0, 0⟩, ⟨0, 0, 0, 0⟩, ⟨0, 0, 0, 0⟩, ⟨0, 0, 0, 0⟩, 0⟩
abbrev XcV : Type := Option (Str × Arguments × FuncBody × Scope × Addr × List Str × Value × Value × Addr)
def iniAd (K : PySem.W.Frag) (x : Str) : Addr := He.ma K (He.ga K x) "__init__"
def xcObs (K : PySem.W.Frag) (x : Str) : XcV := match K.lookup (iniAd K x) with
  | some ⟨_, _, .func fd, _⟩ => some (fd.name, fd.params, fd.body, fd.scope, fd.globals, fd.closure.map (·.1), fd.defaults, fd.kwdefaults, fd.builtins)
  | _ => none
def XcD.val (c : XcD) : XcV := some ("__init__", PySem.Xc.iA c.f c.p, .stmts (PySem.Xc.iB c.m c.f c.p), PySem.Xc.iS c.f, mainGlobals, ["__class__"], .none, .none, builtinsNs)
/-- the class's own line -/
def clsB (K : PySem.W.Frag) (C : Addr) : Bool := match K.lookup C with
  | some ⟨.type t, _, .cls cd, sl⟩ => decide (t = "type") && (match cd.mro, sl.toList with
    | .ref C' :: bm, [_, _, _, _, some (.builtin n), _] => decide (C' = C) && (decide (n = "ValueError.__new__") && (!cd.hasDel && (cd.hasDict && (HandSPX.refsVE bm && He.eqO (PySem.W.alongIn K "__init__" bm) (some (some (.builtin "ValueError.__init__")))))))
    | _, _ => false)
  | _ => false
theorem clsB_ok {K : PySem.W.Frag} {C : Addr} (h : clsB K C = true) : ∃ nm q N bs bm sn sub ab col dd k0 k1 k2 k3 k5, K.lookup C = some (excClassObj nm q C N bs bm true sn sub ab col dd k0 k1 k2 k3 k5 "ValueError.__new__") ∧ HandSPX.refsVE bm = true ∧ PySem.W.alongIn K "__init__" bm = some (some (.builtin "ValueError.__init__")) := by
  unfold clsB at h
  split at h
  · rename_i t dd cd sl ho
    obtain ⟨h1, h⟩ := He.ba h
    split at h
    · rename_i C' bm k0 k1 k2 k3 n k5 hm hs
      obtain ⟨h2, h⟩ := He.ba h
      obtain ⟨h3, h⟩ := He.ba h
      obtain ⟨h4, h⟩ := He.ba h
      obtain ⟨h5, h⟩ := He.ba h
      obtain ⟨h6, h7⟩ := He.ba h
      have e1 := of_decide_eq_true h1
      have e2 := of_decide_eq_true h2
      have e3 := of_decide_eq_true h3
      subst e1 e2 e3
      obtain ⟨nm, bs, mro, ns, qn, hd, sn, sub, ab, col, del⟩ := cd
      dsimp only at hm h4 h5
      subst hm h5
      have h4' : del = false := by
        cases del with
        | true => cases h4
        | false => rfl
      subst h4'
      have hsl : sl = #[k0, k1, k2, k3, some (.builtin "ValueError.__new__"), k5] := by
        obtain ⟨l⟩ := sl
        simp only at hs
        rw [hs]
      subst hsl
      exact ⟨nm, qn, ns, bs, bm, sn, sub, ab, col, dd, k0, k1, k2, k3, k5, ho, h6, He.eqO_ok h7⟩
    · cases h
  · cases h
def cellB (K : PySem.W.Frag) (cc C : Addr) : Bool := match K.lookup cc with
  | some ⟨_, _, .cell (some (.ref C')), _⟩ => decide (C' = C)
  | _ => false
theorem cellB_ok {K : PySem.W.Frag} {cc C : Addr} (h : cellB K cc C = true) : ∃ cl cld csl, K.lookup cc = some ⟨cl, cld, .cell (some (.ref C)), csl⟩ := by
  unfold cellB at h
  split at h
  · rename_i cl cld C' csl ho
    rw [of_decide_eq_true h] at ho
    exact ⟨cl, cld, csl, ho⟩
  · cases h
def codeB (P : Program) (K : PySem.W.Frag) (cda : Addr) : Bool := match K.lookup cda with
  | some ⟨_, _, .fields vs, _⟩ => (match (vs[2]? : Option Value) with
    | some (Value.str file _) => (P.main.file : Str) == file
    | _ => false)
  | _ => false
theorem codeB_ok {P : Program} {K : PySem.W.Frag} {cda : Addr} (h : codeB P K cda = true) : ∃ ccl cdd vs ccs file tf, K.lookup cda = some ⟨ccl, cdd, .fields vs, ccs⟩ ∧ vs[2]? = some (.str file tf) ∧ ((P.main.file : Str) == file) = true := by
  unfold codeB at h
  split at h
  · rename_i ccl cdd vs ccs ho
    split at h
    · rename_i file tf hv
      exact ⟨ccl, cdd, vs, ccs, file, tf, ho, hv, h⟩
    · cases h
  · cases h
def fdB (P : Program) (K : PySem.W.Frag) (x : Str) (C : Addr) : Bool := match K.lookup (iniAd K x) with
  | some ⟨_, _, .func fd, _⟩ => (match fd.closure, fd.code with
    | [(_, cc)], .ref cda => cellB K cc C && (codeB P K cda && PySem.W.codeIn K (.ref cda) fd.qualname)
    | _, _ => false)
  | _ => false
def eqS (o : Option Value) (v : Value) : Bool := decide (o = some v)
def xcB (P : Program) (K : PySem.W.Frag) (x f : Str) : Bool := clsB K (He.ga K x) && (He.eqO (PySem.W.findIn K (.ref (He.ga K x)) "__setattr__") (some (some (.builtin "object.__setattr__"))) && (He.eqO (PySem.W.findIn K (.ref (He.ga K x)) f) (some none) &&
  (He.eqO (PySem.W.findIn K (.ref (He.ga K x)) "__init__") (some (some (.ref (iniAd K x)))) && (eqS (PySem.W.typeIn K (.ref (iniAd K x))) (.type "function") && (PySem.W.keepIn K (.ref (He.ga K x)) && (decide (PySem.W.subIn K (.ref (He.ga K x)) (.type "BaseException") = some true) &&
  (decide (PySem.W.subIn K (.ref (He.ga K x)) (.ref (He.ga K x)) = some true) && (decide (PySem.W.subIn K (.ref (He.ga K x)) (.type "ValueError") = some true) && (eqS (PySem.W.typeIn K (.ref (He.ga K x))) (.type "type") && (He.eqO (PySem.W.nsIn K cStatics "thirdparty.any") (some none) && fdB P K x (He.ga K x)))))))))))
theorem xcB_ok {P : Program} {K : PySem.W.Frag} {c : XcD} (h : xcB P K c.x c.f = true) (e : xcObs K c.x = c.val) (htop : (P.main.scope.names.lookup ("super" : Str)).isSome = false) (hne : ((c.f == ("self" : Str)) = false ∧ (c.f == ("__class__" : Str)) = false) ∧ (c.f == ("super" : Str)) = false ∧ (c.f == ("__debug__" : Str)) = false)
    (hline : (c.p.a3.endLine == c.p.a5.line) = true) (hb : ∀ (qual : Str) (doc pm : Value) (an : Option Addr) (ct cdv : Value) (cc : Addr) (s : Shared) (u v : Value), BindsTo s (PySem.W.ksFn "__init__" qual (PySem.Xc.iA c.f c.p) (PySem.Xc.iB c.m c.f c.p) (PySem.Xc.iS c.f) .none .none doc pm an cdv ct cc) ⟨[u, v], []⟩ [("self", u), (c.f, v)]) :
    ∃ fI cc cda, PySem.Xc.Txt P K c.x c.f c.m (He.ga K c.x) fI cc cda := by
  unfold xcB at h
  obtain ⟨h1, h⟩ := He.ba h
  obtain ⟨h2, h⟩ := He.ba h
  obtain ⟨h3, h⟩ := He.ba h
  obtain ⟨h4, h⟩ := He.ba h
  obtain ⟨h5, h⟩ := He.ba h
  obtain ⟨h6, h⟩ := He.ba h
  obtain ⟨h7, h⟩ := He.ba h
  obtain ⟨h8, h⟩ := He.ba h
  obtain ⟨h9, h⟩ := He.ba h
  obtain ⟨h10, h⟩ := He.ba h
  obtain ⟨h11, h12⟩ := He.ba h
  unfold fdB at h12
  unfold xcObs at e
  cases q : K.lookup (iniAd K c.x) with
  | none =>
    rw [q] at h12
    cases h12
  | some o =>
    obtain ⟨oc, od, dt, osl⟩ := o
    rw [q] at h12 e
    cases dt with
    | func fd =>
      obtain ⟨n1, n2, n3, n4, n5, n6, n7, n8, n9, n10, n11, n12, n13, n14, n15⟩ := fd
      dsimp only at h12
      split at h12
      · rename_i k cc cda
        obtain ⟨g1, g2⟩ := He.ba h12
        obtain ⟨g2, g3⟩ := He.ba g2
        have e2 : (some (n1, n3, n4, n5, n6, [k], n8, n9, n15) : XcV) = c.val := e
        unfold XcD.val at e2
        simp only [Option.some.injEq, Prod.mk.injEq, List.cons.injEq, and_true] at e2
        obtain ⟨e1, e3, e4, e5, e6, e7, e8, e9, e10⟩ := e2
        subst e1 e3 e4 e5 e6 e7 e8 e9 e10
        exact ⟨iniAd K c.x, cc, cda, clsB_ok h1, He.eqO_ok h2, He.eqO_ok h3, He.eqO_ok h4, of_decide_eq_true h5, h6, of_decide_eq_true h7, of_decide_eq_true h8, of_decide_eq_true h9, of_decide_eq_true h10, cellB_ok g1, codeB_ok g2, He.eqO_ok h11, htop, hne,
          oc, od, n10, n11, n12, n14, osl, n2, c.p, q, g3, hline, fun s u v => hb n2 n10 n11 n12 n14 _ cc s u v⟩
      · cases h12
    | _ => cases h12
/-- what isinstance asks of a class -/
def isB (K : PySem.W.Frag) (x : Str) : Bool := He.eqO (PySem.W.findIn K (.ref (He.ga K x)) "__getattribute__") (some (some (.builtin "BaseException.__getattribute__"))) && (He.eqO (PySem.W.findIn K (.ref (He.ga K x)) "__getattr__") (some none) && (decide (PySem.W.subIn K (.ref (He.ga K x)) (.type "BaseException") = some true) &&
  (PySem.W.hasDictIn K (He.ga K x) && (He.eqO (PySem.W.findIn K (.ref (He.ga K x)) "__class__") (some (some (.builtin "object.__class__"))) && (He.eqO (PySem.W.specialIn K (.builtin "object.__class__") "__get__") (some (some (.builtin "getset_descriptor.__get__"))) && (decide (PySem.W.takesIn K (.builtin "object.__class__") = some true) &&
  (decide (PySem.W.mroIn K (He.ga K x) (.type "object") = some true) && decide (PySem.W.kitOne K (.ref (He.ga K x)) (.type "ValueError") = some true))))))))
theorem isB_ok {K : PySem.W.Frag} {x : Str} (h : isB K x = true) : ExcC K (He.ga K x) ∧ PySem.W.kitOne K (.ref (He.ga K x)) (.type "ValueError") = some true := by
  unfold isB at h
  obtain ⟨h1, h⟩ := He.ba h
  obtain ⟨h2, h⟩ := He.ba h
  obtain ⟨h3, h⟩ := He.ba h
  obtain ⟨h4, h⟩ := He.ba h
  obtain ⟨h5, h⟩ := He.ba h
  obtain ⟨h6, h⟩ := He.ba h
  obtain ⟨h7, h⟩ := He.ba h
  obtain ⟨h8, h9⟩ := He.ba h
  exact ⟨⟨He.eqO_ok h1, He.eqO_ok h2, of_decide_eq_true h3, h4, He.eqO_ok h5, He.eqO_ok h6, of_decide_eq_true h7, of_decide_eq_true h8⟩, of_decide_eq_true h9⟩
/-- which class is below which -/
abbrev Tbl : Type := List (Str × Str × Bool)
def Tbl.get (t : Tbl) (c y : Str) : Option Bool := (t.find? fun q => decide (q.1 = c) && decide (q.2.1 = y)).map (·.2.2)
theorem Tbl.get_ok {t : Tbl} {c y : Str} {b : Bool} (h : t.get c y = some b) : (c, y, b) ∈ t := by
  unfold Tbl.get at h
  cases e : t.find? (fun q => decide (q.1 = c) && decide (q.2.1 = y)) with
  | none =>
    rw [e] at h
    cases h
  | some q =>
    rw [e] at h
    have h1 := List.mem_of_find?_eq_some e
    have h2 := List.find?_some e
    obtain ⟨q1, q2, q3⟩ := q
    obtain ⟨h3, h4⟩ := He.ba h2
    have e1 : q1 = c := of_decide_eq_true h3
    have e2 : q2 = y := of_decide_eq_true h4
    have e3 : q3 = b := Option.some.inj h
    rw [e1, e2, e3] at h1
    exact h1
def tblB (K : PySem.W.Frag) (t : Tbl) : Bool := t.all fun q => decide (PySem.W.exmOne K (.ref (He.ga K q.1)) (.ref (He.ga K q.2.1)) = some q.2.2) && (decide (PySem.W.kitOne K (.ref (He.ga K q.1)) (.ref (He.ga K q.2.1)) = some q.2.2) && isB K q.1)
/-! ### the hook -/
structure PrD where
  fa : List He.Fa
  fn : List He.DefD
  xs : List XcD
  tb : Tbl
  nf : List Str
  fl : List Str
def moreB (P : Program) (d : PrD) (K : PySem.W.Frag) : Bool := (d.xs.all fun c => xcB P K c.x c.f) && (tblB K d.tb && d.nf.all fun x => isB K x && d.fl.all fun f => He.eqO (PySem.W.findIn K (.ref (He.ga K x)) f) (some none))
abbrev AlP : Type := He.AlD × List XcV × Bool
def obsP (P : Program) (d : PrD) (K : PySem.W.Frag) : AlP := (He.obsD d.fa d.fn K, d.xs.map (fun c => xcObs K c.x), moreB P d K)
def valP (d : PrD) : AlP := (He.valD d.fn, d.xs.map XcD.val, true)
structure SaysP (P : Program) (d : PrD) (K : PySem.W.Frag) : Prop where
  t : He.SaysD d.fa d.fn K
  x : d.xs.map (fun c => xcObs K c.x) = d.xs.map XcD.val
  m : moreB P d K = true
def asP (g : Addr → Option Obj) : Nat → List Addr
  | 0 => [mainGlobals, cStatics]
  | n + 1 => He.growD g (asP g n)
def obsPG (n : Nat) (P : Program) (d : PrD) (g : Addr → Option Obj) : AlP := obsP P d (He.frG g (asP g n))
def hookP (n : Nat) (P : Program) (d : PrD) : PySem.W.Hook where
  α := AlP
  obs := fun s => obsPG n P d s.heap.get?
  val := fun _ => valP d
  says := fun _ h => ∃ K : PySem.W.Frag, K.In h ∧ SaysP P d K
  of := fun _ _ e => ⟨_, He.frG_in, ⟨congrArg (fun z : AlP => z.1) e, congrArg (fun z : AlP => z.2.1) e, congrArg (fun z : AlP => z.2.2) e⟩⟩
  keeps := fun _ _ _ ⟨K, hK, c⟩ k => ⟨K, PySem.W.Frag.In.keeps hK k, c⟩
theorem obsPG_eq {n : Nat} {P : Program} {d : PrD} {g : Addr → Option Obj} {s : Shared} (h : ∀ a, g a = s.heap.get? a) : obsPG n P d g = (hookP n P d).obs s := by
  have e : g = s.heap.get? := funext h
  rw [e] <;> rfl
section
variable {P : Program} {d : PrD} {K : PySem.W.Frag}
theorem SaysP.xc (s : SaysP P d K) (i : Nat) {c : XcD} (h : d.xs[i]? = some c) (htop : (P.main.scope.names.lookup ("super" : Str)).isSome = false) (hne : ((c.f == ("self" : Str)) = false ∧ (c.f == ("__class__" : Str)) = false) ∧ (c.f == ("super" : Str)) = false ∧ (c.f == ("__debug__" : Str)) = false)
    (hline : (c.p.a3.endLine == c.p.a5.line) = true) (hb : ∀ (qual : Str) (doc pm : Value) (an : Option Addr) (ct cdv : Value) (cc : Addr) (s : Shared) (u v : Value), BindsTo s (PySem.W.ksFn "__init__" qual (PySem.Xc.iA c.f c.p) (PySem.Xc.iB c.m c.f c.p) (PySem.Xc.iS c.f) .none .none doc pm an cdv ct cc) ⟨[u, v], []⟩ [("self", u), (c.f, v)]) :
    ∃ fI cc cda, PySem.Xc.Txt P K c.x c.f c.m (He.ga K c.x) fI cc cda := by
  have h1 := List.all_eq_true.mp (He.ba s.m).1 c (List.mem_of_getElem? h)
  have e2 : (d.xs.map fun c => xcObs K c.x)[i]? = (d.xs.map XcD.val)[i]? := by rw [s.x]
  rw [List.getElem?_map, List.getElem?_map, h] at e2
  exact xcB_ok h1 (Option.some.inj e2) htop hne hline hb
theorem SaysP.exm (s : SaysP P d K) (c y : Str) (b : Bool) (h : d.tb.get c y = some b) : PySem.W.exmOne K (.ref (He.ga K c)) (.ref (He.ga K y)) = some b :=
  of_decide_eq_true (He.ba (List.all_eq_true.mp (He.ba (He.ba s.m).2).1 _ (Tbl.get_ok h))).1
theorem SaysP.kit (s : SaysP P d K) (c y : Str) (b : Bool) (h : d.tb.get c y = some b) : ExcC K (He.ga K c) ∧ PySem.W.kitOne K (.ref (He.ga K c)) (.ref (He.ga K y)) = some b := by
  obtain ⟨h1, h2⟩ := He.ba (List.all_eq_true.mp (He.ba (He.ba s.m).2).1 _ (Tbl.get_ok h))
  obtain ⟨h2, h3⟩ := He.ba h2
  exact ⟨(isB_ok h3).1, of_decide_eq_true h2⟩
theorem SaysP.cls (s : SaysP P d K) (c : Str) (h : c ∈ d.nf) : ExcC K (He.ga K c) ∧ PySem.W.kitOne K (.ref (He.ga K c)) (.type "ValueError") = some true :=
  isB_ok (He.ba (List.all_eq_true.mp (He.ba (He.ba s.m).2).2 c h)).1
theorem SaysP.noat (s : SaysP P d K) {f : Str} (hf : f ∈ d.fl) (c : Str) (h : c ∈ d.nf) : PySem.W.findIn K (.ref (He.ga K c)) f = some none :=
  He.eqO_ok (List.all_eq_true.mp (He.ba (List.all_eq_true.mp (He.ba (He.ba s.m).2).2 c h)).2 f hf)
end
end Pu
end

section
set_option Elab.async false
set_option linter.all false
set_option maxRecDepth 100000
set_option maxHeartbeats 2000000
/-! Px7: short rules; defs by name. -/
namespace Pu
open PySem PySem.Spec PyProof.Rows L2 L2H

theorem u1 {k : Nat} {A : Around} (r : Room k A) : A.units + 1 < cLine := by have := r.un; omega
theorem u64 {k : Nat} {A : Around} (r : Room k A) : A.units + 64 < cLine := by have := r.un; omega
theorem u65 {k : Nat} {A : Around} (r : Room k A) : A.units + 65 < cLine := by have := r.un; omega
section
variable {X : Cx} {Z : Sx} {ω : List Nat} {a b c e : Expr} {fa fb fc : SE} {fl : SA} {pos p p2 : Pos} {es : List Expr} {k : Nat}
theorem x_add (ha : RQ X Z ω a fa) (hb : RQ X Z ω b fb) : RF X Z ω 1 (.BinOp a .Add b pos) (s2 gAdd fa fb) := r_op an_F op_addA oAdd ha hb
theorem x_mul (ha : RQ X Z ω a fa) (hb : RQ X Z ω b fb) : RF X Z ω 1 (.BinOp a .Mult b pos) (s2 gMul fa fb) := r_op an_F op_mulA oMul ha hb
theorem x_sub (ha : RQ X Z ω a fa) (hb : RQ X Z ω b fb) : RP X Z ω (.BinOp a .Sub b pos) (s2 gSub fa fb) := r_op an_P op_sub oSub ha hb
theorem x_mod (ha : RQ X Z ω a fa) (hb : RQ X Z ω b fb) : RP X Z ω (.BinOp a .Mod b pos) (s2 gMod fa fb) := r_op an_P op_mod oMod ha hb
theorem x_fdiv (ha : RQ X Z ω a fa) (hb : RQ X Z ω b fb) : RP X Z ω (.BinOp a .FloorDiv b pos) (s2 gFdiv fa fb) := r_op an_P op_fdiv oFdiv ha hb
theorem x_pow (ha : RQ X Z ω a fa) (hb : RQ X Z ω b fb) : RP X Z ω (.BinOp a .Pow b pos) (s2 gPow fa fb) := r_op an_P op_pow oPow ha hb
theorem x_shl (ha : RQ X Z ω a fa) (hb : RQ X Z ω b fb) : RP X Z ω (.BinOp a .LShift b pos) (s2 gShl fa fb) := r_op an_P op_shl oShl ha hb
theorem x_lt (ha : RQ X Z ω a fa) (hb : RQ X Z ω b fb) : RP X Z ω (.Compare a [.Lt] [b] pos) (s2 gLt fa fb) := r_cmp an_P op_lt oLt ha hb (nomark _)
theorem x_le (ha : RQ X Z ω a fa) (hb : RQ X Z ω b fb) : RP X Z ω (.Compare a [.LtE] [b] pos) (s2 gLe fa fb) := r_cmp an_P op_le oLe ha hb (nomark _)
theorem x_gt (ha : RQ X Z ω a fa) (hb : RQ X Z ω b fb) : RP X Z ω (.Compare a [.Gt] [b] pos) (s2 gGt fa fb) := r_cmp an_P op_gt oGt ha hb (nomark _)
theorem x_ge (ha : RQ X Z ω a fa) (hb : RQ X Z ω b fb) : RP X Z ω (.Compare a [.GtE] [b] pos) (s2 gGe fa fb) := r_cmp an_P op_ge oGe ha hb (nomark _)
theorem x_eq (hr : Room k X.A) (ha : RQ X Z ω a fa) (hb : RQ X Z ω b fb) : RP X Z ω (.Compare a [.Eq] [b] pos) (s2 gEq fa fb) := r_cmp an_P (op_eqD (u64 hr)) oEq ha hb (nomark _)
theorem x_ne (hr : Room k X.A) (ha : RQ X Z ω a fa) (hb : RQ X Z ω b fb) : RP X Z ω (.Compare a [.NotEq] [b] pos) (s2 gNe fa fb) := r_cmp an_P (op_neD (u64 hr)) oNe ha hb (nomark _)
theorem x_in (hr : Room k X.A) (ha : RQ X Z ω a fa) (hb : RQ X Z ω b fb) (hm : behindInMarks .In b = false := by rfl) : RP X Z ω (.Compare a [.In] [b] pos) (s2 gInA fa fb) := r_cmp an_P (op_inA (u65 hr)) oInA ha hb hm
theorem x_nin (hr : Room k X.A) (ha : RQ X Z ω a fa) (hb : RQ X Z ω b fb) (hm : behindInMarks .NotIn b = false := by rfl) : RP X Z ω (.Compare a [.NotIn] [b] pos) (s2 gNotInA fa fb) := r_cmp an_P (op_notInA (u65 hr)) oNotInA ha hb hm
theorem c_lt (ha : RQ X Z ω a fa) (hb : RQ X Z ω b fb) : RT X Z ω (.Compare a [.Lt] [b] pos) (tB' (s2 gLt fa fb)) := t_cmp op_lt oLt ha hb (nomark _)
theorem c_le (ha : RQ X Z ω a fa) (hb : RQ X Z ω b fb) : RT X Z ω (.Compare a [.LtE] [b] pos) (tB' (s2 gLe fa fb)) := t_cmp op_le oLe ha hb (nomark _)
theorem c_gt (ha : RQ X Z ω a fa) (hb : RQ X Z ω b fb) : RT X Z ω (.Compare a [.Gt] [b] pos) (tB' (s2 gGt fa fb)) := t_cmp op_gt oGt ha hb (nomark _)
theorem c_ge (ha : RQ X Z ω a fa) (hb : RQ X Z ω b fb) : RT X Z ω (.Compare a [.GtE] [b] pos) (tB' (s2 gGe fa fb)) := t_cmp op_ge oGe ha hb (nomark _)
theorem c_eq (hr : Room k X.A) (ha : RQ X Z ω a fa) (hb : RQ X Z ω b fb) : RT X Z ω (.Compare a [.Eq] [b] pos) (tB' (s2 gEq fa fb)) := t_cmp (op_eqD (u64 hr)) oEq ha hb (nomark _)
theorem c_ne (hr : Room k X.A) (ha : RQ X Z ω a fa) (hb : RQ X Z ω b fb) : RT X Z ω (.Compare a [.NotEq] [b] pos) (tB' (s2 gNe fa fb)) := t_cmp (op_neD (u64 hr)) oNe ha hb (nomark _)
theorem c_in (hr : Room k X.A) (ha : RQ X Z ω a fa) (hb : RQ X Z ω b fb) (hm : behindInMarks .In b = false := by rfl) : RT X Z ω (.Compare a [.In] [b] pos) (tB' (s2 gInA fa fb)) := t_cmp (op_inA (u65 hr)) oInA ha hb hm
theorem c_nin (hr : Room k X.A) (ha : RQ X Z ω a fa) (hb : RQ X Z ω b fb) (hm : behindInMarks .NotIn b = false := by rfl) : RT X Z ω (.Compare a [.NotIn] [b] pos) (tB' (s2 gNotInA fa fb)) := t_cmp (op_notInA (u65 hr)) oNotInA ha hb hm
theorem x_lele (ha : RQ X Z ω a fa) (hb : RQ X Z ω b fb) (hc : RQ X Z ω c fc) (hm : lastMarks [.LtE, .LtE] [b, c] = false := by rfl) : RP X Z ω (.Compare a [.LtE, .LtE] [b, c] pos) (sChain gLe gLe fa fb fc) := r_chain op_le op_le oLe oLe ha hb hc hm
theorem c_lele (ha : RQ X Z ω a fa) (hb : RQ X Z ω b fb) (hc : RQ X Z ω c fc) (hm : lastMarks [.LtE, .LtE] [b, c] = false := by rfl) : RT X Z ω (.Compare a [.LtE, .LtE] [b, c] pos) (tB' (sChain gLe gLe fa fb fc)) := t_chain op_le op_le oLe oLe ha hb hc hm
theorem x_lelt (ha : RQ X Z ω a fa) (hb : RQ X Z ω b fb) (hc : RQ X Z ω c fc) (hm : lastMarks [.LtE, .Lt] [b, c] = false := by rfl) : RP X Z ω (.Compare a [.LtE, .Lt] [b, c] pos) (sChain gLe gLt fa fb fc) := r_chain op_le op_lt oLe oLt ha hb hc hm
theorem c_lelt (ha : RQ X Z ω a fa) (hb : RQ X Z ω b fb) (hc : RQ X Z ω c fc) (hm : lastMarks [.LtE, .Lt] [b, c] = false := by rfl) : RT X Z ω (.Compare a [.LtE, .Lt] [b, c] pos) (tB' (sChain gLe gLt fa fb fc)) := t_chain op_le op_lt oLe oLt ha hb hc hm
theorem x_ltlt (ha : RQ X Z ω a fa) (hb : RQ X Z ω b fb) (hc : RQ X Z ω c fc) (hm : lastMarks [.Lt, .Lt] [b, c] = false := by rfl) : RP X Z ω (.Compare a [.Lt, .Lt] [b, c] pos) (sChain gLt gLt fa fb fc) := r_chain op_lt op_lt oLt oLt ha hb hc hm
theorem c_ltlt (ha : RQ X Z ω a fa) (hb : RQ X Z ω b fb) (hc : RQ X Z ω c fc) (hm : lastMarks [.Lt, .Lt] [b, c] = false := by rfl) : RT X Z ω (.Compare a [.Lt, .Lt] [b, c] pos) (tB' (sChain gLt gLt fa fb fc)) := t_chain op_lt op_lt oLt oLt ha hb hc hm
theorem x_ltle (ha : RQ X Z ω a fa) (hb : RQ X Z ω b fb) (hc : RQ X Z ω c fc) (hm : lastMarks [.Lt, .LtE] [b, c] = false := by rfl) : RP X Z ω (.Compare a [.Lt, .LtE] [b, c] pos) (sChain gLt gLe fa fb fc) := r_chain op_lt op_le oLt oLe ha hb hc hm
theorem c_ltle (ha : RQ X Z ω a fa) (hb : RQ X Z ω b fb) (hc : RQ X Z ω c fc) (hm : lastMarks [.Lt, .LtE] [b, c] = false := by rfl) : RT X Z ω (.Compare a [.Lt, .LtE] [b, c] pos) (tB' (sChain gLt gLe fa fb fc)) := t_chain op_lt op_le oLt oLe ha hb hc hm
theorem b_len' : bootBuiltins "len" = some (.builtin "len") := by decide +kernel
theorem b_max' : bootBuiltins "max" = some (.builtin "max") := by decide +kernel
theorem b_min' : bootBuiltins "min" = some (.builtin "min") := by decide +kernel
theorem b_sorted' : bootBuiltins "sorted" = some (.builtin "sorted") := by decide +kernel
theorem b_sum' : bootBuiltins "sum" = some (.builtin "sum") := by decide +kernel
theorem b_int' : bootBuiltins "int" = some (.type "int") := by decide +kernel
theorem b_bool' : bootBuiltins "bool" = some (.type "bool") := by decide +kernel
theorem b_str' : bootBuiltins "str" = some (.type "str") := by decide +kernel
theorem b_list' : bootBuiltins "list" = some (.type "list") := by decide +kernel
theorem b_tuple' : bootBuiltins "tuple" = some (.type "tuple") := by decide +kernel
theorem x_len (hm : X.mg "len" = none) (ha : RAQ X Z ω [e] fl) (hg : Gl X "len" := by rfl) (he : starEach [e] X.env = (false, eval e X.env) :: starEach [] X.env := by rfl) : RP X Z ω (.Call (.Name "len" p) [e] [] pos) (sCall gLen fl) := r_callB an_P call_len cLen hm b_len' ha hg (by decide) (by decide) he
theorem x_max2 (hc : X.calm = true) (hm : X.mg "max" = none) (ha : RAQ X Z ω [e, b] fl) (hg : Gl X "max" := by rfl) (he : starEach [e, b] X.env = (false, eval e X.env) :: starEach [b] X.env := by rfl) (hpl : (backTo pos (starEach [b] X.env)).any (·.1) = false := by rfl) : RP X Z ω (.Call (.Name "max" p) [e, b] [] pos) (sCall gMax2 fl) := r_callB an_P (call_max2 hc) cMax2 hm b_max' ha hg (by decide) (by decide) he hpl
theorem x_min2 (hc : X.calm = true) (hm : X.mg "min" = none) (ha : RAQ X Z ω [e, b] fl) (hg : Gl X "min" := by rfl) (he : starEach [e, b] X.env = (false, eval e X.env) :: starEach [b] X.env := by rfl) (hpl : (backTo pos (starEach [b] X.env)).any (·.1) = false := by rfl) : RP X Z ω (.Call (.Name "min" p) [e, b] [] pos) (sCall gMin2 fl) := r_callB an_P (call_min2 hc) cMin2 hm b_min' ha hg (by decide) (by decide) he hpl
theorem x_sorted (hm : X.mg "sorted" = none) (ha : RAQ X Z ω [e] fl) (hg : Gl X "sorted" := by rfl) (he : starEach [e] X.env = (false, eval e X.env) :: starEach [] X.env := by rfl) : RF X Z ω 1 (.Call (.Name "sorted" p) [e] [] pos) (sCall gSorted fl) := r_callB an_F cr_sortedI cSorted hm b_sorted' ha hg (by decide) (by decide) he
theorem x_sum (hc : X.calm = true) (hm : X.mg "sum" = none) (ha : RAQ X Z ω [e] fl) (hg : Gl X "sum" := by rfl) (he : starEach [e] X.env = (false, eval e X.env) :: starEach [] X.env := by rfl) : RP X Z ω (.Call (.Name "sum" p) [e] [] pos) (sCall gSum fl) := r_callB an_P (cr_sum hc) cSum hm b_sum' ha hg (by decide) (by decide) he
theorem x_int (hm : X.mg "int" = none) (ha : RAQ X Z ω [e] fl) (hg : Gl X "int" := by rfl) (he : starEach [e] X.env = (false, eval e X.env) :: starEach [] X.env := by rfl) : RP X Z ω (.Call (.Name "int" p) [e] [] pos) (sCall gInt fl) := r_callTy an_P call_int1 cInt hm b_int' ha hg (by decide) (by decide) he
theorem x_list (hm : X.mg "list" = none) (ha : RAQ X Z ω [e] fl) (hg : Gl X "list" := by rfl) (he : starEach [e] X.env = (false, eval e X.env) :: starEach [] X.env := by rfl) : RF X Z ω 1 (.Call (.Name "list" p) [e] [] pos) (sCall gList fl) := r_callTy an_F call_list_of cList hm b_list' ha hg (by decide) (by decide) he
theorem x_tuple (hm : X.mg "tuple" = none) (ha : RAQ X Z ω [e] fl) (hg : Gl X "tuple" := by rfl) (he : starEach [e] X.env = (false, eval e X.env) :: starEach [] X.env := by rfl) : RP X Z ω (.Call (.Name "tuple" p) [e] [] pos) (sCall gTuple fl) := r_callTy an_P call_tuple_of cTuple hm b_tuple' ha hg (by decide) (by decide) he
theorem x_isint (hI : X.mg "isinstance" = none) (hT : X.mg "int" = none) (he : RP X Z ω e fa) (hg : Gl X "isinstance" := by rfl) (hgT : Gl X "int" := by rfl) (hs : starEach (e :: [.Name "int" p2]) X.env = (false, eval e X.env) :: starEach [.Name "int" p2] X.env := by rfl) : RP X Z ω (.Call (.Name "isinstance" p) [e, .Name "int" p2] [] pos) (s1 (gIs isInt) fa) := r_isi kt_int he hI hT b_int' hg hgT (by decide) (by decide) hs
theorem x_isbool (hI : X.mg "isinstance" = none) (hT : X.mg "bool" = none) (he : RP X Z ω e fa) (hg : Gl X "isinstance" := by rfl) (hgT : Gl X "bool" := by rfl) (hs : starEach (e :: [.Name "bool" p2]) X.env = (false, eval e X.env) :: starEach [.Name "bool" p2] X.env := by rfl) : RP X Z ω (.Call (.Name "isinstance" p) [e, .Name "bool" p2] [] pos) (s1 (gIs isBool) fa) := r_isi kt_bool he hI hT b_bool' hg hgT (by decide) (by decide) hs
theorem x_islist (hI : X.mg "isinstance" = none) (hT : X.mg "list" = none) (he : RP X Z ω e fa) (hg : Gl X "isinstance" := by rfl) (hgT : Gl X "list" := by rfl) (hs : starEach (e :: [.Name "list" p2]) X.env = (false, eval e X.env) :: starEach [.Name "list" p2] X.env := by rfl) : RP X Z ω (.Call (.Name "isinstance" p) [e, .Name "list" p2] [] pos) (s1 (gIs isList) fa) := r_isi kt_list he hI hT b_list' hg hgT (by decide) (by decide) hs
theorem x_istup (hI : X.mg "isinstance" = none) (hT : X.mg "tuple" = none) (he : RP X Z ω e fa) (hg : Gl X "isinstance" := by rfl) (hgT : Gl X "tuple" := by rfl) (hs : starEach (e :: [.Name "tuple" p2]) X.env = (false, eval e X.env) :: starEach [.Name "tuple" p2] X.env := by rfl) : RP X Z ω (.Call (.Name "isinstance" p) [e, .Name "tuple" p2] [] pos) (s1 (gIs isTup) fa) := r_isi kt_tup he hI hT b_tuple' hg hgT (by decide) (by decide) hs
theorem x_isstr (hI : X.mg "isinstance" = none) (hT : X.mg "str" = none) (he : RP X Z ω e fa) (hg : Gl X "isinstance" := by rfl) (hgT : Gl X "str" := by rfl) (hs : starEach (e :: [.Name "str" p2]) X.env = (false, eval e X.env) :: starEach [.Name "str" p2] X.env := by rfl) : RP X Z ω (.Call (.Name "isinstance" p) [e, .Name "str" p2] [] pos) (s1 (gIs isStr) fa) := r_isi kt_str he hI hT b_str' hg hgT (by decide) (by decide) hs
end
/-! ### defs by name -/
def Has (P : Program) (w : World) (K : PySem.W.Frag) (mg : Str → Option Value) (base : Heap) (x : Str) (k lv : Nat) (ps : List Str) (m : List D → R D) : Prop :=
  ∃ f fd, FnOk P w K mg base (L2N.CX P w) k f fd ps (spP K lv ps.length m) ∧ Binds K fd ps [] ∧ mg x = some (.ref f) ∧ PySem.W.keepIn K (.ref f) = true
def HasH (P : Program) (w : World) (K : PySem.W.Frag) (mg : Str → Option Value) (base : Heap) (x : Str) (k lv : Nat) (ps : List Str) (m : List D → R D) : Prop :=
  ∃ f fd, FnH P w K mg base (L2N.CX P w) k f fd ps (spP K lv ps.length m) ∧ Binds K fd ps [] ∧ mg x = some (.ref f) ∧ PySem.W.keepIn K (.ref f) = true
section
variable {X : Cx} {Z : Sx} {ω : List Nat} {x : Str} {p pos : Pos} {e : Expr} {es : List Expr} {fa : SA} {k j lv : Nat} {ps : List Str} {m : List D → R D}
theorem x_call (F : Has X.prog X.w X.K X.mg X.base x k lv ps m) (tk : L2N.Takes X Z.W) (hr : Room j X.A) (ha : RA X Z ω (e :: es) fa) (hkj : k ≤ j := by decide) (hn : ps.length = es.length + 1 := by rfl)
    (hg : Gl X x := by rfl) (hdb : (x == ("__debug__" : Str)) = false := by decide) (he : starEach (e :: es) X.env = (false, eval e X.env) :: starEach es X.env := by rfl) (hpl : (backTo pos (starEach es X.env)).any (·.1) = false := by rfl)
    (hl : ALen fa (es.length + 1) := by repeat' first | exact len_nil | refine len_cons ?_) : RF X Z ω lv (.Call (.Name x p) (e :: es) [] pos) (sCall m fa) := by
  obtain ⟨f, fd, h1, h2, h3, h4⟩ := F
  exact r_call h1 tk (hr.mono hkj) h3 h4 h2 ha hn hg hdb he hpl hl
theorem x_callH (F : HasH X.prog X.w X.K X.mg X.base x k lv ps m) (hx : ∀ σ, PassesAt (L2N.CX X.prog X.w) X σ (WE Z.W σ)) (hr : RoomH j X.A) (hc : HotC X) (ha : RA X Z ω (e :: es) fa) (hkj : k ≤ j := by decide) (hn : ps.length = es.length + 1 := by rfl)
    (hg : Gl X x := by rfl) (hdb : (x == ("__debug__" : Str)) = false := by decide) (he : starEach (e :: es) X.env = (false, eval e X.env) :: starEach es X.env := by rfl) (hpl : (backTo pos (starEach es X.env)).any (·.1) = false := by rfl)
    (hl : ALen fa (es.length + 1) := by repeat' first | exact len_nil | refine len_cons ?_) : RF X Z ω lv (.Call (.Name x p) (e :: es) [] pos) (sCall m fa) := by
  obtain ⟨f, fd, h1, h2, h3, h4⟩ := F
  exact r_callH h1 hx (hr.mono hkj) hc h3 h4 h2 ha hn hg hdb he hpl hl
end
/-- in a suite nothing is let out -/
theorem no_takes {X : Cx} (tk : ∀ u s', ¬ L2N.XE X Wno u s') : L2N.Takes X Wno := fun u s' h => (tk u s' h).elim
theorem takes_no {X : Cx} : L2N.Takes X Wno := fun u s' ⟨_, _, _, _, _, _, _, _, _, _, _, _, _, _, _, _, w⟩ => w.elim
theorem pass_no {X : Cx} (σ : St) : PassesAt (L2N.CX X.prog X.w) X σ (WE Wno σ) := L2N.passAt takes_no σ
theorem blk_of {N : List Str} {sc scope : Scope} {own : List (Str × Nat)} (h : (decide (scope.kind = .function) && ((scope.names.all fun y => decide (scope.names.lookup y.1 = some y.2)) && ((own.all fun p => decide (N[p.2]? = some p.1)) && ((scope.names.all fun y => !decide (y.2 = .free) || (decide (sc.names.lookup y.1 = some .cell) || decide (sc.names.lookup y.1 = some .free))) &&
    scope.names.all fun y => !(decide (y.2 = .local) || decide (y.2 = .cell)) || (decide (y.1 ∈ own.map (·.1)) || decide (y.1 ∉ N)))))) = true) : BlkOk N sc scope own := by
  obtain ⟨h1, h⟩ := He.ba h
  obtain ⟨h2, h⟩ := He.ba h
  obtain ⟨h3, h⟩ := He.ba h
  obtain ⟨h4, h5⟩ := He.ba h
  refine ⟨of_decide_eq_true h1, fun y hy => of_decide_eq_true (List.all_eq_true.mp h2 y hy), fun p hp => of_decide_eq_true (List.all_eq_true.mp h3 p hp), fun y hy e => ?_, fun y hy e => ?_⟩
  · have := List.all_eq_true.mp h4 y hy
    rw [decide_eq_true e, Bool.not_true, Bool.false_or, Bool.or_eq_true] at this
    exact this.imp of_decide_eq_true of_decide_eq_true
  · have := List.all_eq_true.mp h5 y hy
    have e' : (decide (y.2 = .local) || decide (y.2 = .cell)) = true := by
      rcases e with e | e
      · rw [decide_eq_true e, Bool.true_or]
      · rw [decide_eq_true e, Bool.or_true]
    rw [e', Bool.not_true, Bool.false_or, Bool.or_eq_true] at this
    exact this.imp of_decide_eq_true of_decide_eq_true
end Pu
end

section
set_option Elab.async false
set_option linter.all false
set_option maxRecDepth 100000
set_option maxHeartbeats 2000000
/-! Px8: a law's defs, one by one. -/
namespace Pu
open PySem PySem.Spec PyProof.Rows L2 L2H

/-- what a law's head tells -/
structure EnvG (P : Program) (pd : PrD) (K : PySem.W.Frag) (mg : Str → Option Value) : Prop where
  c : SaysP P pd K
  h : ∃ h : Heap, K.In h ∧ h.Ns mainGlobals mg
section
variable {P : Program} {w : World} {pd : PrD} {K : PySem.W.Frag} {mg : Str → Option Value} {base : Heap}
theorem EnvG.glo (G : EnvG P pd K mg) {x : Str} (i : Nat) (e : pd.fa[i]? = some (.glo x)) : mg x = some (.ref (He.ga K x)) := by
  obtain ⟨h, X, n⟩ := G.h
  exact He.glo_ok X n (G.c.t.fact i e)
theorem EnvG.free (G : EnvG P pd K mg) {x : Str} (i : Nat) (e : pd.fa[i]? = some (.free x)) : mg x = none := by
  obtain ⟨h, X, n⟩ := G.h
  exact He.free_ok X n (G.c.t.fact i e)
theorem EnvG.int (G : EnvG P pd K mg) {x : Str} {j : Int} (i : Nat) (e : pd.fa[i]? = some (.int x j)) : ∃ t, mg x = some (.int j t) := by
  obtain ⟨h, X, n⟩ := G.h
  exact He.int_ok X n (G.c.t.fact i e)
theorem has_of {d : He.DefD} {x : Str} {N ps : List Str} {k lv : Nat} {fb : SS} (ω0 ωe : List Nat) (G : EnvG P pd K mg) (i : Nat) (ed : pd.fn[i]? = some d) (ha : d.at_ = (x, none)) (hd : d.dfl = []) (hx : mg x = some (.ref (He.ga K x))) (S : FnScope N ps d.scope) (hn : ps.length ≤ N.length) (h0 : List.replicate N.length 0 = ω0)
    (hbind : ∀ (kV doc pm : Value) (an : Option Addr) (cdv ct : Value) (us : List Value), us.length = ps.length → bindArgs (PySem.W.fnOf d.name d.qual d.params d.body d.scope .none kV doc pm an cdv ct) ⟨us, []⟩ = pure (ps.zip us))
    (hb : ∀ (cdv : Value) (f : Addr) (A : Around) (outer : List Env) (s : Shared) (H : Hp) (E : XK), Room k (A.deeper (envOfC d.qual d.scope s.heap.objs.size f cdv)) →
      RSs (cxOf (L2N.CX P w) P w K mg base N d.qual d.scope f cdv A outer s H E) ⟨fun c d _ H' => E c d H', none⟩ ⟨lv, [], []⟩ ω0 ωe d.body fb) :
    Has P w K mg base x (k + 1) lv ps (dataOf N.length fb) := by
  subst h0
  obtain ⟨fd, F⟩ := G.c.t.def_ i (d := d) ed
  have ef : He.fAd K d.at_ = He.ga K x := by rw [ha] <;> rfl
  have ed' : d.dvs K = [] := by unfold He.DefD.dvs; rw [hd] <;> rfl
  rw [ed'] at F
  refine ⟨_, fd, fn_ok ωe F S hn fun cdv A outer s H E hr => hb cdv _ A outer s H E hr, F.bindsN hbind, ?_, F.kp⟩
  rw [ef]
  exact hx
theorem hasH_of {d : He.DefD} {x : Str} {N ps : List Str} {k lv : Nat} {fb : SS} (ω0 ωe : List Nat) (G : EnvG P pd K mg) (i : Nat) (ed : pd.fn[i]? = some d) (ha : d.at_ = (x, none)) (hd : d.dfl = []) (hx : mg x = some (.ref (He.ga K x))) (S : FnScope N ps d.scope) (hn : ps.length ≤ N.length) (h0 : List.replicate N.length 0 = ω0)
    (hbind : ∀ (kV doc pm : Value) (an : Option Addr) (cdv ct : Value) (us : List Value), us.length = ps.length → bindArgs (PySem.W.fnOf d.name d.qual d.params d.body d.scope .none kV doc pm an cdv ct) ⟨us, []⟩ = pure (ps.zip us))
    (hb : ∀ (cdv : Value) (f : Addr) (A : Around) (outer : List Env) (s : Shared) (H : Hp) (E : XK) (p : Addr × Obj), RoomH k (A.deeper (envOfC d.qual d.scope s.heap.objs.size f cdv)) →
      RSs (cxH (L2N.CX P w) P w K mg base N d.qual d.scope f cdv A outer s H E p) ⟨fun c d _ H' => E c d H', none⟩ ⟨lv, [], []⟩ ω0 ωe d.body fb) :
    HasH P w K mg base x (k + 1) lv ps (dataOf N.length fb) := by
  subst h0
  obtain ⟨fd, F⟩ := G.c.t.def_ i (d := d) ed
  have ef : He.fAd K d.at_ = He.ga K x := by rw [ha] <;> rfl
  have ed' : d.dvs K = [] := by unfold He.DefD.dvs; rw [hd] <;> rfl
  rw [ed'] at F
  refine ⟨_, fd, fn_okH ωe F S hn fun cdv A outer s H E p hr => hb cdv _ A outer s H E p hr, F.bindsN hbind, ?_, F.kp⟩
  rw [ef]
  exact hx
end
end Pu
end

section
set_option Elab.async false
set_option linter.all false
set_option maxRecDepth 100000
set_option maxHeartbeats 2000000
/-! Px9: append, raise by short rules. -/
namespace Pu
open PySem PySem.Spec PyProof.Rows L2 L2H

section
variable {X : Cx} {Z : Sx} {L : Lp} {ω ωn : List Nat} {e : Expr} {fe : SE} {x f m : Str} {p pos pos2 p1 p2 : Pos} {k : Nat}
theorem x_raise (T : ∃ fI cc cda, PySem.Xc.Txt X.prog X.K x f m (He.ga X.K x) fI cc cda) (gC : X.mg x = some (.ref (He.ga X.K x))) (gS : X.mg "super" = none) (hr : Room k X.A) (tk : L2N.Takes X Z.W) (hc : X.calm = true) (he : RP X Z ω e fe) (hg : Gl X x := by rfl) (hdb : (x == ("__debug__" : Str)) = false := by decide)
    (hs : starEach (e :: []) X.env = (false, eval e X.env) :: starEach [] X.env := by rfl) (hpl : (backTo pos (starEach [] X.env)).any (·.1) = false := by rfl) :
    RS X Z L ω ωn (.Raise (some (.Call (.Name x p) [e] [] pos)) none pos2) (sRaise x f fe) := by
  obtain ⟨fI, cc, cda, T⟩ := T
  exact s_raise T gC gS hr tk hc he hg hdb hs hpl
theorem x_app (i : Nat) {q : Nat} {y : Str} (h : RF X Z ω q e fe) (hk : ω.getD i 0 = q + 1 := by rfl) (hN : X.N[i]? = some y := by rfl) (hv : Vis X.env.scope y := by first | exact Or.inl rfl | exact Or.inr (Or.inl rfl) | exact Or.inr (Or.inr rfl)) (hd : (y == ("__debug__" : Str)) = false := by decide)
    (hcd : (y == ("__classdict__" : Str)) = false := by decide) (hbase : attributeBase (.Name y p1) "append" X.env (eval (.Name y p1) X.env) = eval (.Name y p1) X.env := by rfl)
    (hfew : ((backTo pos (starEach [e] X.env)).all (fun x => !x.1) && (backToKw pos (keywordEach [] X.env)).all (fun x => x.1.isSome)
      && decide ([e].length + ([] : List Keyword).length + (if ([] : List Keyword).isEmpty then 0 else 1) < 30)) = true := by rfl)
    (hline : (p2.endLine == pos.line) = true := by rfl) (hs1 : starEach [e] X.env = (false, eval e X.env) :: starEach [] X.env := by rfl) (hplain : (backTo pos (starEach [] X.env)).any (·.1) = false := by rfl)
    (hs : swapsWith (.Call (.Attribute (.Name y p1) "append" p2) [e] [] pos) none pos2.line X.env = pure false := by rfl) : RS X Z L ω ω (.Expr (.Call (.Attribute (.Name y p1) "append" p2) [e] [] pos) pos2) (sApp i fe) :=
  s_app i hk h hN hv hd hcd (te0 := tVar i) (pe := pe_bm PySem.F.plainAttrs_list PySem.F.slot_list_append PySem.F.type_list_append mt_append (pe_var (i := i) hN hv hd hcd) (pa_cons h pa_nil hs1) hbase hfew hline hs1 hplain) hs
theorem x_cls {cl : List ClsD} {n : Nat} (h : (cl.all fun q => match q.2.1 with | some j => decide (j < n) | none => true) = true) : ∀ q ∈ cl, ∀ j, q.2.1 = some j → j < n := fun q hq j e => by
  have := List.all_eq_true.mp h q hq
  rw [e] at this
  exact of_decide_eq_true this
end
end Pu
end

section
set_option Elab.async false
set_option linter.all false
set_option maxRecDepth 100000
set_option maxHeartbeats 2000000
/-! Px10: a law's end. -/
namespace Pu
open PySem PySem.Spec PyProof.Rows L2 L2H

theorem fn_ok0 {P : Program} {w : World} {K : PySem.W.Frag} {mg : Str → Option Value} {base : Heap} {k : Nat} {f : Addr} {fd : FuncData} {ps : List Str} {sp : Sp} (F : FnOk P w K mg base (L2N.CX P w) k f fd ps sp) :
    FnOk P w K mg base CX0 k f fd ps (fun vs H Q _ => sp vs H Q fun _ _ _ => False) :=
  ⟨fun vs H Q E h => F.len vs H Q _ h, fun A outer s H args us vs Q E hr he hb hv h => codeAny_mono (F.run A outer s H args us vs Q (fun _ _ _ => False) hr he hb hv h) fun r s' q => by
    cases r with
    | ok fl => cases fl <;> exact q
    | error e =>
      obtain ⟨_, _, _, _, _, _, _, _, _, _, _, _, q⟩ := q
      exact q.elim⟩
/-- the script's data -/
def scrD (ns : List Int) : D := .dict [(.none, .list (ns.map PyData.int))]
theorem sp_law {K : PySem.W.Frag} {H : Hp} {a : Addr} {ns : List Int} {m : List D → R D} (hS : SqL K H a (ns.map V.int)) (e : m [scrD ns] = .ok (.bool true)) : spP K 0 1 m [.ref a] H (fun v _ => v = .bl true) fun _ _ _ => False := by
  refine ⟨rfl, H, [scrD ns], .refl _, .cons (.scr hS (.of_ints ns)) .nil, ?_⟩
  rw [e]
  rintro v S' H' _ ⟨P, h, _⟩
  exact bool_rp h.1
section
variable {P : Program} {w : World} {pd : PrD} {K : PySem.W.Frag} {mg : Str → Option Value}
theorem law_of {d : He.DefD} {N : List Str} {k : Nat} {fb : SS} (ω0 ωe : List Nat) (G : EnvG P pd K mg) (i : Nat) (ed : pd.fn[i]? = some d) (ha : d.at_ = (PySem.Str.ofString "law", none)) (hd : d.dfl = []) (S : FnScope N ["script"] d.scope) (hn : 1 ≤ N.length) (h0 : List.replicate N.length 0 = ω0)
    (hbind : ∀ (kV doc pm : Value) (an : Option Addr) (cdv ct : Value) (us : List Value), us.length = 1 → bindArgs (PySem.W.fnOf d.name d.qual d.params d.body d.scope .none kV doc pm an cdv ct) ⟨us, []⟩ = pure ((["script"] : List Str).zip us))
    (hb : ∀ (base : Heap) (cdv : Value) (f : Addr) (A : Around) (outer : List Env) (s : Shared) (H : Hp) (E : XK), Room k (A.deeper (envOfC d.qual d.scope s.heap.objs.size f cdv)) →
      RSs (cxOf (L2N.CX P w) P w K mg base N d.qual d.scope f cdv A outer s H E) ⟨fun c d _ H' => E c d H', none⟩ ⟨0, [], []⟩ ω0 ωe d.body fb) :
    ∃ fd : FuncData, (∀ (s : Shared) (v : Value), BindsTo s fd ⟨[v], []⟩ [("script", v)]) ∧ ∀ base : Heap, FnOk P w K mg base CX0 (k + 1) (He.ga K "law") fd ["script"] (fun vs H Q _ => spP K 0 1 (dataOf N.length fb) vs H Q fun _ _ _ => False) := by
  subst h0
  obtain ⟨fd, F⟩ := G.c.t.def_ i (d := d) ed
  have ef : He.fAd K d.at_ = He.ga K "law" := by rw [ha] <;> rfl
  have ed' : d.dvs K = [] := by unfold He.DefD.dvs; rw [hd] <;> rfl
  rw [ed', ef] at F
  refine ⟨fd, fun s v => F.bindsA (ps := ["script"]) hbind s [v] rfl, fun base => fn_ok0 (fn_ok ωe F S hn fun cdv A outer s H E hr => hb base cdv _ A outer s H E hr)⟩
end
end Pu
end

section
set_option Elab.async false
set_option linter.all false
set_option maxRecDepth 100000
set_option maxHeartbeats 2000000
/-! Py1: the data functions, run by simp. -/
namespace Pu
open PySem PySem.Spec PyProof.Rows L2

def F.thn : F → SS → F
  | .nx ρ, g => g ρ
  | .rt d, _ => .rt d
  | .bk ρ, _ => .bk ρ
  | .ct ρ, _ => .ct ρ
  | .ex c fs ρ, _ => .ex c fs ρ
  | .bad, _ => .bad
@[simp] theorem F.thn_nx (ρ : Rho) (g : SS) : (F.nx ρ).thn g = g ρ := id rfl
@[simp] theorem F.thn_rt (d : D) (g : SS) : (F.rt d).thn g = .rt d := id rfl
@[simp] theorem F.thn_bk (ρ : Rho) (g : SS) : (F.bk ρ).thn g = .bk ρ := id rfl
@[simp] theorem F.thn_ct (ρ : Rho) (g : SS) : (F.ct ρ).thn g = .ct ρ := id rfl
@[simp] theorem F.thn_ex (c : Str) (fs) (ρ : Rho) (g : SS) : (F.ex c fs ρ).thn g = .ex c fs ρ := id rfl
@[simp] theorem F.thn_bad (g : SS) : (F.bad).thn g = .bad := id rfl
@[simp] theorem e_seq (f g : SS) (ρ : Rho) : sSeq f g ρ = (f ρ).thn g := by
  unfold sSeq
  cases f ρ <;> rfl
def R.kont {α : Type} : R α → (α → SS) → Rho → F
  | .ok a, k, ρ => k a ρ
  | .ex c fs, _, ρ => .ex c fs ρ
  | .bad, _, _ => .bad
@[simp] theorem R.kont_ok {α : Type} (a : α) (k : α → SS) (ρ : Rho) : (R.ok a).kont k ρ = k a ρ := id rfl
@[simp] theorem R.kont_ex {α : Type} (c : Str) (fs) (k : α → SS) (ρ : Rho) : (R.ex c fs : R α).kont k ρ = .ex c fs ρ := id rfl
@[simp] theorem R.kont_bad {α : Type} (k : α → SS) (ρ : Rho) : (R.bad : R α).kont k ρ = .bad := id rfl
theorem e_eS {α : Type} (f : Rho → R α) (k : α → SS) (ρ : Rho) : eS f k ρ = (f ρ).kont k ρ := by
  unfold eS
  cases f ρ <;> rfl
@[simp] theorem e_if (t : SB) (f g : SS) (ρ : Rho) : sIfS t f g ρ = (t ρ).kont (fun b => if b = true then f else g) ρ := e_eS _ _ _
@[simp] theorem e_set (i : Nat) (f : SE) (ρ : Rho) : sSet i f ρ = (f ρ).kont (fun d ρ => .nx (ρ.set i (some d))) ρ := e_eS _ _ _
@[simp] theorem e_drop (f : SE) (ρ : Rho) : sDrop f ρ = (f ρ).kont (fun _ ρ => .nx ρ) ρ := e_eS _ _ _
@[simp] theorem e_ret (f : SE) (ρ : Rho) : sRet f ρ = (f ρ).kont (fun d _ => .rt d) ρ := e_eS _ _ _
@[simp] theorem e_raise (x f : Str) (e : SE) (ρ : Rho) : sRaise x f e ρ = (e ρ).kont (fun d ρ => if atom d = true then .ex x [(f, d)] ρ else .bad) ρ := e_eS _ _ _
def slotK (o : Option (Option D)) (k : D → F) : F := match o with
  | some (some d) => k d
  | _ => .bad
@[simp] theorem slotK_some (d : D) (k : D → F) : slotK (some (some d)) k = k d := id rfl
@[simp] theorem e_retv (i : Nat) (ρ : Rho) : sRetV i ρ = slotK ρ[i]? .rt := by
  unfold sRetV slotK
  rfl
@[simp] theorem e_var (i : Nat) (ρ : Rho) : sVar i ρ = (match ρ[i]? with
  | some (some d) => .ok d
  | _ => .bad) := id rfl
@[simp] theorem e_C (d : D) (ρ : Rho) : sC d ρ = .ok d := id rfl
@[simp] theorem e_s2 (g : D → D → R D) (a b : SE) (ρ : Rho) : s2 g a b ρ = (a ρ).bind fun x => (b ρ).bind fun y => g x y := id rfl
@[simp] theorem e_s1 (g : D → R D) (a : SE) (ρ : Rho) : s1 g a ρ = (a ρ).bind g := id rfl
@[simp] theorem e_call (g : List D → R D) (a : SA) (ρ : Rho) : sCall g a ρ = (a ρ).bind g := id rfl
@[simp] theorem e_anil (ρ : Rho) : aNil ρ = .ok [] := id rfl
@[simp] theorem e_acons (f : SE) (r : SA) (ρ : Rho) : aCons f r ρ = (f ρ).bind fun x => (r ρ).bind fun xs => .ok (x :: xs) := id rfl
@[simp] theorem asB_bool (b : Bool) : asB (.bool b) = .ok b := id rfl
@[simp] theorem e_tB (f : SE) (ρ : Rho) : tB' f ρ = (f ρ).bind asB := id rfl
@[simp] theorem e_tAnd (a b : SB) (ρ : Rho) : tAnd' a b ρ = (a ρ).bind fun x => if x = true then b ρ else .ok false := id rfl
@[simp] theorem e_tOr (a b : SB) (ρ : Rho) : tOr' a b ρ = (a ρ).bind fun x => if x = true then .ok true else b ρ := id rfl
@[simp] theorem e_tNot (a : SB) (ρ : Rho) : tNot' a ρ = (a ρ).bind fun x => .ok (!x) := id rfl
@[simp] theorem e_sIf (t : SB) (a b : SE) (ρ : Rho) : sIf t a b ρ = (t ρ).bind fun x => if x = true then a ρ else b ρ := id rfl
@[simp] theorem e_andV (a b : SE) (ρ : Rho) : sAndV a b ρ = (a ρ).bind fun x => (asB x).bind fun y => if y = true then b ρ else .ok (.bool false) := id rfl
@[simp] theorem e_orV (a b : SE) (ρ : Rho) : sOrV a b ρ = (a ρ).bind fun x => (asB x).bind fun y => if y = true then .ok (.bool true) else b ρ := id rfl
@[simp] theorem e_notV (a : SE) (ρ : Rho) : sNotV a ρ = (a ρ).bind fun x => (asB x).bind fun y => .ok (.bool (!y)) := id rfl
@[simp] theorem e_atom (f : SE) (ρ : Rho) : sAtom f ρ = (f ρ).bind fun d => if atom d = true then .ok d else .bad := id rfl
@[simp] theorem e_chain (g g' : D → D → R D) (a b c : SE) (ρ : Rho) : sChain g g' a b c ρ = (a ρ).bind fun x => (b ρ).bind fun y => (g x y).bind fun z => (asB z).bind fun t => if t = true then (c ρ).bind fun w => g' y w else .ok (.bool false) := id rfl
@[simp] theorem atom_none : atom .none = true := id rfl
@[simp] theorem atom_bool (b : Bool) : atom (.bool b) = true := id rfl
@[simp] theorem atom_int (i : Int) : atom (.int i) = true := id rfl
@[simp] theorem atom_str (x : Str) : atom (.str x) = true := id rfl
/-! operators on ints -/
@[simp] theorem g_lt (i j : Int) : gLt (.int i) (.int j) = .ok (.bool (decide (i < j))) := rIf_pos trivial
@[simp] theorem g_le (i j : Int) : gLe (.int i) (.int j) = .ok (.bool (decide (i ≤ j))) := rIf_pos trivial
@[simp] theorem g_gt (i j : Int) : gGt (.int i) (.int j) = .ok (.bool (decide (j < i))) := rIf_pos trivial
@[simp] theorem g_ge (i j : Int) : gGe (.int i) (.int j) = .ok (.bool (decide (j ≤ i))) := rIf_pos trivial
@[simp] theorem g_sub (i j : Int) : gSub (.int i) (.int j) = .ok (.int (i - j)) := rIf_pos trivial
@[simp] theorem g_add (i j : Int) : gAdd (.int i) (.int j) = .ok (.int (i + j)) := id rfl
theorem g_mod {i j : Int} (h : 0 < j) : gMod (.int i) (.int j) = .ok (.int (i % j)) := if_pos h
theorem g_fdiv {i j : Int} (h : 0 < j ∧ j < 1073741824) : gFdiv (.int i) (.int j) = .ok (.int (i / j)) := if_pos h
theorem g_mul {i j : Int} (h : (-(2 ^ 64) < i ∧ i < 2 ^ 64) ∨ (-(2 ^ 64) < j ∧ j < 2 ^ 64)) : gMul (.int i) (.int j) = .ok (.int (i * j)) := if_pos h
theorem g_pow {i j : Int} (h : 0 ≤ j ∧ j ≤ 1000000 ∧ i.natAbs < 2 ^ 64) : gPow (.int i) (.int j) = .ok (.int (i ^ j.toNat)) := if_pos h
@[simp] theorem g_neg (i : Int) : gNeg (.int i) = .ok (.int (-i)) := id rfl
@[simp] theorem g_int_i (i : Int) : gInt [.int i] = .ok (.int i) := id rfl
@[simp] theorem g_max2 (i j : Int) : gMax2 [.int i, .int j] = .ok (.int (max i j)) := by
  show R.ok (PyData.int (if j > i then j else i)) = _
  congr 2
  rw [Int.max_def]
  split <;> split <;> omega
@[simp] theorem g_min2 (i j : Int) : gMin2 [.int i, .int j] = .ok (.int (min i j)) := by
  show R.ok (PyData.int (if j < i then j else i)) = _
  congr 2
  rw [Int.min_def]
  split <;> split <;> omega
@[simp] theorem g_len_list (ds : List D) : gLen [.list ds] = .ok (.int ds.length) := id rfl
@[simp] theorem g_len_tuple (ds : List D) : gLen [.tuple ds] = .ok (.int ds.length) := id rfl
@[simp] theorem g_len_scr (ns : List Int) : gLen [scrD ns] = .ok (.int ns.length) := by
  show R.ok (PyData.int ((ns.map PyData.int).length : Nat)) = _
  rw [List.length_map]
@[simp] theorem g_list_l (ds : List D) : gList [.list ds] = .ok (.list ds) := id rfl
@[simp] theorem g_list_t (ds : List D) : gList [.tuple ds] = .ok (.list ds) := id rfl
@[simp] theorem g_tuple_l (ds : List D) : gTuple [.list ds] = .ok (.tuple ds) := id rfl
@[simp] theorem g_sorted (ns : List Int) : gSorted [.list (ns.map PyData.int)] = .ok (.list ((sortI ns).map PyData.int)) := by
  show (match intsOf (ns.map PyData.int) with
    | some ns => R.ok (PyData.list ((sortI ns).map PyData.int))
    | none => R.bad) = _
  rw [intsOf_map]
theorem g_size_list {ds : List D} (h : ds.length ≤ sizeLine) : gSize .list ds = .ok (.list ds) := if_pos h
theorem g_size_tuple {ds : List D} (h : ds.length ≤ sizeLine) : gSize .tuple ds = .ok (.tuple ds) := if_pos h
theorem size_small {n : Nat} (h : n ≤ 16777216) : n ≤ sizeLine := by
  rw [sizeLine_eq]
  exact h
@[simp] theorem g_lst0 : gSize .list [] = .ok (.list []) := g_size_list (size_small (Nat.le_of_ble_eq_true rfl))
@[simp] theorem g_lst1 (a : D) : gSize .list [a] = .ok (.list [a]) := g_size_list (size_small (Nat.le_of_ble_eq_true rfl))
@[simp] theorem g_lst2 (a b : D) : gSize .list [a, b] = .ok (.list [a, b]) := g_size_list (size_small (Nat.le_of_ble_eq_true rfl))
@[simp] theorem g_lst3 (a b c : D) : gSize .list [a, b, c] = .ok (.list [a, b, c]) := g_size_list (size_small (Nat.le_of_ble_eq_true rfl))
@[simp] theorem g_lst4 (a b c d : D) : gSize .list [a, b, c, d] = .ok (.list [a, b, c, d]) := g_size_list (size_small (Nat.le_of_ble_eq_true rfl))
@[simp] theorem g_lst5 (a b c d e : D) : gSize .list [a, b, c, d, e] = .ok (.list [a, b, c, d, e]) := g_size_list (size_small (Nat.le_of_ble_eq_true rfl))
@[simp] theorem g_lst6 (a b c d e f : D) : gSize .list [a, b, c, d, e, f] = .ok (.list [a, b, c, d, e, f]) := g_size_list (size_small (Nat.le_of_ble_eq_true rfl))
@[simp] theorem g_lst7 (a b c d e f g : D) : gSize .list [a, b, c, d, e, f, g] = .ok (.list [a, b, c, d, e, f, g]) := g_size_list (size_small (Nat.le_of_ble_eq_true rfl))
@[simp] theorem g_lst10 (a b c d e f g h i j : D) : gSize .list [a, b, c, d, e, f, g, h, i, j] = .ok (.list [a, b, c, d, e, f, g, h, i, j]) := g_size_list (size_small (Nat.le_of_ble_eq_true rfl))
@[simp] theorem g_tup0 : gSize .tuple [] = .ok (.tuple []) := g_size_tuple (size_small (Nat.le_of_ble_eq_true rfl))
@[simp] theorem g_tup1 (a : D) : gSize .tuple [a] = .ok (.tuple [a]) := g_size_tuple (size_small (Nat.le_of_ble_eq_true rfl))
@[simp] theorem g_tup2 (a b : D) : gSize .tuple [a, b] = .ok (.tuple [a, b]) := g_size_tuple (size_small (Nat.le_of_ble_eq_true rfl))
@[simp] theorem g_tup3 (a b c : D) : gSize .tuple [a, b, c] = .ok (.tuple [a, b, c]) := g_size_tuple (size_small (Nat.le_of_ble_eq_true rfl))
@[simp] theorem g_tup4 (a b c d : D) : gSize .tuple [a, b, c, d] = .ok (.tuple [a, b, c, d]) := g_size_tuple (size_small (Nat.le_of_ble_eq_true rfl))
theorem g_is {f : D → Bool} {d : D} (h : isScr d = false) : gIs f d = .ok (.bool (f d)) := if_pos h
@[simp] theorem g_is_int (f : D → Bool) (i : Int) : gIs f (.int i) = .ok (.bool (f (.int i))) := g_is rfl
@[simp] theorem g_is_bool (f : D → Bool) (i : Bool) : gIs f (.bool i) = .ok (.bool (f (.bool i))) := g_is rfl
@[simp] theorem g_is_str (f : D → Bool) (i : Str) : gIs f (.str i) = .ok (.bool (f (.str i))) := g_is rfl
@[simp] theorem g_is_none (f : D → Bool) : gIs f .none = .ok (.bool (f .none)) := g_is rfl
@[simp] theorem g_is_list (f : D → Bool) (i : List D) : gIs f (.list i) = .ok (.bool (f (.list i))) := g_is rfl
@[simp] theorem g_is_tuple (f : D → Bool) (i : List D) : gIs f (.tuple i) = .ok (.bool (f (.tuple i))) := g_is rfl
@[simp] theorem isInt_int (i : Int) : isInt (.int i) = true := id rfl
@[simp] theorem isInt_bool (i : Bool) : isInt (.bool i) = true := id rfl
@[simp] theorem isInt_str (i : Str) : isInt (.str i) = false := id rfl
@[simp] theorem isInt_none : isInt .none = false := id rfl
@[simp] theorem isInt_list (i : List D) : isInt (.list i) = false := id rfl
@[simp] theorem isInt_tuple (i : List D) : isInt (.tuple i) = false := id rfl
@[simp] theorem isBool_int (i : Int) : isBool (.int i) = false := id rfl
@[simp] theorem isBool_bool (i : Bool) : isBool (.bool i) = true := id rfl
@[simp] theorem isRow_int (i : Int) : isRow (.int i) = false := id rfl
@[simp] theorem isRow_bool (i : Bool) : isRow (.bool i) = false := id rfl
@[simp] theorem isRow_str (i : Str) : isRow (.str i) = false := id rfl
@[simp] theorem isRow_none : isRow .none = false := id rfl
@[simp] theorem isRow_list (i : List D) : isRow (.list i) = true := id rfl
@[simp] theorem isRow_tuple (i : List D) : isRow (.tuple i) = true := id rfl
@[simp] theorem isList_list (i : List D) : isList (.list i) = true := id rfl
@[simp] theorem isList_tuple (i : List D) : isList (.tuple i) = false := id rfl
@[simp] theorem isList_int (i : Int) : isList (.int i) = false := id rfl
@[simp] theorem isList_none : isList .none = false := id rfl
@[simp] theorem gIsN_none : gIsN .none = .bool true := id rfl
@[simp] theorem gIsN_int (i : Int) : gIsN (.int i) = .bool false := id rfl
@[simp] theorem gIsN_list (i : List D) : gIsN (.list i) = .bool false := id rfl
@[simp] theorem gNotN_none : gNotN .none = .bool false := id rfl
@[simp] theorem gNotN_int (i : Int) : gNotN (.int i) = .bool true := id rfl
@[simp] theorem gNotN_list (i : List D) : gNotN (.list i) = .bool true := id rfl
/-! subscripts -/
@[simp] theorem dPairs_list (ds : List D) : dPairs (.list ds) = none := id rfl
@[simp] theorem dPairs_tuple (ds : List D) : dPairs (.tuple ds) = none := id rfl
@[simp] theorem dPairs_scr (ns : List Int) : dPairs (scrD ns) = none := id rfl
theorem ix_list_at {ds : List D} {i : Nat} {d : D} (h : ds[i]? = some d) : gIxA (.list ds) (.int (i : Nat)) = .ok d := by
  have hi : i < ds.length := (List.getElem?_eq_some_iff.mp h).1
  have e : L2.atI ds (i : Int) = some d := by
    unfold L2.atI ixN
    rw [if_pos (by omega), if_pos (by omega)]
    simpa using h
  show (match L2.atI ds (i : Int) with | some d => R.ok d | none => .bad) = _
  rw [e]
theorem ix_tup_at {ds : List D} {i : Nat} {d : D} (h : ds[i]? = some d) : gIxA (.tuple ds) (.int (i : Nat)) = .ok d := ix_list_at (ds := ds) h
theorem ix_scr_at {ns : List Int} {i : Nat} {d : Int} (h : ns[i]? = some d) : gIxA (scrD ns) (.int (i : Nat)) = .ok (.int d) :=
  ix_list_at (ds := ns.map PyData.int) (by rw [List.getElem?_map, h]; rfl)
/-! equality of atoms -/
theorem g_eq {a b : D} (ha : SeqAt.shaped a = true) (hb : SeqAt.shaped b = true) : gEq a b = .ok (.bool (PyData.eqv a b)) := if_pos ⟨ha, hb⟩
theorem g_ne {a b : D} (ha : SeqAt.shaped a = true) (hb : SeqAt.shaped b = true) : gNe a b = .ok (.bool (!PyData.eqv a b)) := if_pos ⟨ha, hb⟩
/-! a def's end -/
def F.fin : F → R D
  | .nx _ => .ok .none
  | .rt d => .ok d
  | .ex c fs _ => .ex c fs
  | _ => .bad
@[simp] theorem F.fin_nx (ρ : Rho) : (F.nx ρ).fin = .ok .none := id rfl
@[simp] theorem F.fin_rt (d : D) : (F.rt d).fin = .ok d := id rfl
@[simp] theorem F.fin_ex (c : Str) (fs) (ρ : Rho) : (F.ex c fs ρ).fin = .ex c fs := id rfl
@[simp] theorem F.fin_bad : (F.bad).fin = .bad := id rfl
@[simp] theorem e_data (n : Nat) (b : SS) (ds : List D) : Pu.dataOf n b ds = (b (ds.map some ++ List.replicate (n - ds.length) none)).fin := by
  unfold Pu.dataOf F.fin
  cases b (ds.map some ++ List.replicate (n - ds.length) none) <;> rfl
end Pu
end

section
set_option Elab.async false
set_option linter.all false
set_option maxRecDepth 100000
set_option maxHeartbeats 2000000
/-! Py2: loops, comprehensions, equality, by data. -/
namespace Pu
open PySem PySem.Spec PyProof.Rows L2

/-! ### loops -/
@[simp] theorem e_for (fi : SI) (tg : D → Rho → Option Rho) (b : SS) (ρ : Rho) : sFor fi tg b ρ = (fi ρ).kont (fun ds => forL tg b ds) ρ := e_eS _ _ _
/-- what a turn ends in, if the loop goes on -/
def F.on : F → Option Rho
  | .nx ρ => some ρ
  | .ct ρ => some ρ
  | _ => none
theorem forL_cons_on {tg : D → Rho → Option Rho} {b : SS} {d : D} {ds : List D} {ρ ρ1 ρ2 : Rho} (h1 : tg d ρ = some ρ1) (h2 : (b ρ1).on = some ρ2) : forL tg b (d :: ds) ρ = forL tg b ds ρ2 := by
  conv => lhs; unfold forL
  rw [h1]
  dsimp only
  cases e : b ρ1 with
  | nx ρ =>
    rw [e] at h2
    cases h2
    rfl
  | ct ρ =>
    rw [e] at h2
    cases h2
    rfl
  | rt _ => rw [e] at h2; cases h2
  | bk _ => rw [e] at h2; cases h2
  | ex _ _ _ => rw [e] at h2; cases h2
  | bad => rw [e] at h2; cases h2
theorem forL_cons_rt {tg : D → Rho → Option Rho} {b : SS} {d v : D} {ds : List D} {ρ ρ1 : Rho} (h1 : tg d ρ = some ρ1) (h2 : b ρ1 = .rt v) : forL tg b (d :: ds) ρ = .rt v := by
  conv => lhs; unfold forL
  rw [h1]
  dsimp only
  rw [h2]
theorem forL_cons_ex {tg : D → Rho → Option Rho} {b : SS} {d : D} {ds : List D} {ρ ρ1 ρ2 : Rho} {c : Str} {fs : List (Str × D)} (h1 : tg d ρ = some ρ1) (h2 : b ρ1 = .ex c fs ρ2) : forL tg b (d :: ds) ρ = .ex c fs ρ2 := by
  conv => lhs; unfold forL
  rw [h1]
  dsimp only
  rw [h2]
@[simp] theorem forL_nil (tg : D → Rho → Option Rho) (b : SS) (ρ : Rho) : forL tg b [] ρ = .nx ρ := id rfl
@[simp] theorem tgN_is (i : Nat) (d : D) (ρ : Rho) : tgN i d ρ = some (ρ.set i (some d)) := id rfl
@[simp] theorem tgT_is (is : List Nat) (ds : List D) (ρ : Rho) : tgT is (.tuple ds) ρ = setAll is ds ρ := id rfl
@[simp] theorem setAll_nil (ρ : Rho) : setAll [] [] ρ = some ρ := id rfl
@[simp] theorem setAll_cons (i : Nat) (is : List Nat) (d : D) (ds : List D) (ρ : Rho) : setAll (i :: is) (d :: ds) ρ = setAll is ds (ρ.set i (some d)) := id rfl
/-- every turn goes on -/
theorem forL_all {tg : D → Rho → Option Rho} {b : SS} (I : Nat → Rho → Prop) (ds : List D) : ∀ (m : Nat) (ρ : Rho), I m ρ → (∀ k d ρ, ds[k]? = some d → I (m + k) ρ → ∃ ρ1 ρ2, tg d ρ = some ρ1 ∧ (b ρ1).on = some ρ2 ∧ I (m + k + 1) ρ2) →
    ∃ ρ', forL tg b ds ρ = .nx ρ' ∧ I (m + ds.length) ρ' := by
  induction ds with
  | nil => exact fun m ρ h _ => ⟨ρ, rfl, h⟩
  | cons d ds ih =>
    intro m ρ h hs
    obtain ⟨ρ1, ρ2, h1, h2, h3⟩ := hs 0 d ρ rfl h
    obtain ⟨ρ', h4, h5⟩ := ih (m + 1) ρ2 h3 fun k d' ρ3 hk hi => by
      have := hs (k + 1) d' ρ3 hk (by rw [show m + (k + 1) = m + 1 + k by omega]; exact hi)
      rw [show m + (k + 1) + 1 = m + 1 + k + 1 by omega] at this
      exact this
    refine ⟨ρ', (forL_cons_on h1 h2).trans h4, ?_⟩
    rw [List.length_cons, show m + (ds.length + 1) = m + 1 + ds.length by omega]
    exact h5
/-- .. each turn by one equation -/
theorem forL_run {tg : D → Rho → Option Rho} {b : SS} (I : Nat → Rho → Prop) (ds : List D) (ρ : Rho) (h : I 0 ρ) (hs : ∀ k d ρ, ds[k]? = some d → I k ρ → ∃ ρ2, ((tg d ρ).bind fun ρ1 => (b ρ1).on) = some ρ2 ∧ I (k + 1) ρ2) :
    ∃ ρ', forL tg b ds ρ = .nx ρ' ∧ I ds.length ρ' := by
  have := forL_all I ds 0 ρ h fun k d ρ hk hi => by
    rw [Nat.zero_add] at hi ⊢
    obtain ⟨ρ2, e, h2⟩ := hs k d ρ hk hi
    obtain ⟨ρ1, e1, e2⟩ := Option.bind_eq_some_iff.mp e
    exact ⟨ρ1, ρ2, e1, e2, h2⟩
  rw [Nat.zero_add] at this
  exact this
/-- up to the first turn that hands back -/
theorem forL_find {tg : D → Rho → Option Rho} {b : SS} (I : Nat → Rho → Prop) (P : Nat → Bool) (v : Nat → D) (ds : List D) : ∀ (m : Nat) (ρ : Rho), I m ρ →
    (∀ k d ρ, ds[k]? = some d → I (m + k) ρ → ∃ ρ1, tg d ρ = some ρ1 ∧ ((P (m + k) = true ∧ b ρ1 = .rt (v (m + k))) ∨ (P (m + k) = false ∧ ∃ ρ2, (b ρ1).on = some ρ2 ∧ I (m + k + 1) ρ2))) →
    (∃ k, k < ds.length ∧ P (m + k) = true ∧ (∀ j, j < k → P (m + j) = false) ∧ forL tg b ds ρ = .rt (v (m + k))) ∨ ((∀ j, j < ds.length → P (m + j) = false) ∧ ∃ ρ', forL tg b ds ρ = .nx ρ' ∧ I (m + ds.length) ρ') := by
  induction ds with
  | nil => exact fun m ρ h _ => .inr ⟨fun j hj => absurd hj (Nat.not_lt_zero j), ρ, rfl, h⟩
  | cons d ds ih =>
    intro m ρ h hs
    obtain ⟨ρ1, h1, h2⟩ := hs 0 d ρ rfl h
    rcases h2 with ⟨h2, h3⟩ | ⟨h2, ρ2, h3, h4⟩
    · exact .inl ⟨0, Nat.succ_pos _, h2, fun j hj => absurd hj (Nat.not_lt_zero j), forL_cons_rt h1 h3⟩
    · have step := ih (m + 1) ρ2 h4 fun k d' ρ3 hk hi => by
        have := hs (k + 1) d' ρ3 hk (by rw [show m + (k + 1) = m + 1 + k by omega]; exact hi)
        rw [show m + (k + 1) = m + 1 + k by omega] at this
        exact this
      rcases step with ⟨k, hk, h5, h6, h7⟩ | ⟨h6, ρ', h7, h8⟩
      · refine .inl ⟨k + 1, Nat.succ_lt_succ hk, by rw [show m + (k + 1) = m + 1 + k by omega]; exact h5, fun j hj => ?_, by rw [forL_cons_on h1 h3, h7, show m + (k + 1) = m + 1 + k by omega]⟩
        cases j with
        | zero => exact h2
        | succ j =>
          rw [show m + (j + 1) = m + 1 + j by omega]
          exact h6 j (Nat.lt_of_succ_lt_succ hj)
      · refine .inr ⟨fun j hj => ?_, ρ', (forL_cons_on h1 h3).trans h7, by rw [List.length_cons, show m + (ds.length + 1) = m + 1 + ds.length by omega]; exact h8⟩
        cases j with
        | zero => exact h2
        | succ j =>
          rw [show m + (j + 1) = m + 1 + j by omega]
          exact h6 j (Nat.lt_of_succ_lt_succ hj)
def F.stop : F → Bool
  | .rt _ => true
  | .ex _ _ _ => true
  | _ => false
theorem forL_cons_stop {tg : D → Rho → Option Rho} {b : SS} {d : D} {ds : List D} {ρ ρ1 : Rho} (h1 : tg d ρ = some ρ1) (h2 : (b ρ1).stop = true) : forL tg b (d :: ds) ρ = b ρ1 := by
  conv => lhs; unfold forL
  rw [h1]
  dsimp only
  cases e : b ρ1 with
  | rt _ => rfl
  | ex _ _ _ => rfl
  | nx _ => rw [e] at h2; cases h2
  | ct _ => rw [e] at h2; cases h2
  | bk _ => rw [e] at h2; cases h2
  | bad => rfl
/-- up to the first turn that stops all -/
theorem forL_go {tg : D → Rho → Option Rho} {b : SS} (I : Nat → Rho → Prop) (P : Nat → Bool) (Q : Nat → F → Prop) (ds : List D) : ∀ (m : Nat) (ρ : Rho), I m ρ →
    (∀ k d ρ, ds[k]? = some d → I (m + k) ρ → ∃ ρ1, tg d ρ = some ρ1 ∧ ((P (m + k) = true ∧ (b ρ1).stop = true ∧ Q (m + k) (b ρ1)) ∨ (P (m + k) = false ∧ ∃ ρ2, (b ρ1).on = some ρ2 ∧ I (m + k + 1) ρ2))) →
    (∃ k, k < ds.length ∧ P (m + k) = true ∧ (∀ j, j < k → P (m + j) = false) ∧ Q (m + k) (forL tg b ds ρ) ∧ (forL tg b ds ρ).stop = true) ∨ ((∀ j, j < ds.length → P (m + j) = false) ∧ ∃ ρ', forL tg b ds ρ = .nx ρ' ∧ I (m + ds.length) ρ') := by
  induction ds with
  | nil => exact fun m ρ h _ => .inr ⟨fun j hj => absurd hj (Nat.not_lt_zero j), ρ, rfl, h⟩
  | cons d ds ih =>
    intro m ρ h hs
    obtain ⟨ρ1, h1, h2⟩ := hs 0 d ρ rfl h
    rcases h2 with ⟨h2, h3, h4⟩ | ⟨h2, ρ2, h3, h4⟩
    · exact .inl ⟨0, Nat.succ_pos _, h2, fun j hj => absurd hj (Nat.not_lt_zero j), by rw [forL_cons_stop h1 h3]; exact h4, by rw [forL_cons_stop h1 h3]; exact h3⟩
    · have step := ih (m + 1) ρ2 h4 fun k d' ρ3 hk hi => by
        have := hs (k + 1) d' ρ3 hk (by rw [show m + (k + 1) = m + 1 + k by omega]; exact hi)
        rw [show m + (k + 1) = m + 1 + k by omega] at this
        exact this
      rcases step with ⟨k, hk, h5, h6, h7, h8⟩ | ⟨h6, ρ', h7, h8⟩
      · refine .inl ⟨k + 1, Nat.succ_lt_succ hk, by rw [show m + (k + 1) = m + 1 + k by omega]; exact h5, fun j hj => ?_, by rw [forL_cons_on h1 h3, show m + (k + 1) = m + 1 + k by omega]; exact h7, by rw [forL_cons_on h1 h3]; exact h8⟩
        cases j with
        | zero => exact h2
        | succ j =>
          rw [show m + (j + 1) = m + 1 + j by omega]
          exact h6 j (Nat.lt_of_succ_lt_succ hj)
      · refine .inr ⟨fun j hj => ?_, ρ', (forL_cons_on h1 h3).trans h7, by rw [List.length_cons, show m + (ds.length + 1) = m + 1 + ds.length by omega]; exact h8⟩
        cases j with
        | zero => exact h2
        | succ j =>
          rw [show m + (j + 1) = m + 1 + j by omega]
          exact h6 j (Nat.lt_of_succ_lt_succ hj)
@[simp] theorem F.on_nx (ρ : Rho) : (F.nx ρ).on = some ρ := id rfl
@[simp] theorem F.on_ct (ρ : Rho) : (F.ct ρ).on = some ρ := id rfl
@[simp] theorem F.stop_rt (d : D) : (F.rt d).stop = true := id rfl
@[simp] theorem F.stop_ex (c : Str) (fs) (ρ : Rho) : (F.ex c fs ρ).stop = true := id rfl
/-! ### what is walked -/
@[simp] theorem e_iterA (f : SE) (ρ : Rho) : sIterA f ρ = (f ρ).bind gIterA := id rfl
@[simp] theorem gIterA_list (ds : List D) : gIterA (.list ds) = .ok ds := id rfl
@[simp] theorem gIterA_tuple (ds : List D) : gIterA (.tuple ds) = .ok ds := id rfl
@[simp] theorem gIterA_lk (ds : List (D × D)) : gIterA (lk ds) = .ok (ds.map (·.1)) := id rfl
@[simp] theorem e_rng1 (f : SA) (ρ : Rho) : sRange1 f ρ = (f ρ).bind gRange1 := id rfl
@[simp] theorem e_rng2 (f : SA) (ρ : Rho) : sRange2 f ρ = (f ρ).bind gRange2 := id rfl
theorem g_rng1 {j : Int} (h : -(2 ^ 62) ≤ j ∧ j < 2 ^ 62) : gRange1 [.int j] = .ok (rngD 0 j.toNat) := if_pos h
theorem g_rng2 {i j : Int} (h : -(2 ^ 62) ≤ i ∧ i < 2 ^ 62 ∧ -(2 ^ 62) ≤ j ∧ j < 2 ^ 62) : gRange2 [.int i, .int j] = .ok (rngD i (j - i).toNat) := if_pos h
theorem rng1_nat {n : Nat} (h : n ≤ 1000000) : gRange1 [.int (n : Int)] = .ok (rngD 0 n) := by
  rw [g_rng1 (by omega), Int.toNat_natCast]
theorem rng2_is {i j : Int} (hi : -1000000 ≤ i ∧ i ≤ 1000000) (hj : -1000000 ≤ j ∧ j ≤ 1000000) : gRange2 [.int i, .int j] = .ok (rngD i (j - i).toNat) := g_rng2 (by omega)
theorem rngD_len (lo : Int) (n : Nat) : (rngD lo n).length = n := by
  unfold rngD
  rw [List.length_map, List.length_range]
theorem rngD_get {lo : Int} {n k : Nat} {d : D} (h : (rngD lo n)[k]? = some d) : k < n ∧ d = .int (lo + (k : Int)) := by
  have hk : k < n := by
    have := (List.getElem?_eq_some_iff.mp h).1
    rw [rngD_len] at this
    exact this
  unfold rngD at h
  rw [List.getElem?_map, List.getElem?_range hk] at h
  cases h
  exact ⟨hk, rfl⟩
@[simp] theorem e_enumA (f : SA) (ρ : Rho) : sEnumA f ρ = (f ρ).bind fun ds => match ds with
  | [d] => gEnum d
  | _ => .bad := id rfl
@[simp] theorem g_enum_l (ds : List D) : gEnum (.list ds) = .ok (enumD ds) := id rfl
@[simp] theorem g_enum_t (ds : List D) : gEnum (.tuple ds) = .ok (enumD ds) := id rfl
theorem enum_get {ds : List D} {k : Nat} {d : D} (h : (enumD ds)[k]? = some d) : ∃ e, ds[k]? = some e ∧ d = .tuple [.int (k : Nat), e] := by
  cases q : ds[k]? with
  | none =>
    have := (List.getElem?_eq_some_iff.mp h).1
    rw [enum_len] at this
    rw [List.getElem?_eq_none_iff] at q
    omega
  | some e =>
    have := enum_at q
    rw [this] at h
    cases h
    exact ⟨e, rfl, rfl⟩
/-! ### comprehensions -/
theorem e_comp (i : Nat) (fi : SI) (ft : SB) (fe : SE) (ρ : Rho) : sComp i fi ft fe ρ = (fi ρ).bind fun ds => (compL i ft fe ρ ds).bind fun ys => rIf (ds.length ≤ sizeLine) (.list ys) := rfl
theorem compL_map {i : Nat} {fe : SE} {ρ : Rho} (f : D → D) : ∀ {ds : List D}, (∀ d ∈ ds, fe (ρ.set i (some d)) = .ok (f d)) → compL i bYes fe ρ ds = .ok (ds.map f)
  | [], _ => rfl
  | d :: ds, h => by
    have h1 := h d List.mem_cons_self
    have h2 := compL_map f (ds := ds) fun d hd => h d (List.mem_cons_of_mem _ hd)
    unfold compL
    rw [show bYes (ρ.set i (some d)) = .ok true from rfl]
    dsimp only
    rw [h1]
    dsimp only
    rw [h2]
    rfl
theorem compL_filter {i : Nat} {ft : SB} {fe : SE} {ρ : Rho} (p : D → Bool) (f : D → D) : ∀ {ds : List D}, (∀ d ∈ ds, ft (ρ.set i (some d)) = .ok (p d)) → (∀ d ∈ ds, p d = true → fe (ρ.set i (some d)) = .ok (f d)) → compL i ft fe ρ ds = .ok ((ds.filter p).map f)
  | [], _, _ => rfl
  | d :: ds, h, h' => by
    have h1 := h d List.mem_cons_self
    have h2 := compL_filter p f (ds := ds) (fun d hd => h d (List.mem_cons_of_mem _ hd)) fun d hd => h' d (List.mem_cons_of_mem _ hd)
    unfold compL
    rw [h1]
    cases e : p d with
    | true =>
      dsimp only
      rw [h' d List.mem_cons_self e]
      dsimp only
      rw [h2, List.filter_cons_of_pos e]
      rfl
    | false =>
      dsimp only
      rw [h2, List.filter_cons_of_neg (by rw [e]; exact Bool.false_ne_true)]
/-! ### append, store -/
@[simp] theorem e_app (i : Nat) (f : SE) (ρ : Rho) : sApp i f ρ = slotK ρ[i]? (fun o => match o with
  | .list ds => (f ρ).kont (fun d ρ => if ds.length < sizeLine then .nx (ρ.set i (some (.list (ds ++ [d])))) else .bad) ρ
  | _ => .bad) := by
  unfold sApp slotK
  cases e : ρ[i]? with
  | none => rfl
  | some o =>
    cases o with
    | none => rfl
    | some d =>
      cases d <;> first
        | rfl
        | exact e_eS _ _ _
@[simp] theorem e_seti (i : Nat) (fi fe : SE) (ρ : Rho) : sSetI i fi fe ρ = (fe ρ).kont (fun d ρ => slotK ρ[i]? fun o => (fi ρ).kont (fun k ρ => match gSet o k d with
  | .ok o' => .nx (ρ.set i (some o'))
  | _ => .bad) ρ) ρ := by
  unfold sSetI
  rw [e_eS]
  cases fe ρ with
  | ok d =>
    show (match ρ[i]? with
      | some (some o) => _
      | _ => F.bad) = slotK ρ[i]? _
    unfold slotK
    cases e : ρ[i]? with
    | none => rfl
    | some o =>
      cases o with
      | none => rfl
      | some d => exact e_eS _ _ _
  | ex c fs => rfl
  | bad => rfl
@[simp] theorem e_lock (i : Nat) (f : SS) (ρ : Rho) : sLock i f ρ = slotK ρ[i]? (fun o => match o with
  | .dict ds => if keyed ds = true then f (ρ.set i (some (lk ds))) else .bad
  | _ => .bad) := by
  unfold sLock slotK
  cases e : ρ[i]? with
  | none => rfl
  | some o =>
    cases o with
    | none => rfl
    | some d => cases d <;> rfl
/-! ### slices -/
@[simp] theorem e_sl (f : SE) (a b : SO) (ρ : Rho) : sSl f a b ρ = (f ρ).bind fun x => (a ρ).bind fun l => (b ρ).bind fun u => gSl x l u := id rfl
@[simp] theorem e_soN (ρ : Rho) : soNone ρ = .ok none := id rfl
@[simp] theorem e_soS (f : SE) (ρ : Rho) : soSome f ρ = (f ρ).bind gPart := id rfl
@[simp] theorem g_part (i : Int) : gPart (.int i) = .ok (some i) := id rfl
@[simp] theorem g_sl (ds : List D) (a b : Option Int) : gSl (.list ds) a b = .ok (.list (cutA ds a b)) := id rfl
/-! ### equality -/
theorem canAll_ints (ns : List Int) : PyData.canLayAll0 (ns.map PyData.int) = true := by
  induction ns with
  | nil => rfl
  | cons n ns ih =>
    rw [List.map_cons]
    simp only [PyData.canLayAll0, PyData.canLay0, ih, Bool.and_true]
@[simp] theorem sh_int (i : Int) : SeqAt.shaped (.int i) = true := by
  unfold SeqAt.shaped
  simp [PyData.canLay0, PyData.depth]
@[simp] theorem sh_bool (i : Bool) : SeqAt.shaped (.bool i) = true := by
  unfold SeqAt.shaped
  simp [PyData.canLay0, PyData.depth]
@[simp] theorem sh_none : SeqAt.shaped .none = true := by
  unfold SeqAt.shaped
  simp [PyData.canLay0, PyData.depth]
@[simp] theorem g_eq_int (i j : Int) : gEq (.int i) (.int j) = .ok (.bool (decide (i = j))) := by
  rw [g_eq (sh_int i) (sh_int j)]
  simp only [PyData.eqv]
  rfl
@[simp] theorem g_ne_int (i j : Int) : gNe (.int i) (.int j) = .ok (.bool (!decide (i = j))) := by
  rw [g_ne (sh_int i) (sh_int j)]
  simp only [PyData.eqv]
  rfl
theorem eqvAll_ints : ∀ (a b : List Int), PyData.eqvAll (a.map PyData.int) (b.map PyData.int) = decide (a = b)
  | [], [] => rfl
  | [], _ :: _ => rfl
  | _ :: _, [] => rfl
  | x :: a, y :: b => by
    rw [List.map_cons, List.map_cons]
    simp only [PyData.eqvAll, PyData.eqv, eqvAll_ints a b]
    by_cases h : x = y
    · by_cases h2 : a = b <;> simp [h, h2]
    · simp [h]
end Pu
end

section
set_option Elab.async false
set_option linter.all false
set_option maxRecDepth 100000
set_option maxHeartbeats 2000000
/-! Py3: lists of ints, dicts of ints, by data. -/
namespace Pu
open PySem L2

theorem compL_mapl {α : Type} {i : Nat} {fe : SE} {ρ : Rho} (key f : α → D) : ∀ {l : List α}, (∀ a ∈ l, fe (ρ.set i (some (key a))) = .ok (f a)) → compL i bYes fe ρ (l.map key) = .ok (l.map f)
  | [], _ => rfl
  | a :: l, h => by
    have h1 := h a List.mem_cons_self
    have h2 := compL_mapl key f (l := l) fun b hb => h b (List.mem_cons_of_mem _ hb)
    rw [List.map_cons, List.map_cons]
    unfold compL
    rw [show bYes (ρ.set i (some (key a))) = .ok true from rfl]
    dsimp only
    rw [h1]
    dsimp only
    rw [h2]
theorem compL_filterl {α : Type} {i : Nat} {ft : SB} {fe : SE} {ρ : Rho} (key f : α → D) (p : α → Bool) : ∀ {l : List α}, (∀ a ∈ l, ft (ρ.set i (some (key a))) = .ok (p a)) → (∀ a ∈ l, p a = true → fe (ρ.set i (some (key a))) = .ok (f a)) → compL i ft fe ρ (l.map key) = .ok ((l.filter p).map f)
  | [], _, _ => rfl
  | a :: l, h, h' => by
    have h1 := h a List.mem_cons_self
    have h2 := compL_filterl key f p (l := l) (fun b hb => h b (List.mem_cons_of_mem _ hb)) fun b hb => h' b (List.mem_cons_of_mem _ hb)
    rw [List.map_cons]
    unfold compL
    rw [h1]
    cases e : p a with
    | true =>
      dsimp only
      rw [h' a List.mem_cons_self e]
      dsimp only
      rw [h2, List.filter_cons_of_pos e]
      rfl
    | false =>
      dsimp only
      rw [h2, List.filter_cons_of_neg (by rw [e]; exact Bool.false_ne_true)]
/-- a list of ints, as data -/
abbrev li (ns : List Int) : D := .list (ns.map PyData.int)
theorem depth_ints : ∀ ns : List Int, PyData.depthAll (ns.map PyData.int) = 0
  | [] => by simp only [List.map_nil, PyData.depthAll]
  | n :: ns => by
    rw [List.map_cons]
    simp only [PyData.depthAll, PyData.depth, depth_ints ns]
    rfl
@[simp] theorem sh_ints (ns : List Int) : SeqAt.shaped (.list (ns.map PyData.int)) = true := by
  unfold SeqAt.shaped
  simp only [PyData.canLay0, PyData.depth, canAll_ints, depth_ints]
  rfl
@[simp] theorem sh_intsT (ns : List Int) : SeqAt.shaped (.tuple (ns.map PyData.int)) = true := by
  unfold SeqAt.shaped
  simp only [PyData.canLay0, PyData.depth, canAll_ints, depth_ints]
  rfl
theorem any_ints (t : Int) (ns : List Int) : ((ns.map PyData.int).any fun z => PyData.eqv z (.int t)) = decide (t ∈ ns) := by
  induction ns with
  | nil => rfl
  | cons n ns ih =>
    rw [List.map_cons, List.any_cons, ih]
    simp only [PyData.eqv]
    by_cases h : n = t
    · simp [h]
    · have h' : ¬ t = n := fun z => h z.symm
      simp [h, h']
@[simp] theorem g_nin_ints (t : Int) (ns : List Int) : gNotInA (.int t) (.list (ns.map PyData.int)) = .ok (.bool (!decide (t ∈ ns))) := by
  show gNotIn (.int t) (.list (ns.map PyData.int)) = _
  unfold gNotIn
  dsimp only
  rw [rIf_pos ⟨sh_int t, sh_ints ns⟩, any_ints]
@[simp] theorem g_in_ints (t : Int) (ns : List Int) : gInA (.int t) (.list (ns.map PyData.int)) = .ok (.bool (decide (t ∈ ns))) := by
  show gIn (.int t) (.list (ns.map PyData.int)) = _
  unfold gIn
  dsimp only
  rw [rIf_pos ⟨sh_int t, sh_ints ns⟩, any_ints]
theorem g_eq_ints (a b : List Int) : gEq (.list (a.map PyData.int)) (.list (b.map PyData.int)) = .ok (.bool (decide (a = b))) := by
  rw [g_eq (sh_ints a) (sh_ints b)]
  simp only [PyData.eqv, eqvAll_ints]
theorem g_ne_ints (a b : List Int) : gNe (.list (a.map PyData.int)) (.list (b.map PyData.int)) = .ok (.bool (!decide (a = b))) := by
  rw [g_ne (sh_ints a) (sh_ints b)]
  simp only [PyData.eqv, eqvAll_ints]
/-! ### dicts of ints -/
abbrev encI (w : List (Int × Int)) : List (D × D) := w.map fun p => (.int p.1, .int p.2)
def putI (w : List (Int × Int)) (t e : Int) : List (Int × Int) := if w.any (fun p => decide (p.1 = t)) then w.map (fun p => if p.1 = t then (p.1, e) else p) else w ++ [(t, e)]
@[simp] theorem keyed_encI (w : List (Int × Int)) : keyed (encI w) = true := by
  unfold keyed
  rw [List.all_map]
  exact List.all_eq_true.mpr fun _ _ => rfl
theorem any_encI (w : List (Int × Int)) (t : Int) : ((encI w).any fun p => PyData.eqv p.1 (.int t)) = w.any fun p => decide (p.1 = t) := by
  rw [List.any_map]
  congr 1
theorem dPut_encI (w : List (Int × Int)) (t e : Int) : dPut (encI w) (.int t) (.int e) = encI (putI w t e) := by
  unfold dPut putI
  rw [any_encI]
  by_cases h : (w.any fun p => decide (p.1 = t)) = true
  · rw [if_pos h, if_pos h]
    unfold encI
    rw [List.map_map, List.map_map]
    refine List.map_congr_left fun p _ => ?_
    simp only [Function.comp]
    by_cases h2 : p.1 = t
    · rw [if_pos h2, if_pos (by simp [PyData.eqv, h2])]
    · rw [if_neg h2, if_neg (by simp [PyData.eqv, h2])]
  · rw [if_neg h, if_neg h]
    unfold encI
    rw [List.map_append]
    rfl
theorem gSet_encI {w : List (Int × Int)} (t e : Int) (h : w.length < 16777216) : gSet (.dict (encI w)) (.int t) (.int e) = .ok (.dict (encI (putI w t e))) := by
  have h1 : (encI w).length < sizeLine := by
    rw [List.length_map, sizeLine_eq]
    exact h
  have h2 : (encI w).all (fun p => isKey p.1) = true := keyed_encI w
  show rIf (isKey (.int t) = true ∧ (encI w).all (fun p => isKey p.1) = true ∧ (encI w).length < sizeLine) _ = _
  rw [rIf_pos ⟨rfl, h2, h1⟩, dPut_encI]
theorem mem_putI {w : List (Int × Int)} {t e : Int} (x y : Int) : (x, y) ∈ putI w t e ↔ (x = t ∧ y = e) ∨ (x ≠ t ∧ (x, y) ∈ w) := by
  unfold putI
  by_cases h : (w.any fun p => decide (p.1 = t)) = true
  · rw [if_pos h, List.mem_map]
    constructor
    · rintro ⟨p, hp, e1⟩
      by_cases h2 : p.1 = t
      · rw [if_pos h2] at e1
        cases e1
        exact .inl ⟨h2, rfl⟩
      · rw [if_neg h2] at e1
        subst e1
        exact .inr ⟨h2, hp⟩
    · rintro (⟨rfl, rfl⟩ | ⟨h2, hp⟩)
      · obtain ⟨p, hp, hd⟩ := List.any_eq_true.mp h
        have e1 : p.1 = x := of_decide_eq_true hd
        exact ⟨p, hp, by rw [if_pos e1, e1]⟩
      · exact ⟨_, hp, by rw [if_neg h2]⟩
  · rw [if_neg h, List.mem_append, List.mem_singleton]
    constructor
    · rintro (hp | e1)
      · refine .inr ⟨fun z => h (List.any_eq_true.mpr ⟨_, hp, decide_eq_true z⟩), hp⟩
      · cases e1
        exact .inl ⟨rfl, rfl⟩
    · rintro (⟨rfl, rfl⟩ | ⟨_, hp⟩)
      · exact .inr rfl
      · exact .inl hp
theorem keys_putI {w : List (Int × Int)} {t e : Int} (h : (w.map (·.1)).Nodup) : ((putI w t e).map (·.1)).Nodup := by
  unfold putI
  by_cases h1 : (w.any fun p => decide (p.1 = t)) = true
  · rw [if_pos h1, List.map_map]
    have e1 : ((fun p : Int × Int => p.1) ∘ fun p : Int × Int => if p.1 = t then (p.1, e) else p) = fun p => p.1 := by
      funext p
      simp only [Function.comp]
      split <;> rfl
    rw [e1]
    exact h
  · rw [if_neg h1, List.map_append]
    refine List.nodup_append.mpr ⟨h, by simp, fun a ha b hb z => ?_⟩
    obtain ⟨p, hp, e1⟩ := List.mem_map.mp ha
    have e2 : b = t := List.mem_singleton.mp hb
    exact h1 (List.any_eq_true.mpr ⟨p, hp, decide_eq_true (by rw [e1, z, e2])⟩)
theorem len_putI {w : List (Int × Int)} {t e : Int} : (putI w t e).length ≤ w.length + 1 := by
  unfold putI
  split
  · rw [List.length_map]
    exact Nat.le_succ _
  · rw [List.length_append]
    exact Nat.le_refl _
theorem dLook_encI : ∀ {w : List (Int × Int)} {t e : Int}, (w.map (·.1)).Nodup → (t, e) ∈ w → dLook (encI w) (.int t) = some (.int e)
  | [], _, _, _, h => by cases h
  | p :: w, t, e, hn, h => by
    rw [List.map_cons] at hn
    obtain ⟨h1, h2⟩ := List.nodup_cons.mp hn
    unfold dLook encI
    rw [List.map_cons, List.find?_cons]
    dsimp only
    by_cases hp : p.1 = t
    · rw [show PyData.eqv (.int p.1) (.int t) = true by simp [PyData.eqv, hp]]
      rcases List.mem_cons.mp h with e1 | hm
      · rw [← e1]
        rfl
      · exact absurd (by rw [hp]; exact List.mem_map.mpr ⟨_, hm, rfl⟩) h1
    · rw [show PyData.eqv (.int p.1) (.int t) = false by simp [PyData.eqv, hp]]
      rcases List.mem_cons.mp h with e1 | hm
      · rw [← e1] at hp
        exact absurd rfl hp
      · exact dLook_encI h2 hm
theorem ix_lk_encI {w : List (Int × Int)} {t e : Int} (h : (w.map (·.1)).Nodup) (hm : (t, e) ∈ w) : gIxA (lk (encI w)) (.int t) = .ok (.int e) := by
  unfold gIxA
  rw [dPairs_lk]
  dsimp only
  rw [if_pos (show isKey (.int t) = true from rfl), dLook_encI h hm]
/-! ### places -/
theorem ix_li {ns : List Int} {i : Nat} {n : Int} (h : ns[i]? = some n) : gIxA (.list (ns.map PyData.int)) (.int (i : Nat)) = .ok (.int n) := ix_list_at (by rw [List.getElem?_map, h]; rfl)
theorem ix_liT {ns : List Int} {i : Nat} {n : Int} (h : ns[i]? = some n) : gIxA (.tuple (ns.map PyData.int)) (.int (i : Nat)) = .ok (.int n) := ix_tup_at (by rw [List.getElem?_map, h]; rfl)
theorem any_get {α : Type} {p : α → Bool} {l : List α} (h : ∀ (j : Nat) (a : α), l[j]? = some a → p a = false) : l.any p = false := by
  rw [List.any_eq_false]
  intro a ha
  obtain ⟨j, hj, e⟩ := List.mem_iff_getElem.mp ha
  rw [h j a (by rw [List.getElem?_eq_getElem hj, e])]
  exact Bool.false_ne_true
/-! ### the first of a range -/
/-- the first of n numbers from lo on of which p does not hold -/
def firstD (p : Int → Bool) (lo : Int) : Nat → Option Int
  | 0 => none
  | n + 1 => if p lo = true then firstD p (lo + 1) n else some lo
def optD : Option Int → D
  | none => .none
  | some d => .int d
theorem rngD_cons (lo : Int) (n : Nat) : rngD lo (n + 1) = .int lo :: rngD (lo + 1) n := by
  unfold rngD
  rw [List.range_succ_eq_map, List.map_cons, List.map_map]
  congr 1
  · simp
  · refine List.map_congr_left fun k _ => ?_
    show PyData.int (lo + ((k + 1 : Nat) : Int)) = .int (lo + 1 + (k : Int))
    congr 1
    omega
theorem firstD_none {p : Int → Bool} : ∀ {n : Nat} {lo : Int}, firstD p lo n = none ↔ ∀ d : Int, lo ≤ d → d < lo + (n : Int) → p d = true
  | 0, lo => ⟨fun _ d h1 h2 => by omega, fun _ => rfl⟩
  | n + 1, lo => by
    unfold firstD
    by_cases h : p lo = true
    · rw [if_pos h, firstD_none]
      constructor
      · intro q d h1 h2
        by_cases e : d = lo
        · rw [e]
          exact h
        · exact q d (by omega) (by omega)
      · exact fun q d h1 h2 => q d (by omega) (by omega)
    · rw [if_neg h]
      exact ⟨(fun z => nomatch z), fun q => absurd (q lo (Int.le_refl _) (by omega)) h⟩
theorem firstD_some {p : Int → Bool} : ∀ {n m : Nat} {lo d : Int}, firstD p lo n = some d → n ≤ m → firstD p lo m = some d
  | 0, _, _, _, h, _ => by cases h
  | n + 1, 0, _, _, _, h => absurd h (Nat.not_succ_le_zero n)
  | n + 1, m + 1, lo, d, h, hm => by
    unfold firstD at h ⊢
    by_cases hp : p lo = true
    · rw [if_pos hp] at h ⊢
      exact firstD_some h (Nat.le_of_succ_le_succ hm)
    · rw [if_neg hp] at h ⊢
      exact h
theorem forL_first {i : Nat} {b : SS} (p : Int → Bool) (I : Rho → Prop) : ∀ (n : Nat) (lo : Int) (ρ : Rho), I ρ → (∀ (d : Int) ρ, lo ≤ d → d < lo + (n : Int) → I ρ → (p d = true → ∃ ρ2, (b (ρ.set i (some (.int d)))).on = some ρ2 ∧ I ρ2) ∧ (p d = false → b (ρ.set i (some (.int d))) = .rt (.int d))) →
    (∃ d, firstD p lo n = some d ∧ forL (tgN i) b (rngD lo n) ρ = .rt (.int d)) ∨ (firstD p lo n = none ∧ ∃ ρ', forL (tgN i) b (rngD lo n) ρ = .nx ρ' ∧ I ρ')
  | 0, lo, ρ, h, _ => .inr ⟨rfl, ρ, rfl, h⟩
  | n + 1, lo, ρ, h, hs => by
    rw [rngD_cons]
    unfold firstD
    obtain ⟨h1, h2⟩ := hs lo ρ (Int.le_refl _) (by omega) h
    cases hp : p lo with
    | true =>
      obtain ⟨ρ2, e, h3⟩ := h1 hp
      rw [if_pos rfl, forL_cons_on (ρ1 := ρ.set i (some (.int lo))) rfl e]
      exact forL_first p I n (lo + 1) ρ2 h3 fun d ρ a b => hs d ρ (by omega) (by omega)
    | false =>
      rw [if_neg Bool.false_ne_true]
      exact .inl ⟨lo, rfl, forL_cons_rt (ρ1 := ρ.set i (some (.int lo))) rfl (h2 hp)⟩
end Pu
end

section
set_option Elab.async false
set_option linter.all false
set_option maxRecDepth 100000
set_option maxHeartbeats 2000000
/-! Py4: try, by data; tuples of three. -/
namespace Pu
open PySem L2

def F.cat : F → (Str → List (Str × D) → SS) → F
  | .ex c fs ρ, k => k c fs ρ
  | r, _ => r
@[simp] theorem F.cat_ex (c : Str) (fs : List (Str × D)) (ρ : Rho) (k : Str → List (Str × D) → SS) : (F.ex c fs ρ).cat k = k c fs ρ := id rfl
@[simp] theorem F.cat_nx (ρ : Rho) (k : Str → List (Str × D) → SS) : (F.nx ρ).cat k = .nx ρ := id rfl
@[simp] theorem F.cat_rt (d : D) (k : Str → List (Str × D) → SS) : (F.rt d).cat k = .rt d := id rfl
@[simp] theorem e_try (tbl : Str → Str → Option Bool) (fb : SS) (cl : List ClsD) (ρ : Rho) : sTry tbl fb cl ρ = (fb ρ).cat fun c fs => tryCl tbl c fs cl := by
  unfold sTry
  cases fb ρ <;> rfl
def F.only : F → F
  | .rt d => .rt d
  | _ => .bad
@[simp] theorem F.only_rt (d : D) : (F.rt d).only = .rt d := id rfl
theorem try_yes {tbl : Str → Str → Option Bool} {c y : Str} (h : tbl c y = some true) (fs : List (Str × D)) (i : Option Nat) (sb : SbC) (r : List ClsD) (ρ : Rho) : tryCl tbl c fs ((y, i, sb) :: r) ρ = (sb c fs (clr i ρ)).only := by
  unfold tryCl
  rw [h]
  dsimp only
  cases sb c fs (clr i ρ) <;> rfl
theorem try_no {tbl : Str → Str → Option Bool} {c y : Str} (h : tbl c y = some false) (fs : List (Str × D)) (i : Option Nat) (sb : SbC) (r : List ClsD) (ρ : Rho) : tryCl tbl c fs ((y, i, sb) :: r) ρ = tryCl tbl c fs r ρ := by
  conv => lhs; unfold tryCl
  rw [h]
@[simp] theorem try_nil (tbl : Str → Str → Option Bool) (c : Str) (fs : List (Str × D)) (ρ : Rho) : tryCl tbl c fs [] ρ = .ex c fs ρ := id rfl
@[simp] theorem clr_some (j : Nat) (ρ : Rho) : clr (some j) ρ = ρ.set j none := id rfl
@[simp] theorem clr_none (ρ : Rho) : clr none ρ = ρ := id rfl
theorem e_isx {tbl : Str → Str → Option Bool} {c y : Str} {b : Bool} (h : tbl c y = some b) (ρ : Rho) : sIsX tbl c y ρ = .ok (.bool b) := by
  unfold sIsX
  rw [h]
theorem e_isv {xs : List Str} {c : Str} (h : c ∈ xs) (ρ : Rho) : sIsV xs c ρ = .ok (.bool true) := by
  unfold sIsV
  rw [if_pos h]
theorem e_xf {xs : List Str} {c f : Str} {d : D} (h : c ∈ xs) (a : atom d = true) (ρ : Rho) : sXf xs c [(f, d)] f ρ = .ok d := by
  unfold sXf
  rw [if_pos h]
  have e : List.lookup f [(f, d)] = some d := by simp [List.lookup]
  rw [e]
  dsimp only
  rw [if_pos a]
/-- three atoms -/
def tri (s : Str) (d : D) (b : Bool) : D := .tuple [.str s, d, .bool b]
theorem sh_tri {s : Str} {d : D} {b : Bool} (hs : PyData.canLay0 (.str s) = true) (hd : PyData.canLay0 d = true) (ha : atom d = true) : SeqAt.shaped (tri s d b) = true := by
  have h1 : PyData.depth d = 0 := by
    cases d <;> first
      | exact absurd ha Bool.false_ne_true
      | (simp only [PyData.depth])
  unfold SeqAt.shaped tri
  simp only [PyData.canLay0, PyData.canLayAll0, PyData.depth, PyData.depthAll, h1]
  simp only [PyData.canLay0] at hs
  rw [hs, hd]
  rfl
theorem eqv_atom {d : D} (ha : atom d = true) : PyData.eqv d d = true := by
  cases d <;> first
    | exact absurd ha Bool.false_ne_true
    | (simp [PyData.eqv])
theorem eqv_tri {s : Str} {d : D} {b : Bool} (ha : atom d = true) : PyData.eqv (tri s d b) (tri s d b) = true := by
  unfold tri
  simp [PyData.eqv, PyData.eqvAll, eqv_atom ha]
theorem ne_tri {s : Str} {d : D} {b : Bool} (hs : PyData.canLay0 (.str s) = true) (hd : PyData.canLay0 d = true) (ha : atom d = true) : gNe (tri s d b) (tri s d b) = .ok (.bool false) := by
  rw [g_ne (sh_tri hs hd ha) (sh_tri hs hd ha), eqv_tri ha]
  rfl
theorem eq_tri {s : Str} {d : D} {b : Bool} (hs : PyData.canLay0 (.str s) = true) (hd : PyData.canLay0 d = true) (ha : atom d = true) : gEq (tri s d b) (tri s d b) = .ok (.bool true) := by
  rw [g_eq (sh_tri hs hd ha) (sh_tri hs hd ha), eqv_tri ha]
theorem can_int (i : Int) : PyData.canLay0 (.int i) = true := by simp [PyData.canLay0]
end Pu
end

section
set_option Elab.async false
set_option linter.all false
set_option maxRecDepth 100000
set_option maxHeartbeats 2000000
/-! Py5: lists cut and joined. -/
namespace Pu
open PySem L2

theorem cutA_to {α : Type} {xs : List α} {p : Nat} (h : p ≤ xs.length) : cutA xs none (some (p : Int)) = xs.take p := by
  unfold cutA HT.sIx
  have e0 : ¬ (p : Int) < 0 := by omega
  simp [e0, Nat.min_eq_left h]
theorem cutA_from {α : Type} {xs : List α} {p : Nat} (h : p ≤ xs.length) : cutA xs (some (p : Int)) none = xs.drop p := by
  unfold cutA HT.sIx
  have e0 : ¬ (p : Int) < 0 := by omega
  simp [e0, Nat.min_eq_left h]
  rw [List.take_of_length_le (by rw [List.length_drop]; exact Nat.le_refl _)]
theorem g_add_l {a b : List D} (h : a.length + b.length ≤ 16777216) : gAdd (.list a) (.list b) = .ok (.list (a ++ b)) := rIf_pos (size_small h)
theorem gSet_list {ds : List D} {k : Nat} (h : k < ds.length) (d : D) : gSet (.list ds) (.int (k : Nat)) d = .ok (.list (ds.set k d)) := by
  show (match ixN ds.length (k : Int) with
    | some j => R.ok (PyData.list (ds.set j d))
    | none => .bad) = _
  unfold ixN
  rw [if_pos (by omega), if_pos (by omega)]
  simp
end Pu
end

section
set_option Elab.async false
set_option linter.all false
set_option maxRecDepth 100000
set_option maxHeartbeats 0
namespace Lw
open PySem PySem.Spec PyProof.Rows L2 L2H Pu
def top (i : Nat) : Stmt := PySem.Challenge.pw_reelvault_k46_rotations_and_gaps.main.body.getD i (.Pass ⟨0, 0, 0, 0⟩)
def d_is_number : He.DefD := ⟨("is_number", none), "is_number", "is_number", defArgs (top 6), defBody (top 6), defScope (top 6), [], []⟩
def d_is_row : He.DefD := ⟨("is_row", none), "is_row", "is_row", defArgs (top 7), defBody (top 7), defScope (top 7), [], []⟩
def d_check_number : He.DefD := ⟨("check_number", none), "check_number", "check_number", defArgs (top 8), defBody (top 8), defScope (top 8), [], []⟩
def d_check_small_row : He.DefD := ⟨("check_small_row", none), "check_small_row", "check_small_row", defArgs (top 11), defBody (top 11), defScope (top 11), [], []⟩
def d_check_rotation : He.DefD := ⟨("check_rotation", none), "check_rotation", "check_rotation", defArgs (top 16), defBody (top 16), defScope (top 16), [], []⟩
def d_ages_of : He.DefD := ⟨("ages_of", none), "ages_of", "ages_of", defArgs (top 17), defBody (top 17), defScope (top 17), [], []⟩
def d_ages : He.DefD := ⟨("ages", none), "ages", "ages", defArgs (top 18), defBody (top 18), defScope (top 18), [], []⟩
def d_has_age : He.DefD := ⟨("has_age", none), "has_age", "has_age", defArgs (top 19), defBody (top 19), defScope (top 19), [], []⟩
def d_first_gap : He.DefD := ⟨("first_gap", none), "first_gap", "first_gap", defArgs (top 20), defBody (top 20), defScope (top 20), [], []⟩
def d__law_cell : He.DefD := ⟨("_law_cell", none), "_law_cell", "_law_cell", defArgs (top 22), defBody (top 22), defScope (top 22), [], []⟩
def d__law_row : He.DefD := ⟨("_law_row", none), "_law_row", "_law_row", defArgs (top 23), defBody (top 23), defScope (top 23), [], []⟩
def d__law_is_number : He.DefD := ⟨("_law_is_number", none), "_law_is_number", "_law_is_number", defArgs (top 24), defBody (top 24), defScope (top 24), [], []⟩
def d__law_are_numbers : He.DefD := ⟨("_law_are_numbers", none), "_law_are_numbers", "_law_are_numbers", defArgs (top 25), defBody (top 25), defScope (top 25), [], []⟩
def d__law_ages : He.DefD := ⟨("_law_ages", none), "_law_ages", "_law_ages", defArgs (top 26), defBody (top 26), defScope (top 26), [], []⟩
def d__law_gap : He.DefD := ⟨("_law_gap", none), "_law_gap", "_law_gap", defArgs (top 27), defBody (top 27), defScope (top 27), [], []⟩
def d__law_refusal : He.DefD := ⟨("_law_refusal", none), "_law_refusal", "_law_refusal", defArgs (top 28), defBody (top 28), defScope (top 28), [], []⟩
def d__law_refused : He.DefD := ⟨("_law_refused", none), "_law_refused", "_law_refused", defArgs (top 29), defBody (top 29), defScope (top 29), [], []⟩
def d__law_numbers_refused : He.DefD := ⟨("_law_numbers_refused", none), "_law_numbers_refused", "_law_numbers_refused", defArgs (top 30), defBody (top 30), defScope (top 30), [], []⟩
def d__law_gap_fits : He.DefD := ⟨("_law_gap_fits", none), "_law_gap_fits", "_law_gap_fits", defArgs (top 31), defBody (top 31), defScope (top 31), [], []⟩
def d_law : He.DefD := ⟨("law", none), "law", "law", defArgs (top 32), defBody (top 32), defScope (top 32), [], []⟩
def fn : List He.DefD := [d_is_number, d_is_row, d_check_number, d_check_small_row, d_check_rotation, d_ages_of, d_ages, d_has_age, d_first_gap, d__law_cell, d__law_row, d__law_is_number, d__law_are_numbers, d__law_ages, d__law_gap, d__law_refusal, d__law_refused, d__law_numbers_refused, d__law_gap_fits, d_law]
def fa : List He.Fa := [.glo "is_number", .glo "is_row", .glo "check_number", .glo "check_small_row", .glo "check_rotation", .glo "ages_of", .glo "ages", .glo "has_age", .glo "first_gap", .glo "_law_cell", .glo "_law_row", .glo "_law_is_number", .glo "_law_are_numbers", .glo "_law_ages", .glo "_law_gap", .glo "_law_refusal", .glo "_law_refused", .glo "_law_numbers_refused", .glo "_law_gap_fits", .glo "law", .glo "VaultError", .glo "BadNumber", .glo "BadLevels", .glo "TooMany", .free "ValueError", .free "bool", .free "enumerate", .free "int", .free "isinstance", .free "len", .free "list", .free "max", .free "range", .free "sorted", .free "super", .free "tuple", .int "LEVEL_LIMIT" 7, .int "ROTATION_LIMIT" 16, .int "DAY_LIMIT" 9999, .int "AGE_LIMIT" 30]
def c_BadNumber : XcD := ⟨"BadNumber", "what", "not an integer in its range", top 2⟩
def c_BadLevels : XcD := ⟨"BadLevels", "at", "not a row of levels or tapes", top 3⟩
def c_TooMany : XcD := ⟨"TooMany", "limit", "limit exceeded", top 4⟩
def xs : List XcD := [c_BadNumber, c_BadLevels, c_TooMany]
def tb : Tbl := [("VaultError", "VaultError", true), ("VaultError", "BadNumber", false), ("VaultError", "BadLevels", false), ("VaultError", "TooMany", false), ("BadNumber", "VaultError", true), ("BadNumber", "BadNumber", true), ("BadNumber", "BadLevels", false), ("BadNumber", "TooMany", false), ("BadLevels", "VaultError", true), ("BadLevels", "BadNumber", false), ("BadLevels", "BadLevels", true), ("BadLevels", "TooMany", false), ("TooMany", "VaultError", true), ("TooMany", "BadNumber", false), ("TooMany", "BadLevels", false), ("TooMany", "TooMany", true)]
abbrev nf : List Str := ["BadNumber", "BadLevels", "TooMany"]
abbrev fl : List Str := ["at", "limit", "what"]
def pd : PrD := ⟨fa, fn, xs, tb, nf, fl⟩
section
variable {P : Program} {w : World} {K : PySem.W.Frag} {mg : Str → Option Value} {base : Heap}
theorem g_is_number (G : EnvG P pd K mg) : mg "is_number" = some (.ref (He.ga K "is_number")) := G.glo 0 rfl
theorem g_is_row (G : EnvG P pd K mg) : mg "is_row" = some (.ref (He.ga K "is_row")) := G.glo 1 rfl
theorem g_check_number (G : EnvG P pd K mg) : mg "check_number" = some (.ref (He.ga K "check_number")) := G.glo 2 rfl
theorem g_check_small_row (G : EnvG P pd K mg) : mg "check_small_row" = some (.ref (He.ga K "check_small_row")) := G.glo 3 rfl
theorem g_check_rotation (G : EnvG P pd K mg) : mg "check_rotation" = some (.ref (He.ga K "check_rotation")) := G.glo 4 rfl
theorem g_ages_of (G : EnvG P pd K mg) : mg "ages_of" = some (.ref (He.ga K "ages_of")) := G.glo 5 rfl
theorem g_ages (G : EnvG P pd K mg) : mg "ages" = some (.ref (He.ga K "ages")) := G.glo 6 rfl
theorem g_has_age (G : EnvG P pd K mg) : mg "has_age" = some (.ref (He.ga K "has_age")) := G.glo 7 rfl
theorem g_first_gap (G : EnvG P pd K mg) : mg "first_gap" = some (.ref (He.ga K "first_gap")) := G.glo 8 rfl
theorem g__law_cell (G : EnvG P pd K mg) : mg "_law_cell" = some (.ref (He.ga K "_law_cell")) := G.glo 9 rfl
theorem g__law_row (G : EnvG P pd K mg) : mg "_law_row" = some (.ref (He.ga K "_law_row")) := G.glo 10 rfl
theorem g__law_is_number (G : EnvG P pd K mg) : mg "_law_is_number" = some (.ref (He.ga K "_law_is_number")) := G.glo 11 rfl
theorem g__law_are_numbers (G : EnvG P pd K mg) : mg "_law_are_numbers" = some (.ref (He.ga K "_law_are_numbers")) := G.glo 12 rfl
theorem g__law_ages (G : EnvG P pd K mg) : mg "_law_ages" = some (.ref (He.ga K "_law_ages")) := G.glo 13 rfl
theorem g__law_gap (G : EnvG P pd K mg) : mg "_law_gap" = some (.ref (He.ga K "_law_gap")) := G.glo 14 rfl
theorem g__law_refusal (G : EnvG P pd K mg) : mg "_law_refusal" = some (.ref (He.ga K "_law_refusal")) := G.glo 15 rfl
theorem g__law_refused (G : EnvG P pd K mg) : mg "_law_refused" = some (.ref (He.ga K "_law_refused")) := G.glo 16 rfl
theorem g__law_numbers_refused (G : EnvG P pd K mg) : mg "_law_numbers_refused" = some (.ref (He.ga K "_law_numbers_refused")) := G.glo 17 rfl
theorem g__law_gap_fits (G : EnvG P pd K mg) : mg "_law_gap_fits" = some (.ref (He.ga K "_law_gap_fits")) := G.glo 18 rfl
theorem g_law (G : EnvG P pd K mg) : mg "law" = some (.ref (He.ga K "law")) := G.glo 19 rfl
theorem g_VaultError (G : EnvG P pd K mg) : mg "VaultError" = some (.ref (He.ga K "VaultError")) := G.glo 20 rfl
theorem g_BadNumber (G : EnvG P pd K mg) : mg "BadNumber" = some (.ref (He.ga K "BadNumber")) := G.glo 21 rfl
theorem g_BadLevels (G : EnvG P pd K mg) : mg "BadLevels" = some (.ref (He.ga K "BadLevels")) := G.glo 22 rfl
theorem g_TooMany (G : EnvG P pd K mg) : mg "TooMany" = some (.ref (He.ga K "TooMany")) := G.glo 23 rfl
theorem g_ValueError (G : EnvG P pd K mg) : mg "ValueError" = none := G.free 24 rfl
theorem g_bool (G : EnvG P pd K mg) : mg "bool" = none := G.free 25 rfl
theorem g_enumerate (G : EnvG P pd K mg) : mg "enumerate" = none := G.free 26 rfl
theorem g_int (G : EnvG P pd K mg) : mg "int" = none := G.free 27 rfl
theorem g_isinstance (G : EnvG P pd K mg) : mg "isinstance" = none := G.free 28 rfl
theorem g_len (G : EnvG P pd K mg) : mg "len" = none := G.free 29 rfl
theorem g_list (G : EnvG P pd K mg) : mg "list" = none := G.free 30 rfl
theorem g_max (G : EnvG P pd K mg) : mg "max" = none := G.free 31 rfl
theorem g_range (G : EnvG P pd K mg) : mg "range" = none := G.free 32 rfl
theorem g_sorted (G : EnvG P pd K mg) : mg "sorted" = none := G.free 33 rfl
theorem g_super (G : EnvG P pd K mg) : mg "super" = none := G.free 34 rfl
theorem g_tuple (G : EnvG P pd K mg) : mg "tuple" = none := G.free 35 rfl
theorem g_LEVEL_LIMIT (G : EnvG P pd K mg) : ∃ t, mg "LEVEL_LIMIT" = some (.int 7 t) := G.int 36 rfl
theorem g_ROTATION_LIMIT (G : EnvG P pd K mg) : ∃ t, mg "ROTATION_LIMIT" = some (.int 16 t) := G.int 37 rfl
theorem g_DAY_LIMIT (G : EnvG P pd K mg) : ∃ t, mg "DAY_LIMIT" = some (.int 9999 t) := G.int 38 rfl
theorem g_AGE_LIMIT (G : EnvG P pd K mg) : ∃ t, mg "AGE_LIMIT" = some (.int 30 t) := G.int 39 rfl
theorem xc_BadNumber (G : EnvG PySem.Challenge.pw_reelvault_k46_rotations_and_gaps pd K mg) : ∃ fI cc cda, PySem.Xc.Txt PySem.Challenge.pw_reelvault_k46_rotations_and_gaps K "BadNumber" "what" "not an integer in its range" (He.ga K "BadNumber") fI cc cda :=
  G.c.xc 0 (c := c_BadNumber) rfl rfl ⟨⟨rfl, rfl⟩, rfl, rfl⟩ rfl (fun _ _ _ _ _ _ _ _ _ _ => BindsTo.of_eq rfl)
theorem xc_BadLevels (G : EnvG PySem.Challenge.pw_reelvault_k46_rotations_and_gaps pd K mg) : ∃ fI cc cda, PySem.Xc.Txt PySem.Challenge.pw_reelvault_k46_rotations_and_gaps K "BadLevels" "at" "not a row of levels or tapes" (He.ga K "BadLevels") fI cc cda :=
  G.c.xc 1 (c := c_BadLevels) rfl rfl ⟨⟨rfl, rfl⟩, rfl, rfl⟩ rfl (fun _ _ _ _ _ _ _ _ _ _ => BindsTo.of_eq rfl)
theorem xc_TooMany (G : EnvG PySem.Challenge.pw_reelvault_k46_rotations_and_gaps pd K mg) : ∃ fI cc cda, PySem.Xc.Txt PySem.Challenge.pw_reelvault_k46_rotations_and_gaps K "TooMany" "limit" "limit exceeded" (He.ga K "TooMany") fI cc cda :=
  G.c.xc 2 (c := c_TooMany) rfl rfl ⟨⟨rfl, rfl⟩, rfl, rfl⟩ rfl (fun _ _ _ _ _ _ _ _ _ _ => BindsTo.of_eq rfl)
end
end Lw
end

section
set_option Elab.async false
set_option linter.all false
set_option maxRecDepth 100000
set_option maxHeartbeats 0
namespace Lw
open PySem PySem.Spec PyProof.Rows L2 L2H Pu
abbrev RwK : PySem.W.OpenRow := PySem.W.OpenLaw.row PySem.Challenge.rw_reelvault_k46_rotations_and_gaps
abbrev hk : PySem.W.Hook := hookP 5 PySem.Challenge.pw_reelvault_k46_rotations_and_gaps pd
def ob (s : PySem.W.SharedT) : AlP := obsPG 5 PySem.Challenge.pw_reelvault_k46_rotations_and_gaps pd (HandSHeadRun.getT s)
theorem ob_eq (s : PySem.W.SharedT) : ob s = hk.obs s.abs := obsPG_eq (HandSHeadRun.getT_eq s)
def ls0 : List PySem.Str := ["AGE_LIMIT", "BadLevels", "BadNumber", "DAY_LIMIT", "LEVEL_LIMIT", "ROTATION_LIMIT", "TooMany", "VaultError", "_law_ages", "_law_are_numbers", "_law_cell", "_law_gap", "_law_gap_fits", "_law_is_number", "_law_numbers_refused", "_law_refusal", "_law_refused", "_law_row", "ages", "ages_of", "check_number", "check_rotation", "check_small_row", "first_gap", "has_age", "is_number", "is_row"]
def loose : List PySem.Str := ls0
theorem run (w : World) : HandSHeadRun.RunEq RwK (PySem.W.view RwK.prog [32]) hk ob 4000 loose w := by
  intro os
  kernel_rfl
end Lw
end

section
set_option Elab.async false
set_option linter.all false
set_option maxRecDepth 100000
set_option maxHeartbeats 0
namespace Lw
open PySem PySem.Spec PyProof.Rows L2 L2H Pu
section
variable {w : World} {K : PySem.W.Frag} {mg : Str → Option Value} {base : Heap}
def b_is_number : SS := (sSeq (sIfS (tOr' (tNot' (tB' (s1 (gIs isInt) (sVar 0)))) (tB' (s1 (gIs isBool) (sVar 0)))) (sSeq (sRet (sC (.bool false))) (fun ρ => .nx ρ)) (fun ρ => .nx ρ)) (sSeq (sRet (sChain gLe gLe (sVar 1) (sVar 0) (sVar 2))) (fun ρ => .nx ρ)))
theorem nd_is_number : (["value", "low", "high"] : List Str).Nodup := by decide +kernel
def m_is_number : List D → R D := dataOf 3 b_is_number
theorem h_is_number (G : EnvG PySem.Challenge.pw_reelvault_k46_rotations_and_gaps pd K mg) : Has PySem.Challenge.pw_reelvault_k46_rotations_and_gaps w K mg base "is_number" 1 0 ["value", "low", "high"] m_is_number :=
  has_of (N := ["value", "low", "high"]) (ps := ["value", "low", "high"]) (lv := 0) (fb := b_is_number) [0, 0, 0] [0, 0, 0] G 0 rfl rfl rfl (g_is_number G) ⟨rfl, rfl, rfl, by decide +kernel, rfl, by decide +kernel, by decide +kernel⟩ (by decide) rfl
    (fun _ _ _ _ _ _ us hl => match us, hl with | [_, _, _], _ => rfl)
    (fun cdv f A outer s H E hr => (ss_cons (ωm := [0, 0, 0]) (s_if (t_w (w_or (t_not (t_val (x_isint (g_isinstance G) (g_int G) (rv 0)))) (w_or1 (t_val (x_isbool (g_isinstance G) (g_bool G) (rv 0)))))) (ss_cons (ωm := [0, 0, 0]) (s_ret rfl (rf_of r_bl)) ss_end) ss_end) (ss_cons (ωm := [0, 0, 0]) (s_ret rfl (rf_of (x_lele (rq_of (rv 1)) (rq_of (rv 0)) (rq_of (rv 2))))) ss_end)))
def b_is_row : SS := (sSeq (sRet (s1 (gIs isRow) (sVar 0))) (fun ρ => .nx ρ))
theorem nd_is_row : (["value"] : List Str).Nodup := by decide +kernel
def m_is_row : List D → R D := dataOf 1 b_is_row
theorem h_is_row (G : EnvG PySem.Challenge.pw_reelvault_k46_rotations_and_gaps pd K mg) : Has PySem.Challenge.pw_reelvault_k46_rotations_and_gaps w K mg base "is_row" 1 0 ["value"] m_is_row :=
  has_of (N := ["value"]) (ps := ["value"]) (lv := 0) (fb := b_is_row) [0] [0] G 1 rfl rfl rfl (g_is_row G) ⟨rfl, rfl, rfl, by decide +kernel, rfl, by decide +kernel, by decide +kernel⟩ (by decide) rfl
    (fun _ _ _ _ _ _ us hl => match us, hl with | [_], _ => rfl)
    (fun cdv f A outer s H E hr => (ss_cons (ωm := [0]) (s_ret rfl (rf_of (r_isrow rfl rfl (rv 0) (g_isinstance G) (g_list G) (g_tuple G)))) ss_end))
def b_check_number : SS := (sSeq (sIfS (tNot' (tB' (sCall m_is_number (aCons (sVar 0) (aCons (sVar 1) (aCons (sVar 2) aNil)))))) (sSeq (sRaise "BadNumber" "what" (sVar 3)) (fun ρ => .nx ρ)) (fun ρ => .nx ρ)) (fun ρ => .nx ρ))
theorem nd_check_number : (["value", "low", "high", "what"] : List Str).Nodup := by decide +kernel
def m_check_number : List D → R D := dataOf 4 b_check_number
theorem h_check_number (G : EnvG PySem.Challenge.pw_reelvault_k46_rotations_and_gaps pd K mg) : Has PySem.Challenge.pw_reelvault_k46_rotations_and_gaps w K mg base "check_number" 2 0 ["value", "low", "high", "what"] m_check_number :=
  has_of (N := ["value", "low", "high", "what"]) (ps := ["value", "low", "high", "what"]) (lv := 0) (fb := b_check_number) [0, 0, 0, 0] [0, 0, 0, 0] G 2 rfl rfl rfl (g_check_number G) ⟨rfl, rfl, rfl, by decide +kernel, rfl, by decide +kernel, by decide +kernel⟩ (by decide) rfl
    (fun _ _ _ _ _ _ us hl => match us, hl with | [_, _, _, _], _ => rfl)
    (fun cdv f A outer s H E hr => (ss_cons (ωm := [0, 0, 0, 0]) (s_if (t_not (t_val (rp_frz (x_call (h_is_number G) (L2N.takes_of rfl rfl rfl rfl) hr (a_cons (rv 0) (a_cons (rv 1) (a_cons (rv 2) a_nil))))))) (ss_cons (ωm := [0, 0, 0, 0]) (x_raise (xc_BadNumber G) (g_BadNumber G) (g_super G) hr (L2N.takes_of rfl rfl rfl rfl) rfl (rv 3)) ss_end) ss_end) ss_end))
def b_check_small_row : SS := (sSeq (sIfS (tOr' (tNot' (tB' (sCall m_is_row (aCons (sVar 0) aNil)))) (tB' (s2 gEq (sCall gLen (aCons (sVar 0) aNil)) (sC (.int 0))))) (sSeq (sRaise "BadLevels" "at" (s1 gNeg (sC (.int 1)))) (fun ρ => .nx ρ)) (fun ρ => .nx ρ)) (sSeq (sIfS (tB' (s2 gGt (sCall gLen (aCons (sVar 0) aNil)) (sVar 1))) (sSeq (sRaise "TooMany" "limit" (sVar 1)) (fun ρ => .nx ρ)) (fun ρ => .nx ρ)) (sSeq (sFor (sEnumA (aCons (sVar 0) aNil)) (tgT [2, 3]) (sSeq (sIfS (tNot' (tB' (sCall m_is_number (aCons (sVar 3) (aCons (sC (.int 0)) (aCons (sC (.int 7)) aNil)))))) (sSeq (sRaise "BadLevels" "at" (sVar 2)) (fun ρ => .nx ρ)) (fun ρ => .nx ρ)) (fun ρ => .nx ρ))) (sSeq (sRet (sCall gList (aCons (sVar 0) aNil))) (fun ρ => .nx ρ)))))
theorem nd_check_small_row : (["row", "most", "at", "member"] : List Str).Nodup := by decide +kernel
def m_check_small_row : List D → R D := dataOf 4 b_check_small_row
theorem h_check_small_row (G : EnvG PySem.Challenge.pw_reelvault_k46_rotations_and_gaps pd K mg) : Has PySem.Challenge.pw_reelvault_k46_rotations_and_gaps w K mg base "check_small_row" 2 1 ["row", "most"] m_check_small_row :=
  has_of (N := ["row", "most", "at", "member"]) (ps := ["row", "most"]) (lv := 1) (fb := b_check_small_row) [0, 0, 0, 0] [0, 0, 0, 0] G 3 rfl rfl rfl (g_check_small_row G) ⟨rfl, rfl, rfl, by decide +kernel, rfl, by decide +kernel, by decide +kernel⟩ (by decide) rfl
    (fun _ _ _ _ _ _ us hl => match us, hl with | [_, _], _ => rfl)
    (fun cdv f A outer s H E hr => (ss_cons (ωm := [0, 0, 0, 0]) (s_if (t_w (w_or (t_not (t_val (rp_frz (x_call (h_is_row G) (L2N.takes_of rfl rfl rfl rfl) hr (a_cons (rv 0) a_nil))))) (w_or1 (c_eq hr (rq_of (x_len (g_len G) (aq_cons (rq_of (rv 0)) aq_nil))) (rq_of r_int))))) (ss_cons (ωm := [0, 0, 0, 0]) (x_raise (xc_BadLevels G) (g_BadLevels G) (g_super G) hr (L2N.takes_of rfl rfl rfl rfl) rfl (r_neg r_int)) ss_end) ss_end) (ss_cons (ωm := [0, 0, 0, 0]) (s_if (c_gt (rq_of (x_len (g_len G) (aq_cons (rq_of (rv 0)) aq_nil))) (rq_of (rv 1))) (ss_cons (ωm := [0, 0, 0, 0]) (x_raise (xc_TooMany G) (g_TooMany G) (g_super G) hr (L2N.takes_of rfl rfl rfl rfl) rfl (rv 1)) ss_end) ss_end) (ss_cons (ωm := [0, 0, 0, 0]) (s_for [0, 0, 0, 0] (passes_of rfl) rfl (i_enum (a_cons (rv 0) a_nil) (g_enumerate G)) (pg_tup rfl (pgs_cons (pg_name (i := 2) nd_check_small_row rfl (by first | exact .inl rfl | exact .inr rfl)) (pgs_cons (pg_name (i := 3) nd_check_small_row rfl (by first | exact .inl rfl | exact .inr rfl)) pgs_nil))) (tg_tup [2, 3] (by decide) rfl) (ss_cons (ωm := [0, 0, 0, 0]) (s_if (t_not (t_val (rp_frz (x_call (h_is_number G) (L2N.takes_of rfl rfl rfl rfl) hr (a_cons (rv 3) (a_cons r_int (a_cons (r_gint (g_LEVEL_LIMIT G)) a_nil))))))) (ss_cons (ωm := [0, 0, 0, 0]) (x_raise (xc_BadLevels G) (g_BadLevels G) (g_super G) hr (L2N.takes_of rfl rfl rfl rfl) rfl (rv 2)) ss_end) ss_end) ss_end)) (ss_cons (ωm := [0, 0, 0, 0]) (s_ret rfl (x_list (g_list G) (aq_cons (rq_of (rv 0)) aq_nil))) ss_end)))))
def b_check_rotation : SS := (sSeq (sRet (sCall m_check_small_row (aCons (sVar 0) (aCons (sC (.int 16)) aNil)))) (fun ρ => .nx ρ))
theorem nd_check_rotation : (["rotation"] : List Str).Nodup := by decide +kernel
def m_check_rotation : List D → R D := dataOf 1 b_check_rotation
theorem h_check_rotation (G : EnvG PySem.Challenge.pw_reelvault_k46_rotations_and_gaps pd K mg) : Has PySem.Challenge.pw_reelvault_k46_rotations_and_gaps w K mg base "check_rotation" 3 1 ["rotation"] m_check_rotation :=
  has_of (N := ["rotation"]) (ps := ["rotation"]) (lv := 1) (fb := b_check_rotation) [0] [0] G 4 rfl rfl rfl (g_check_rotation G) ⟨rfl, rfl, rfl, by decide +kernel, rfl, by decide +kernel, by decide +kernel⟩ (by decide) rfl
    (fun _ _ _ _ _ _ us hl => match us, hl with | [_], _ => rfl)
    (fun cdv f A outer s H E hr => (ss_cons (ωm := [0]) (s_ret rfl (x_call (h_check_small_row G) (L2N.takes_of rfl rfl rfl rfl) hr (a_cons (rv 0) (a_cons (r_gint (g_ROTATION_LIMIT G)) a_nil)))) ss_end))
def b_ages_of : SS := (sSeq (sSet 2 (sC (.dict []))) (sSeq (sFor (sRange2 (aCons (sCall gMax2 (aCons (sC (.int 1)) (aCons (s2 gAdd (s2 gSub (sVar 1) (sCall gLen (aCons (sVar 0) aNil))) (sC (.int 1))) aNil))) (aCons (s2 gAdd (sVar 1) (sC (.int 1))) aNil))) (tgN 3) (sSeq (sSetI 2 (s2 gIxA (sVar 0) (s2 gMod (s2 gSub (sVar 3) (sC (.int 1))) (sCall gLen (aCons (sVar 0) aNil)))) (sVar 3)) (fun ρ => .nx ρ))) (sLock 2 (sSeq (sRet (sCall gSorted (aCons (sComp 4 (sIterA (sVar 2)) bYes (s2 gSub (sVar 1) (s2 gIxA (sVar 2) (sVar 4)))) aNil))) (fun ρ => .nx ρ)))))
theorem nd_ages_of : (["rotation", "day", "written", "earlier", "tape"] : List Str).Nodup := by decide +kernel
def m_ages_of : List D → R D := dataOf 5 b_ages_of
theorem h_ages_of (G : EnvG PySem.Challenge.pw_reelvault_k46_rotations_and_gaps pd K mg) : Has PySem.Challenge.pw_reelvault_k46_rotations_and_gaps w K mg base "ages_of" 1 1 ["rotation", "day"] m_ages_of :=
  has_of (N := ["rotation", "day", "written", "earlier", "tape"]) (ps := ["rotation", "day"]) (lv := 1) (fb := b_ages_of) [0, 0, 0, 0, 0] [0, 0, 0, 0, 0] G 5 rfl rfl rfl (g_ages_of G) ⟨rfl, rfl, rfl, by decide +kernel, rfl, by decide +kernel, by decide +kernel⟩ (by decide) rfl
    (fun _ _ _ _ _ _ us hl => match us, hl with | [_, _], _ => rfl)
    (fun cdv f A outer s H E hr => (ss_cons (ωm := [0, 0, 1, 0, 0]) (s_set 2 (k := 1) (hN := nd_ages_of) r_dnew) (ss_cons (ωm := [0, 0, 1, 0, 0]) (s_for [0, 0, 1, 0, 0] (passes_of rfl) rfl (i_rng2 (a_cons (x_max2 rfl (g_max G) (aq_cons (rq_of r_int) (aq_cons (rq_new (x_add (rq_of (x_sub (rq_of (rv 1)) (rq_of (x_len (g_len G) (aq_cons (rq_of (rv 0)) aq_nil))))) (rq_of r_int))) aq_nil))) (a_cons (rp_frz (x_add (rq_of (rv 1)) (rq_of r_int))) a_nil)) (g_range G)) (pg_name (i := 3) nd_ages_of rfl (by first | exact .inl rfl | exact .inr rfl)) (tg_name 3) (ss_cons (ωm := [0, 0, 1, 0, 0]) (s_seti 2 (u1 hr) rfl (rv 3) (r_ixa (u1 hr) (rq_of (rv 0)) (rq_of (x_mod (rq_of (x_sub (rq_of (rv 3)) (rq_of r_int))) (rq_of (x_len (g_len G) (aq_cons (rq_of (rv 0)) aq_nil))))))) ss_end)) (ss_lock 2 (ss_cons (ωm := [0, 0, 0, 0, 0]) (s_ret rfl (x_sorted (g_sorted G) (aq_cons (rq_new (r_comp 4 (by decide) rfl rfl rfl nd_ages_of (ig_any (rq_of (rv 2))) (blk_of (by kernel_rfl)) rfl (fun s H C cl fp => pg_name (i := 4) nd_ages_of rfl (.inl rfl)) (fun s H C cl fp => ts_nil) (fun s H C cl fp => (x_sub (rq_of (rv 1)) (rq_of (r_ixa (u1 hr) (rq_of (rv 2)) (rq_of (rv 4)))))))) aq_nil))) ss_end)))))
def b_ages : SS := (sSeq (sSet 0 (sCall m_check_rotation (aCons (sVar 0) aNil))) (sSeq (sDrop (sCall m_check_number (aCons (sVar 1) (aCons (sC (.int 0)) (aCons (sC (.int 9999)) (aCons (sC (.str "day")) aNil)))))) (sSeq (sRet (sCall m_ages_of (aCons (sVar 0) (aCons (sVar 1) aNil)))) (fun ρ => .nx ρ))))
theorem nd_ages : (["rotation", "day"] : List Str).Nodup := by decide +kernel
def m_ages : List D → R D := dataOf 2 b_ages
theorem h_ages (G : EnvG PySem.Challenge.pw_reelvault_k46_rotations_and_gaps pd K mg) : Has PySem.Challenge.pw_reelvault_k46_rotations_and_gaps w K mg base "ages" 4 1 ["rotation", "day"] m_ages :=
  has_of (N := ["rotation", "day"]) (ps := ["rotation", "day"]) (lv := 1) (fb := b_ages) [0, 0] [0, 0] G 6 rfl rfl rfl (g_ages G) ⟨rfl, rfl, rfl, by decide +kernel, rfl, by decide +kernel, by decide +kernel⟩ (by decide) rfl
    (fun _ _ _ _ _ _ us hl => match us, hl with | [_, _], _ => rfl)
    (fun cdv f A outer s H E hr => (ss_cons (ωm := [1, 0]) (s_set 0 (k := 1) (hN := nd_ages) (x_call (h_check_rotation G) (L2N.takes_of rfl rfl rfl rfl) hr (a_cons (rv 0) a_nil))) (ss_cons (ωm := [1, 0]) (s_drop (rp_frz (x_call (h_check_number G) (L2N.takes_of rfl rfl rfl rfl) hr (a_cons (rv 1) (a_cons r_int (a_cons (r_gint (g_DAY_LIMIT G)) (a_cons r_str a_nil))))))) (ss_frz [0, 0] (ss_cons (ωm := [0, 0]) (s_ret rfl (x_call (h_ages_of G) (L2N.takes_of rfl rfl rfl rfl) hr (a_cons (rv 0) (a_cons (rv 1) a_nil)))) ss_end)))))
def b_has_age : SS := (sSeq (sFor (sIterA (sVar 0)) (tgN 3) (sSeq (sIfS (tB' (sChain gLe gLe (sVar 1) (sVar 3) (sVar 2))) (sSeq (sRet (sC (.bool true))) (fun ρ => .nx ρ)) (fun ρ => .nx ρ)) (fun ρ => .nx ρ))) (sSeq (sRet (sC (.bool false))) (fun ρ => .nx ρ)))
theorem nd_has_age : (["row", "low", "high", "age"] : List Str).Nodup := by decide +kernel
def m_has_age : List D → R D := dataOf 4 b_has_age
theorem h_has_age (G : EnvG PySem.Challenge.pw_reelvault_k46_rotations_and_gaps pd K mg) : Has PySem.Challenge.pw_reelvault_k46_rotations_and_gaps w K mg base "has_age" 1 0 ["row", "low", "high"] m_has_age :=
  has_of (N := ["row", "low", "high", "age"]) (ps := ["row", "low", "high"]) (lv := 0) (fb := b_has_age) [0, 0, 0, 0] [0, 0, 0, 0] G 7 rfl rfl rfl (g_has_age G) ⟨rfl, rfl, rfl, by decide +kernel, rfl, by decide +kernel, by decide +kernel⟩ (by decide) rfl
    (fun _ _ _ _ _ _ us hl => match us, hl with | [_, _, _], _ => rfl)
    (fun cdv f A outer s H E hr => (ss_cons (ωm := [0, 0, 0, 0]) (s_for [0, 0, 0, 0] (passes_of rfl) rfl (i_any (rv 0)) (pg_name (i := 3) nd_has_age rfl (by first | exact .inl rfl | exact .inr rfl)) (tg_name 3) (ss_cons (ωm := [0, 0, 0, 0]) (s_if (c_lele (rq_of (rv 1)) (rq_of (rv 3)) (rq_of (rv 2))) (ss_cons (ωm := [0, 0, 0, 0]) (s_ret rfl (rf_of r_bl)) ss_end) ss_end) ss_end)) (ss_cons (ωm := [0, 0, 0, 0]) (s_ret rfl (rf_of r_bl)) ss_end)))
def b_first_gap : SS := (sSeq (sSet 0 (sCall m_check_rotation (aCons (sVar 0) aNil))) (sSeq (sDrop (sCall m_check_number (aCons (sVar 1) (aCons (sC (.int 0)) (aCons (sC (.int 30)) (aCons (sC (.str "low")) aNil)))))) (sSeq (sDrop (sCall m_check_number (aCons (sVar 2) (aCons (sVar 1) (aCons (sC (.int 30)) (aCons (sC (.str "high")) aNil)))))) (sSeq (sFor (sRange2 (aCons (sCall gLen (aCons (sVar 0) aNil)) (aCons (s2 gMul (sC (.int 2)) (sCall gLen (aCons (sVar 0) aNil))) aNil))) (tgN 3) (sSeq (sIfS (tNot' (tB' (sAtom (sCall m_has_age (aCons (sCall m_ages_of (aCons (sVar 0) (aCons (sVar 3) aNil))) (aCons (sVar 1) (aCons (sVar 2) aNil))))))) (sSeq (sRet (sVar 3)) (fun ρ => .nx ρ)) (fun ρ => .nx ρ)) (fun ρ => .nx ρ))) (sSeq (sRet (sC .none)) (fun ρ => .nx ρ))))))
theorem nd_first_gap : (["rotation", "low", "high", "day"] : List Str).Nodup := by decide +kernel
def m_first_gap : List D → R D := dataOf 4 b_first_gap
theorem h_first_gap (G : EnvG PySem.Challenge.pw_reelvault_k46_rotations_and_gaps pd K mg) : Has PySem.Challenge.pw_reelvault_k46_rotations_and_gaps w K mg base "first_gap" 4 0 ["rotation", "low", "high"] m_first_gap :=
  has_of (N := ["rotation", "low", "high", "day"]) (ps := ["rotation", "low", "high"]) (lv := 0) (fb := b_first_gap) [0, 0, 0, 0] [0, 0, 0, 0] G 8 rfl rfl rfl (g_first_gap G) ⟨rfl, rfl, rfl, by decide +kernel, rfl, by decide +kernel, by decide +kernel⟩ (by decide) rfl
    (fun _ _ _ _ _ _ us hl => match us, hl with | [_, _, _], _ => rfl)
    (fun cdv f A outer s H E hr => (ss_cons (ωm := [1, 0, 0, 0]) (s_set 0 (k := 1) (hN := nd_first_gap) (x_call (h_check_rotation G) (L2N.takes_of rfl rfl rfl rfl) hr (a_cons (rv 0) a_nil))) (ss_cons (ωm := [1, 0, 0, 0]) (s_drop (rp_frz (x_call (h_check_number G) (L2N.takes_of rfl rfl rfl rfl) hr (a_cons (rv 1) (a_cons r_int (a_cons (r_gint (g_AGE_LIMIT G)) (a_cons r_str a_nil))))))) (ss_cons (ωm := [1, 0, 0, 0]) (s_drop (rp_frz (x_call (h_check_number G) (L2N.takes_of rfl rfl rfl rfl) hr (a_cons (rv 2) (a_cons (rv 1) (a_cons (r_gint (g_AGE_LIMIT G)) (a_cons r_str a_nil))))))) (ss_cons (ωm := [1, 0, 0, 0]) (s_for [1, 0, 0, 0] (passes_of rfl) rfl (i_rng2 (a_cons (x_len (g_len G) (aq_cons (qv 0) aq_nil)) (a_cons (rp_frz (x_mul (rq_of r_int) (rq_of (x_len (g_len G) (aq_cons (qv 0) aq_nil))))) a_nil)) (g_range G)) (pg_name (i := 3) nd_first_gap rfl (by first | exact .inl rfl | exact .inr rfl)) (tg_name 3) (ss_cons (ωm := [1, 0, 0, 0]) (s_if (t_not (t_val (rp_borrow [0, 0, 0, 0] (x_call (h_has_age G) (L2N.takes_of rfl rfl rfl rfl) hr (a_cons (rp_frz (x_call (h_ages_of G) (L2N.takes_of rfl rfl rfl rfl) hr (a_cons (rv 0) (a_cons (rv 3) a_nil)))) (a_cons (rv 1) (a_cons (rv 2) a_nil))))))) (ss_cons (ωm := [1, 0, 0, 0]) (s_ret rfl (rf_of (rv 3))) ss_end) ss_end) ss_end)) (ss_cons (ωm := [1, 0, 0, 0]) (s_ret rfl (rf_of r_non)) ss_end))))))
def b__law_cell : SS := (sSeq (sIfS (tB' (s2 gLt (sVar 1) (sCall gLen (aCons (sVar 0) aNil)))) (sSeq (sRet (s2 gIxA (sVar 0) (sVar 1))) (fun ρ => .nx ρ)) (fun ρ => .nx ρ)) (sSeq (sIfS (tB' (s2 gEq (sCall gLen (aCons (sVar 0) aNil)) (sC (.int 0)))) (sSeq (sRet (s2 gMul (sC (.int 7919)) (sVar 1))) (fun ρ => .nx ρ)) (fun ρ => .nx ρ)) (sSeq (sRet (s2 gAdd (s2 gMod (sCall gInt (aCons (s2 gIxA (sVar 0) (s2 gMod (sCall gInt (aCons (sVar 1) aNil)) (sCall gLen (aCons (sVar 0) aNil)))) aNil)) (sC (.int 1000003))) (s2 gMul (sC (.int 7919)) (sVar 1)))) (fun ρ => .nx ρ))))
theorem nd__law_cell : (["script", "k"] : List Str).Nodup := by decide +kernel
def m__law_cell : List D → R D := dataOf 2 b__law_cell
theorem h__law_cell (G : EnvG PySem.Challenge.pw_reelvault_k46_rotations_and_gaps pd K mg) : Has PySem.Challenge.pw_reelvault_k46_rotations_and_gaps w K mg base "_law_cell" 1 0 ["script", "k"] m__law_cell :=
  has_of (N := ["script", "k"]) (ps := ["script", "k"]) (lv := 0) (fb := b__law_cell) [0, 0] [0, 0] G 9 rfl rfl rfl (g__law_cell G) ⟨rfl, rfl, rfl, by decide +kernel, rfl, by decide +kernel, by decide +kernel⟩ (by decide) rfl
    (fun _ _ _ _ _ _ us hl => match us, hl with | [_, _], _ => rfl)
    (fun cdv f A outer s H E hr => (ss_cons (ωm := [0, 0]) (s_if (c_lt (rq_of (rv 1)) (rq_of (x_len (g_len G) (aq_cons (rq_of (rv 0)) aq_nil)))) (ss_cons (ωm := [0, 0]) (s_ret rfl (rf_of (r_ixa (u1 hr) (rq_of (rv 0)) (rq_of (rv 1))))) ss_end) ss_end) (ss_cons (ωm := [0, 0]) (s_if (c_eq hr (rq_of (x_len (g_len G) (aq_cons (rq_of (rv 0)) aq_nil))) (rq_of r_int)) (ss_cons (ωm := [0, 0]) (s_ret rfl (rf_of (rp_frz (x_mul (rq_of r_int) (rq_of (rv 1)))))) ss_end) ss_end) (ss_cons (ωm := [0, 0]) (s_ret rfl (rf_of (rp_frz (x_add (rq_of (x_mod (rq_of (x_int (g_int G) (aq_cons (rq_of (r_ixa (u1 hr) (rq_of (rv 0)) (rq_of (x_mod (rq_of (x_int (g_int G) (aq_cons (rq_of (rv 1)) aq_nil))) (rq_of (x_len (g_len G) (aq_cons (rq_of (rv 0)) aq_nil))))))) aq_nil))) (rq_of r_int))) (rq_new (x_mul (rq_of r_int) (rq_of (rv 1)))))))) ss_end))))
def b__law_row : SS := (sSeq (sSet 3 (sCall (gSize .list) aNil)) (sSeq (sSet 4 (sCall gInt (aCons (sVar 0) aNil))) (sSeq (sFor (sRange1 (aCons (sVar 1) aNil)) (tgN 5) (sSeq (sIfS (tB' (s2 gGe (sVar 0) (s2 gPow (sC (.int 10)) (sC (.int 18))))) (sSeq (sApp 3 (s2 gMod (sCall gInt (aCons (sVar 4) aNil)) (sVar 2))) (sSeq (sSet 4 (s2 gFdiv (sVar 4) (sVar 2))) (fun ρ => .nx ρ))) (sSeq (sSet 6 (s2 gMod (sCall gInt (aCons (s2 gAdd (s2 gAdd (s2 gMul (s2 gMod (sCall gInt (aCons (sVar 0) aNil)) (sC (.int 2147483647))) (sC (.int 48271))) (s2 gMul (sVar 5) (sC (.int 69621)))) (sC (.int 11))) aNil)) (sC (.int 2147483647)))) (sSeq (sSet 6 (s2 gMod (sCall gInt (aCons (s2 gAdd (s2 gAdd (s2 gMul (sVar 6) (sVar 6)) (s2 gMul (sC (.int 13)) (sVar 5))) (sC (.int 5))) aNil)) (sC (.int 2147483629)))) (sSeq (sApp 3 (s2 gMod (s2 gMod (sCall gInt (aCons (s2 gAdd (s2 gMul (sVar 6) (s2 gAdd (sVar 6) (sC (.int 7)))) (sVar 5)) aNil)) (sC (.int 2147483587))) (sVar 2))) (fun ρ => .nx ρ))))) (fun ρ => .nx ρ))) (sSeq (sRetV 3) (fun ρ => .nx ρ)))))
theorem nd__law_row : (["cell", "count", "size", "row", "rest", "k", "mixed"] : List Str).Nodup := by decide +kernel
def m__law_row : List D → R D := dataOf 7 b__law_row
theorem h__law_row (G : EnvG PySem.Challenge.pw_reelvault_k46_rotations_and_gaps pd K mg) : Has PySem.Challenge.pw_reelvault_k46_rotations_and_gaps w K mg base "_law_row" 1 1 ["cell", "count", "size"] m__law_row :=
  has_of (N := ["cell", "count", "size", "row", "rest", "k", "mixed"]) (ps := ["cell", "count", "size"]) (lv := 1) (fb := b__law_row) [0, 0, 0, 0, 0, 0, 0] [0, 0, 0, 0, 0, 0, 0] G 10 rfl rfl rfl (g__law_row G) ⟨rfl, rfl, rfl, by decide +kernel, rfl, by decide +kernel, by decide +kernel⟩ (by decide) rfl
    (fun _ _ _ _ _ _ us hl => match us, hl with | [_, _, _], _ => rfl)
    (fun cdv f A outer s H E hr => (ss_cons (ωm := [0, 0, 0, 1, 0, 0, 0]) (s_set 3 (k := 1) (hN := nd__law_row) (r_lst a_nil)) (ss_cons (ωm := [0, 0, 0, 1, 0, 0, 0]) (s_set 4 (k := 0) (hN := nd__law_row) (rf_of (x_int (g_int G) (aq_cons (rq_of (rv 0)) aq_nil)))) (ss_cons (ωm := [0, 0, 0, 1, 0, 0, 0]) (s_for [0, 0, 0, 1, 0, 0, 0] (passes_of rfl) rfl (i_rng1 (a_cons (rv 1) a_nil) (g_range G)) (pg_name (i := 5) nd__law_row rfl (by first | exact .inl rfl | exact .inr rfl)) (tg_name 5) (ss_cons (ωm := [0, 0, 0, 1, 0, 0, 0]) (s_if (c_ge (rq_of (rv 0)) (rq_of (x_pow (rq_of r_int) (rq_of r_int)))) (ss_cons (ωm := [0, 0, 0, 1, 0, 0, 0]) (x_app 3 (rf_of (x_mod (rq_of (x_int (g_int G) (aq_cons (rq_of (rv 4)) aq_nil))) (rq_of (rv 2))))) (ss_cons (ωm := [0, 0, 0, 1, 0, 0, 0]) (s_set 4 (k := 0) (hN := nd__law_row) (rf_of (x_fdiv (rq_of (rv 4)) (rq_of (rv 2))))) ss_end)) (ss_cons (ωm := [0, 0, 0, 1, 0, 0, 0]) (s_set 6 (k := 0) (hN := nd__law_row) (rf_of (x_mod (rq_of (x_int (g_int G) (aq_cons (rq_new (x_add (rq_new (x_add (rq_new (x_mul (rq_of (x_mod (rq_of (x_int (g_int G) (aq_cons (rq_of (rv 0)) aq_nil))) (rq_of r_int))) (rq_of r_int))) (rq_new (x_mul (rq_of (rv 5)) (rq_of r_int))))) (rq_of r_int))) aq_nil))) (rq_of r_int)))) (ss_cons (ωm := [0, 0, 0, 1, 0, 0, 0]) (s_set 6 (k := 0) (hN := nd__law_row) (rf_of (x_mod (rq_of (x_int (g_int G) (aq_cons (rq_new (x_add (rq_new (x_add (rq_new (x_mul (rq_of (rv 6)) (rq_of (rv 6)))) (rq_new (x_mul (rq_of r_int) (rq_of (rv 5)))))) (rq_of r_int))) aq_nil))) (rq_of r_int)))) (ss_cons (ωm := [0, 0, 0, 1, 0, 0, 0]) (x_app 3 (rf_of (x_mod (rq_of (x_mod (rq_of (x_int (g_int G) (aq_cons (rq_new (x_add (rq_new (x_mul (rq_of (rv 6)) (rq_new (x_add (rq_of (rv 6)) (rq_of r_int))))) (rq_of (rv 5)))) aq_nil))) (rq_of r_int))) (rq_of (rv 2))))) ss_end)))) ss_end)) (ss_cons (ωm := [0, 0, 0, 1, 0, 0, 0]) (s_retv 3) ss_end)))))
def b__law_is_number : SS := (sSeq (sRet (sAndV (s1 (gIs isInt) (sVar 0)) (sNotV (s1 (gIs isBool) (sVar 0))))) (fun ρ => .nx ρ))
theorem nd__law_is_number : (["told"] : List Str).Nodup := by decide +kernel
def m__law_is_number : List D → R D := dataOf 1 b__law_is_number
theorem h__law_is_number (G : EnvG PySem.Challenge.pw_reelvault_k46_rotations_and_gaps pd K mg) : Has PySem.Challenge.pw_reelvault_k46_rotations_and_gaps w K mg base "_law_is_number" 1 0 ["told"] m__law_is_number :=
  has_of (N := ["told"]) (ps := ["told"]) (lv := 0) (fb := b__law_is_number) [0] [0] G 11 rfl rfl rfl (g__law_is_number G) ⟨rfl, rfl, rfl, by decide +kernel, rfl, by decide +kernel, by decide +kernel⟩ (by decide) rfl
    (fun _ _ _ _ _ _ us hl => match us, hl with | [_], _ => rfl)
    (fun cdv f A outer s H E hr => (ss_cons (ωm := [0]) (s_ret rfl (rf_of (r_and (x_isint (g_isinstance G) (g_int G) (rv 0)) (r_one (r_not (x_isbool (g_isinstance G) (g_bool G) (rv 0))))))) ss_end))
theorem hh__law_is_number (G : EnvG PySem.Challenge.pw_reelvault_k46_rotations_and_gaps pd K mg) : HasH PySem.Challenge.pw_reelvault_k46_rotations_and_gaps w K mg base "_law_is_number" 1 0 ["told"] m__law_is_number :=
  hasH_of (N := ["told"]) (ps := ["told"]) (lv := 0) (fb := b__law_is_number) [0] [0] G 11 rfl rfl rfl (g__law_is_number G) ⟨rfl, rfl, rfl, by decide +kernel, rfl, by decide +kernel, by decide +kernel⟩ (by decide) rfl
    (fun _ _ _ _ _ _ us hl => match us, hl with | [_], _ => rfl)
    (fun cdv f A outer s H E p hr => (ss_cons (ωm := [0]) (s_ret rfl (rf_of (r_and (x_isint (g_isinstance G) (g_int G) (rv 0)) (r_one (r_not (x_isbool (g_isinstance G) (g_bool G) (rv 0))))))) ss_end))
def b__law_are_numbers : SS := (sSeq (sIfS (tOr' (tNot' (tB' (s1 (gIs isList) (sVar 0)))) (tB' (s2 gNe (sCall gLen (aCons (sVar 0) aNil)) (sCall gLen (aCons (sVar 1) aNil))))) (sSeq (sRet (sC (.bool false))) (fun ρ => .nx ρ)) (fun ρ => .nx ρ)) (sSeq (sFor (sRange1 (aCons (sCall gLen (aCons (sVar 1) aNil)) aNil)) (tgN 2) (sSeq (sIfS (tOr' (tNot' (tB' (sCall m__law_is_number (aCons (s2 gIxA (sVar 0) (sVar 2)) aNil)))) (tB' (s2 gNe (s2 gIxA (sVar 0) (sVar 2)) (s2 gIxA (sVar 1) (sVar 2))))) (sSeq (sRet (sC (.bool false))) (fun ρ => .nx ρ)) (fun ρ => .nx ρ)) (fun ρ => .nx ρ))) (sSeq (sRet (sC (.bool true))) (fun ρ => .nx ρ))))
theorem nd__law_are_numbers : (["told", "due", "k"] : List Str).Nodup := by decide +kernel
def m__law_are_numbers : List D → R D := dataOf 3 b__law_are_numbers
theorem h__law_are_numbers (G : EnvG PySem.Challenge.pw_reelvault_k46_rotations_and_gaps pd K mg) : Has PySem.Challenge.pw_reelvault_k46_rotations_and_gaps w K mg base "_law_are_numbers" 2 0 ["told", "due"] m__law_are_numbers :=
  has_of (N := ["told", "due", "k"]) (ps := ["told", "due"]) (lv := 0) (fb := b__law_are_numbers) [0, 0, 0] [0, 0, 0] G 12 rfl rfl rfl (g__law_are_numbers G) ⟨rfl, rfl, rfl, by decide +kernel, rfl, by decide +kernel, by decide +kernel⟩ (by decide) rfl
    (fun _ _ _ _ _ _ us hl => match us, hl with | [_, _], _ => rfl)
    (fun cdv f A outer s H E hr => (ss_cons (ωm := [0, 0, 0]) (s_if (t_w (w_or (t_not (t_val (x_islist (g_isinstance G) (g_list G) (rv 0)))) (w_or1 (c_ne hr (rq_of (x_len (g_len G) (aq_cons (rq_of (rv 0)) aq_nil))) (rq_of (x_len (g_len G) (aq_cons (rq_of (rv 1)) aq_nil))))))) (ss_cons (ωm := [0, 0, 0]) (s_ret rfl (rf_of r_bl)) ss_end) ss_end) (ss_cons (ωm := [0, 0, 0]) (s_for [0, 0, 0] (passes_of rfl) rfl (i_rng1 (a_cons (x_len (g_len G) (aq_cons (rq_of (rv 1)) aq_nil)) a_nil) (g_range G)) (pg_name (i := 2) nd__law_are_numbers rfl (by first | exact .inl rfl | exact .inr rfl)) (tg_name 2) (ss_cons (ωm := [0, 0, 0]) (s_if (t_w (w_or (t_not (t_val (rp_frz (x_call (h__law_is_number G) (L2N.takes_of rfl rfl rfl rfl) hr (a_cons (r_ixa (u1 hr) (rq_of (rv 0)) (rq_of (rv 2))) a_nil))))) (w_or1 (c_ne hr (rq_of (r_ixa (u1 hr) (rq_of (rv 0)) (rq_of (rv 2)))) (rq_of (r_ixa (u1 hr) (rq_of (rv 1)) (rq_of (rv 2)))))))) (ss_cons (ωm := [0, 0, 0]) (s_ret rfl (rf_of r_bl)) ss_end) ss_end) ss_end)) (ss_cons (ωm := [0, 0, 0]) (s_ret rfl (rf_of r_bl)) ss_end))))
def b__law_ages : SS := (sSeq (sSet 2 (sCall (gSize .list) aNil)) (sSeq (sSet 3 (sCall (gSize .list) aNil)) (sSeq (sFor (sRange1 (aCons (sCall gLen (aCons (sVar 0) aNil)) aNil)) (tgN 4) (sSeq (sIfS (tB' (s2 gLt (sVar 4) (sVar 1))) (sSeq (sSet 5 (s2 gIxA (sVar 0) (s2 gMod (sCall gInt (aCons (s2 gSub (s2 gSub (sVar 1) (sVar 4)) (sC (.int 1))) aNil)) (sCall gLen (aCons (sVar 0) aNil))))) (sSeq (sIfS (tB' (s2 gNotInA (sVar 5) (sVar 2))) (sSeq (sApp 2 (sVar 5)) (sSeq (sApp 3 (sVar 4)) (fun ρ => .nx ρ))) (fun ρ => .nx ρ)) (fun ρ => .nx ρ))) (fun ρ => .nx ρ)) (fun ρ => .nx ρ))) (sSeq (sRetV 3) (fun ρ => .nx ρ)))))
theorem nd__law_ages : (["rotation", "day", "seen", "found", "age", "tape"] : List Str).Nodup := by decide +kernel
def m__law_ages : List D → R D := dataOf 6 b__law_ages
theorem h__law_ages (G : EnvG PySem.Challenge.pw_reelvault_k46_rotations_and_gaps pd K mg) : Has PySem.Challenge.pw_reelvault_k46_rotations_and_gaps w K mg base "_law_ages" 1 1 ["rotation", "day"] m__law_ages :=
  has_of (N := ["rotation", "day", "seen", "found", "age", "tape"]) (ps := ["rotation", "day"]) (lv := 1) (fb := b__law_ages) [0, 0, 0, 0, 0, 0] [0, 0, 0, 0, 0, 0] G 13 rfl rfl rfl (g__law_ages G) ⟨rfl, rfl, rfl, by decide +kernel, rfl, by decide +kernel, by decide +kernel⟩ (by decide) rfl
    (fun _ _ _ _ _ _ us hl => match us, hl with | [_, _], _ => rfl)
    (fun cdv f A outer s H E hr => (ss_cons (ωm := [0, 0, 1, 0, 0, 0]) (s_set 2 (k := 1) (hN := nd__law_ages) (r_lst a_nil)) (ss_cons (ωm := [0, 0, 1, 1, 0, 0]) (s_set 3 (k := 1) (hN := nd__law_ages) (r_lst a_nil)) (ss_cons (ωm := [0, 0, 1, 1, 0, 0]) (s_for [0, 0, 1, 1, 0, 0] (passes_of rfl) rfl (i_rng1 (a_cons (x_len (g_len G) (aq_cons (rq_of (rv 0)) aq_nil)) a_nil) (g_range G)) (pg_name (i := 4) nd__law_ages rfl (by first | exact .inl rfl | exact .inr rfl)) (tg_name 4) (ss_cons (ωm := [0, 0, 1, 1, 0, 0]) (s_if (c_lt (rq_of (rv 4)) (rq_of (rv 1))) (ss_cons (ωm := [0, 0, 1, 1, 0, 0]) (s_set 5 (k := 0) (hN := nd__law_ages) (rf_of (r_ixa (u1 hr) (rq_of (rv 0)) (rq_of (x_mod (rq_of (x_int (g_int G) (aq_cons (rq_of (x_sub (rq_of (x_sub (rq_of (rv 1)) (rq_of (rv 4)))) (rq_of r_int))) aq_nil))) (rq_of (x_len (g_len G) (aq_cons (rq_of (rv 0)) aq_nil)))))))) (ss_cons (ωm := [0, 0, 1, 1, 0, 0]) (s_if (c_nin hr (rq_of (rv 5)) (qv 2)) (ss_cons (ωm := [0, 0, 1, 1, 0, 0]) (x_app 2 (rf_of (rv 5))) (ss_cons (ωm := [0, 0, 1, 1, 0, 0]) (x_app 3 (rf_of (rv 4))) ss_end)) ss_end) ss_end)) ss_end) ss_end)) (ss_cons (ωm := [0, 0, 1, 1, 0, 0]) (s_retv 3) ss_end)))))
def b__law_gap : SS := (sSeq (sFor (sRange2 (aCons (sCall gLen (aCons (sVar 0) aNil)) (aCons (s2 gAdd (sCall gLen (aCons (sVar 0) aNil)) (sC (.int 40))) aNil))) (tgN 3) (sSeq (sSet 4 (sComp 5 (sIterA (sCall m__law_ages (aCons (sVar 0) (aCons (sVar 3) aNil)))) (tB' (sChain gLe gLe (sVar 1) (sVar 5) (sVar 2))) (sVar 5))) (sSeq (sIfS (tB' (s2 gEq (sCall gLen (aCons (sVar 4) aNil)) (sC (.int 0)))) (sSeq (sRet (sVar 3)) (fun ρ => .nx ρ)) (fun ρ => .nx ρ)) (fun ρ => .nx ρ)))) (sSeq (sRet (sC .none)) (fun ρ => .nx ρ)))
theorem nd__law_gap : (["rotation", "low", "high", "day", "fitting", "age"] : List Str).Nodup := by decide +kernel
def m__law_gap : List D → R D := dataOf 6 b__law_gap
theorem h__law_gap (G : EnvG PySem.Challenge.pw_reelvault_k46_rotations_and_gaps pd K mg) : Has PySem.Challenge.pw_reelvault_k46_rotations_and_gaps w K mg base "_law_gap" 2 0 ["rotation", "low", "high"] m__law_gap :=
  has_of (N := ["rotation", "low", "high", "day", "fitting", "age"]) (ps := ["rotation", "low", "high"]) (lv := 0) (fb := b__law_gap) [0, 0, 0, 0, 0, 0] [0, 0, 0, 0, 0, 0] G 14 rfl rfl rfl (g__law_gap G) ⟨rfl, rfl, rfl, by decide +kernel, rfl, by decide +kernel, by decide +kernel⟩ (by decide) rfl
    (fun _ _ _ _ _ _ us hl => match us, hl with | [_, _, _], _ => rfl)
    (fun cdv f A outer s H E hr => (ss_cons (ωm := [0, 0, 0, 0, 0, 0]) (s_for [0, 0, 0, 0, 0, 0] (passes_of rfl) rfl (i_rng2 (a_cons (x_len (g_len G) (aq_cons (rq_of (rv 0)) aq_nil)) (a_cons (rp_frz (x_add (rq_of (x_len (g_len G) (aq_cons (rq_of (rv 0)) aq_nil))) (rq_of r_int))) a_nil)) (g_range G)) (pg_name (i := 3) nd__law_gap rfl (by first | exact .inl rfl | exact .inr rfl)) (tg_name 3) (ss_cons (ωm := [0, 0, 0, 0, 1, 0]) (s_setc 5 4 rfl (by decide) rfl (by decide) rfl nd__law_gap rfl rfl (by rfl) (ig_any (rq_new (x_call (h__law_ages G) (L2N.takes_of rfl rfl rfl rfl) hr (a_cons (rv 0) (a_cons (rv 3) a_nil))))) (blk_of (by kernel_rfl)) rfl (fun s H C cl fp => pg_name (i := 5) nd__law_gap rfl (.inl rfl)) (fun s H C cl fp => (ts_one (c_lele (rq_of (rv 1)) (rq_of (rv 5)) (rq_of (rv 2))))) (fun s H C cl fp => (rv 5))) (ss_cons (ωm := [0, 0, 0, 0, 1, 0]) (s_if (c_eq hr (rq_of (x_len (g_len G) (aq_cons (qv 4) aq_nil))) (rq_of r_int)) (ss_cons (ωm := [0, 0, 0, 0, 1, 0]) (s_ret rfl (rf_of (rv 3))) ss_end) ss_end) ss_end))) (ss_cons (ωm := [0, 0, 0, 0, 0, 0]) (s_ret rfl (rf_of r_non)) ss_end)))
def b__law_refusal : SS := (sSeq (sTry (Tbl.get tb) (sSeq (sIfS (tB' (s2 gEq (sVar 0) (sC (.int 0)))) (sSeq (sDrop (sCall m_ages (aCons (sVar 1) (aCons (sVar 2) aNil)))) (fun ρ => .nx ρ)) (sSeq (sDrop (sCall m_first_gap (aCons (sVar 1) (aCons (sVar 2) (aCons (sVar 3) aNil))))) (fun ρ => .nx ρ))) (fun ρ => .nx ρ)) [("BadLevels", some 4, fun c fs => (sSeq (sSet 5 (sAndV (sNotV (sIsX (Tbl.get tb) c "TooMany")) (sNotV (sIsX (Tbl.get tb) c "BadNumber")))) (sSeq (sRet (sCall (gSize .tuple) (aCons (sC (.str "levels")) (aCons (sXf nf c fs "at") (aCons (sAndV (sVar 5) (sAndV (sCall m__law_is_number (aCons (sXf nf c fs "at") aNil)) (sAndV (sIsX (Tbl.get tb) c "VaultError") (sIsV nf c)))) aNil))))) (fun ρ => .nx ρ)))), ("TooMany", some 4, fun c fs => (sSeq (sRet (sCall (gSize .tuple) (aCons (sC (.str "many")) (aCons (sXf nf c fs "limit") (aCons (sAndV (sCall m__law_is_number (aCons (sXf nf c fs "limit") aNil)) (sAndV (sNotV (sIsX (Tbl.get tb) c "BadNumber")) (sIsX (Tbl.get tb) c "VaultError"))) aNil))))) (fun ρ => .nx ρ))), ("BadNumber", some 4, fun c fs => (sSeq (sRet (sCall (gSize .tuple) (aCons (sC (.str "number")) (aCons (sXf nf c fs "what") (aCons (sIsX (Tbl.get tb) c "VaultError") aNil))))) (fun ρ => .nx ρ)))]) (sSeq (sRet (sCall (gSize .tuple) (aCons (sC (.str "none")) (aCons (sC (.int 0)) (aCons (sC (.bool true)) aNil))))) (fun ρ => .nx ρ)))
theorem nd__law_refusal : (["door", "rotation", "first", "second", "e", "plain"] : List Str).Nodup := by decide +kernel
def m__law_refusal : List D → R D := dataOf 6 b__law_refusal
theorem h__law_refusal (G : EnvG PySem.Challenge.pw_reelvault_k46_rotations_and_gaps pd K mg) : Has PySem.Challenge.pw_reelvault_k46_rotations_and_gaps w K mg base "_law_refusal" 5 0 ["door", "rotation", "first", "second"] m__law_refusal :=
  has_of (N := ["door", "rotation", "first", "second", "e", "plain"]) (ps := ["door", "rotation", "first", "second"]) (lv := 0) (fb := b__law_refusal) [0, 0, 0, 0, 0, 0] [0, 0, 0, 0, 0, 0] G 15 rfl rfl rfl (g__law_refusal G) ⟨rfl, rfl, rfl, by decide +kernel, rfl, by decide +kernel, by decide +kernel⟩ (by decide) rfl
    (fun _ _ _ _ _ _ us hl => match us, hl with | [_, _, _, _], _ => rfl)
    (fun cdv f A outer s H E hr => (ss_cons (ωm := [0, 0, 0, 0, 0, 0]) (s_try G.c.exm rfl (L2N.takes_of rfl rfl rfl rfl) (fun W pn xe tk hp => (ss_cons (ωm := [0, 0, 0, 0, 0, 0]) (s_if (c_eq hr (rq_of (rv 0)) (rq_of r_int)) (ss_cons (ωm := [0, 0, 0, 0, 0, 0]) (s_drop (rp_frz (x_call (h_ages G) tk hr (a_cons (rv 1) (a_cons (rv 2) a_nil))))) ss_end) (ss_cons (ωm := [0, 0, 0, 0, 0, 0]) (s_drop (rp_frz (x_call (h_first_gap G) tk hr (a_cons (rv 1) (a_cons (rv 2) (a_cons (rv 3) a_nil)))))) ss_end)) ss_end)) (.as (i := 4) (g_BadLevels G) nd__law_refusal rfl rfl (by decide) rfl (by decide) (fun a oe c fs d pn hz hf => (ss_cons (ωm := [0, 0, 0, 0, 0, 0]) (s_set 5 (k := 0) (hN := nd__law_refusal) (hJ := by intro _ z; cases z; exact (by decide : (4 : Nat) ≠ 5)) (rf_of (r_and (r_not (r_isx 4 nf hz hf rfl G.c.kit (g_TooMany G) (g_isinstance G))) (r_one (r_not (r_isx 4 nf hz hf rfl G.c.kit (g_BadNumber G) (g_isinstance G))))))) (ss_cons (ωm := [0, 0, 0, 0, 0, 0]) (s_ret rfl (rf_of (r_tup (a_cons r_str (a_cons (r_xf 4 nf hz hf rfl (fun c h => (G.c.cls c h).1) (G.c.noat (f := "at") (by decide))) (a_cons (r_and (rv 5) (r_and (rp_frz (x_callH (hh__law_is_number G) pass_no (room_suite hr) (hot_suite hz hf) (a_cons (r_xf 4 nf hz hf rfl (fun c h => (G.c.cls c h).1) (G.c.noat (f := "at") (by decide))) a_nil))) (r_and (r_isx 4 nf hz hf rfl G.c.kit (g_VaultError G) (g_isinstance G)) (r_one (r_isv 4 nf rfl hz hf rfl G.c.cls (g_ValueError G) (g_isinstance G)))))) a_nil)))))) ss_end))) (.as (i := 4) (g_TooMany G) nd__law_refusal rfl rfl (by decide) rfl (by decide) (fun a oe c fs d pn hz hf => (ss_cons (ωm := [0, 0, 0, 0, 0, 0]) (s_ret rfl (rf_of (r_tup (a_cons r_str (a_cons (r_xf 4 nf hz hf rfl (fun c h => (G.c.cls c h).1) (G.c.noat (f := "limit") (by decide))) (a_cons (r_and (rp_frz (x_callH (hh__law_is_number G) pass_no (room_suite hr) (hot_suite hz hf) (a_cons (r_xf 4 nf hz hf rfl (fun c h => (G.c.cls c h).1) (G.c.noat (f := "limit") (by decide))) a_nil))) (r_and (r_not (r_isx 4 nf hz hf rfl G.c.kit (g_BadNumber G) (g_isinstance G))) (r_one (r_isx 4 nf hz hf rfl G.c.kit (g_VaultError G) (g_isinstance G))))) a_nil)))))) ss_end)) (.as (i := 4) (g_BadNumber G) nd__law_refusal rfl rfl (by decide) rfl (by decide) (fun a oe c fs d pn hz hf => (ss_cons (ωm := [0, 0, 0, 0, 0, 0]) (s_ret rfl (rf_of (r_tup (a_cons r_str (a_cons (r_xf 4 nf hz hf rfl (fun c h => (G.c.cls c h).1) (G.c.noat (f := "what") (by decide))) (a_cons (r_isx 4 nf hz hf rfl G.c.kit (g_VaultError G) (g_isinstance G)) a_nil)))))) ss_end)) (.nil)))) (x_cls (by decide))) (ss_cons (ωm := [0, 0, 0, 0, 0, 0]) (s_ret rfl (rf_of (r_tup (a_cons r_str (a_cons r_int (a_cons r_bl a_nil)))))) ss_end)))
def b__law_refused : SS := (sSeq (sIfS (tOr' (tB' (s2 gNe (sCall m__law_refusal (aCons (sC (.int 0)) (aCons (sVar 0) (aCons (sC (.int 5)) (aCons (sC (.int 0)) aNil))))) (sVar 1))) (tB' (s2 gNe (sCall m__law_refusal (aCons (sC (.int 0)) (aCons (sVar 0) (aCons (s1 gNeg (sC (.int 1))) (aCons (sC (.int 0)) aNil))))) (sVar 1)))) (sSeq (sRet (sC (.bool false))) (fun ρ => .nx ρ)) (fun ρ => .nx ρ)) (sSeq (sRet (sAndV (s2 gEq (sCall m__law_refusal (aCons (sC (.int 1)) (aCons (sVar 0) (aCons (sC (.int 0)) (aCons (sC (.int 3)) aNil))))) (sVar 1)) (s2 gEq (sCall m__law_refusal (aCons (sC (.int 1)) (aCons (sVar 0) (aCons (sC (.int 31)) (aCons (sC .none) aNil))))) (sVar 1)))) (fun ρ => .nx ρ)))
theorem nd__law_refused : (["rotation", "due"] : List Str).Nodup := by decide +kernel
def m__law_refused : List D → R D := dataOf 2 b__law_refused
theorem h__law_refused (G : EnvG PySem.Challenge.pw_reelvault_k46_rotations_and_gaps pd K mg) : Has PySem.Challenge.pw_reelvault_k46_rotations_and_gaps w K mg base "_law_refused" 6 0 ["rotation", "due"] m__law_refused :=
  has_of (N := ["rotation", "due"]) (ps := ["rotation", "due"]) (lv := 0) (fb := b__law_refused) [0, 0] [0, 0] G 16 rfl rfl rfl (g__law_refused G) ⟨rfl, rfl, rfl, by decide +kernel, rfl, by decide +kernel, by decide +kernel⟩ (by decide) rfl
    (fun _ _ _ _ _ _ us hl => match us, hl with | [_, _], _ => rfl)
    (fun cdv f A outer s H E hr => (ss_cons (ωm := [0, 0]) (s_if (t_w (w_or (c_ne hr (rq_of (rp_frz (x_call (h__law_refusal G) (L2N.takes_of rfl rfl rfl rfl) hr (a_cons r_int (a_cons (rv 0) (a_cons r_int (a_cons r_int a_nil))))))) (rq_of (rv 1))) (w_or1 (c_ne hr (rq_of (rp_frz (x_call (h__law_refusal G) (L2N.takes_of rfl rfl rfl rfl) hr (a_cons r_int (a_cons (rv 0) (a_cons (r_neg r_int) (a_cons r_int a_nil))))))) (rq_of (rv 1)))))) (ss_cons (ωm := [0, 0]) (s_ret rfl (rf_of r_bl)) ss_end) ss_end) (ss_cons (ωm := [0, 0]) (s_ret rfl (rf_of (r_and (x_eq hr (rq_of (rp_frz (x_call (h__law_refusal G) (L2N.takes_of rfl rfl rfl rfl) hr (a_cons r_int (a_cons (rv 0) (a_cons r_int (a_cons r_int a_nil))))))) (rq_of (rv 1))) (r_one (x_eq hr (rq_of (rp_frz (x_call (h__law_refusal G) (L2N.takes_of rfl rfl rfl rfl) hr (a_cons r_int (a_cons (rv 0) (a_cons r_int (a_cons r_non a_nil))))))) (rq_of (rv 1))))))) ss_end)))
def b__law_numbers_refused : SS := (sSeq (sFor (sIterA (sCall (gSize .list) (aCons (s1 gNeg (sC (.int 1))) (aCons (sC (.int 10000)) (aCons (sC (.bool true)) (aCons (sC .none) (aCons (sC (.str "5")) (aCons (sCall (gSize .list) (aCons (sC (.int 5)) aNil)) aNil)))))))) (tgN 2) (sSeq (sIfS (tB' (s2 gNe (sCall m__law_refusal (aCons (sC (.int 0)) (aCons (sVar 0) (aCons (sVar 2) (aCons (sC (.int 0)) aNil))))) (sCall (gSize .tuple) (aCons (sC (.str "number")) (aCons (sC (.str "day")) (aCons (sC (.bool true)) aNil)))))) (sSeq (sRet (sC (.bool false))) (fun ρ => .nx ρ)) (fun ρ => .nx ρ)) (fun ρ => .nx ρ))) (sSeq (sFor (sIterA (sCall (gSize .list) (aCons (s1 gNeg (sC (.int 1))) (aCons (sC (.int 31)) (aCons (sC (.bool true)) (aCons (sC .none) (aCons (sC (.str "5")) (aCons (sCall (gSize .list) (aCons (sC (.int 5)) aNil)) aNil)))))))) (tgN 3) (sSeq (sIfS (tB' (s2 gNe (sCall m__law_refusal (aCons (sC (.int 1)) (aCons (sVar 0) (aCons (sVar 3) (aCons (sC (.int 30)) aNil))))) (sCall (gSize .tuple) (aCons (sC (.str "number")) (aCons (sC (.str "low")) (aCons (sC (.bool true)) aNil)))))) (sSeq (sRet (sC (.bool false))) (fun ρ => .nx ρ)) (fun ρ => .nx ρ)) (sSeq (sIfS (tB' (s2 gNe (sCall m__law_refusal (aCons (sC (.int 1)) (aCons (sVar 0) (aCons (sVar 3) (aCons (sC .none) aNil))))) (sCall (gSize .tuple) (aCons (sC (.str "number")) (aCons (sC (.str "low")) (aCons (sC (.bool true)) aNil)))))) (sSeq (sRet (sC (.bool false))) (fun ρ => .nx ρ)) (fun ρ => .nx ρ)) (sSeq (sIfS (tB' (s2 gNe (sCall m__law_refusal (aCons (sC (.int 1)) (aCons (sVar 0) (aCons (sVar 1) (aCons (sVar 3) aNil))))) (sCall (gSize .tuple) (aCons (sC (.str "number")) (aCons (sC (.str "high")) (aCons (sC (.bool true)) aNil)))))) (sSeq (sRet (sC (.bool false))) (fun ρ => .nx ρ)) (fun ρ => .nx ρ)) (fun ρ => .nx ρ))))) (sSeq (sRet (s2 gEq (sCall m__law_refusal (aCons (sC (.int 1)) (aCons (sVar 0) (aCons (sVar 1) (aCons (s2 gSub (sVar 1) (sC (.int 1))) aNil))))) (sCall (gSize .tuple) (aCons (sC (.str "number")) (aCons (sC (.str "high")) (aCons (sC (.bool true)) aNil)))))) (fun ρ => .nx ρ))))
theorem nd__law_numbers_refused : (["rotation", "low", "day", "wrong"] : List Str).Nodup := by decide +kernel
def m__law_numbers_refused : List D → R D := dataOf 4 b__law_numbers_refused
theorem h__law_numbers_refused (G : EnvG PySem.Challenge.pw_reelvault_k46_rotations_and_gaps pd K mg) : Has PySem.Challenge.pw_reelvault_k46_rotations_and_gaps w K mg base "_law_numbers_refused" 6 0 ["rotation", "low"] m__law_numbers_refused :=
  has_of (N := ["rotation", "low", "day", "wrong"]) (ps := ["rotation", "low"]) (lv := 0) (fb := b__law_numbers_refused) [0, 0, 0, 0] [0, 0, 0, 0] G 17 rfl rfl rfl (g__law_numbers_refused G) ⟨rfl, rfl, rfl, by decide +kernel, rfl, by decide +kernel, by decide +kernel⟩ (by decide) rfl
    (fun _ _ _ _ _ _ us hl => match us, hl with | [_, _], _ => rfl)
    (fun cdv f A outer s H E hr => (ss_cons (ωm := [0, 0, 0, 0]) (s_for [0, 0, 0, 0] (passes_of rfl) rfl (i_any (rp_frz (r_lst (a_cons (r_neg r_int) (a_cons r_int (a_cons r_bl (a_cons r_non (a_cons r_str (a_cons (rp_frz (r_lst (a_cons r_int a_nil))) a_nil))))))))) (pg_name (i := 2) nd__law_numbers_refused rfl (by first | exact .inl rfl | exact .inr rfl)) (tg_name 2) (ss_cons (ωm := [0, 0, 0, 0]) (s_if (c_ne hr (rq_of (rp_frz (x_call (h__law_refusal G) (L2N.takes_of rfl rfl rfl rfl) hr (a_cons r_int (a_cons (rv 0) (a_cons (rv 2) (a_cons r_int a_nil))))))) (rq_of (r_tup (a_cons r_str (a_cons r_str (a_cons r_bl a_nil)))))) (ss_cons (ωm := [0, 0, 0, 0]) (s_ret rfl (rf_of r_bl)) ss_end) ss_end) ss_end)) (ss_cons (ωm := [0, 0, 0, 0]) (s_for [0, 0, 0, 0] (passes_of rfl) rfl (i_any (rp_frz (r_lst (a_cons (r_neg r_int) (a_cons r_int (a_cons r_bl (a_cons r_non (a_cons r_str (a_cons (rp_frz (r_lst (a_cons r_int a_nil))) a_nil))))))))) (pg_name (i := 3) nd__law_numbers_refused rfl (by first | exact .inl rfl | exact .inr rfl)) (tg_name 3) (ss_cons (ωm := [0, 0, 0, 0]) (s_if (c_ne hr (rq_of (rp_frz (x_call (h__law_refusal G) (L2N.takes_of rfl rfl rfl rfl) hr (a_cons r_int (a_cons (rv 0) (a_cons (rv 3) (a_cons r_int a_nil))))))) (rq_of (r_tup (a_cons r_str (a_cons r_str (a_cons r_bl a_nil)))))) (ss_cons (ωm := [0, 0, 0, 0]) (s_ret rfl (rf_of r_bl)) ss_end) ss_end) (ss_cons (ωm := [0, 0, 0, 0]) (s_if (c_ne hr (rq_of (rp_frz (x_call (h__law_refusal G) (L2N.takes_of rfl rfl rfl rfl) hr (a_cons r_int (a_cons (rv 0) (a_cons (rv 3) (a_cons r_non a_nil))))))) (rq_of (r_tup (a_cons r_str (a_cons r_str (a_cons r_bl a_nil)))))) (ss_cons (ωm := [0, 0, 0, 0]) (s_ret rfl (rf_of r_bl)) ss_end) ss_end) (ss_cons (ωm := [0, 0, 0, 0]) (s_if (c_ne hr (rq_of (rp_frz (x_call (h__law_refusal G) (L2N.takes_of rfl rfl rfl rfl) hr (a_cons r_int (a_cons (rv 0) (a_cons (rv 1) (a_cons (rv 3) a_nil))))))) (rq_of (r_tup (a_cons r_str (a_cons r_str (a_cons r_bl a_nil)))))) (ss_cons (ωm := [0, 0, 0, 0]) (s_ret rfl (rf_of r_bl)) ss_end) ss_end) ss_end)))) (ss_cons (ωm := [0, 0, 0, 0]) (s_ret rfl (rf_of (x_eq hr (rq_of (rp_frz (x_call (h__law_refusal G) (L2N.takes_of rfl rfl rfl rfl) hr (a_cons r_int (a_cons (rv 0) (a_cons (rv 1) (a_cons (x_sub (rq_of (rv 1)) (rq_of r_int)) a_nil))))))) (rq_of (r_tup (a_cons r_str (a_cons r_str (a_cons r_bl a_nil)))))))) ss_end))))
def b__law_gap_fits : SS := (sSeq (sSet 4 (sCall m_first_gap (aCons (sVar 1) (aCons (sVar 2) (aCons (sVar 3) aNil))))) (sSeq (sSet 5 (sCall m__law_gap (aCons (sVar 0) (aCons (sVar 2) (aCons (sVar 3) aNil))))) (sSeq (sIfS (tB' (s1 (fun d => .ok (gIsN d)) (sVar 5))) (sSeq (sRet (s1 (fun d => .ok (gIsN d)) (sVar 4))) (fun ρ => .nx ρ)) (fun ρ => .nx ρ)) (sSeq (sRet (sAndV (sCall m__law_is_number (aCons (sVar 4) aNil)) (s2 gEq (sVar 4) (sVar 5)))) (fun ρ => .nx ρ)))))
theorem nd__law_gap_fits : (["rotation", "given", "low", "high", "told", "due"] : List Str).Nodup := by decide +kernel
def m__law_gap_fits : List D → R D := dataOf 6 b__law_gap_fits
theorem h__law_gap_fits (G : EnvG PySem.Challenge.pw_reelvault_k46_rotations_and_gaps pd K mg) : Has PySem.Challenge.pw_reelvault_k46_rotations_and_gaps w K mg base "_law_gap_fits" 5 0 ["rotation", "given", "low", "high"] m__law_gap_fits :=
  has_of (N := ["rotation", "given", "low", "high", "told", "due"]) (ps := ["rotation", "given", "low", "high"]) (lv := 0) (fb := b__law_gap_fits) [0, 0, 0, 0, 0, 0] [0, 0, 0, 0, 0, 0] G 18 rfl rfl rfl (g__law_gap_fits G) ⟨rfl, rfl, rfl, by decide +kernel, rfl, by decide +kernel, by decide +kernel⟩ (by decide) rfl
    (fun _ _ _ _ _ _ us hl => match us, hl with | [_, _, _, _], _ => rfl)
    (fun cdv f A outer s H E hr => (ss_cons (ωm := [0, 0, 0, 0, 0, 0]) (s_set 4 (k := 0) (hN := nd__law_gap_fits) (x_call (h_first_gap G) (L2N.takes_of rfl rfl rfl rfl) hr (a_cons (rv 1) (a_cons (rv 2) (a_cons (rv 3) a_nil))))) (ss_cons (ωm := [0, 0, 0, 0, 0, 0]) (s_set 5 (k := 0) (hN := nd__law_gap_fits) (x_call (h__law_gap G) (L2N.takes_of rfl rfl rfl rfl) hr (a_cons (rv 0) (a_cons (rv 2) (a_cons (rv 3) a_nil))))) (ss_cons (ωm := [0, 0, 0, 0, 0, 0]) (s_if (t_isN (rq_of (rv 5))) (ss_cons (ωm := [0, 0, 0, 0, 0, 0]) (s_ret rfl (rf_of (r_isN (rq_of (rv 4))))) ss_end) ss_end) (ss_cons (ωm := [0, 0, 0, 0, 0, 0]) (s_ret rfl (rf_of (r_and (rp_frz (x_call (h__law_is_number G) (L2N.takes_of rfl rfl rfl rfl) hr (a_cons (rv 4) a_nil))) (r_one (x_eq hr (rq_of (rv 4)) (rq_of (rv 5))))))) ss_end)))))
def b_law : SS := (sSeq (sSet 1 (s2 gAdd (sC (.int 1)) (s2 gMod (sCall gInt (aCons (sCall m__law_cell (aCons (sVar 0) (aCons (sC (.int 0)) aNil))) aNil)) (sC (.int 16))))) (sSeq (sSet 2 (sCall gInt (aCons (sCall m__law_cell (aCons (sVar 0) (aCons (sC (.int 1)) aNil))) aNil))) (sSeq (sSet 3 (s2 gIxA (sCall (gSize .list) (aCons (sC (.int 8)) (aCons (sC (.int 2)) (aCons (sC (.int 3)) (aCons (sC (.int 5)) aNil))))) (s2 gMod (sVar 2) (sC (.int 4))))) (sSeq (sSet 4 (sComp 19 (sIterA (sCall m__law_row (aCons (sCall m__law_cell (aCons (sVar 0) (aCons (sC (.int 2)) aNil))) (aCons (sVar 1) (aCons (sVar 3) aNil))))) bYes (s2 gAdd (sVar 19) (s2 gMul (s2 gSub (sC (.int 8)) (sVar 3)) (s2 gMod (s2 gFdiv (sVar 2) (sC (.int 4))) (sC (.int 2))))))) (sSeq (sSet 5 (sCall gList (aCons (sVar 4) aNil))) (sSeq (sIfS (tB' (s2 gEq (s2 gMod (s2 gFdiv (sVar 2) (sC (.int 8))) (sC (.int 2))) (sC (.int 1)))) (sSeq (sSet 5 (sCall gTuple (aCons (sVar 4) aNil))) (fun ρ => .nx ρ)) (fun ρ => .nx ρ)) (sSeq (sSet 6 (sCall (gSize .list) (aCons (sC (.int 0)) (aCons (sC (.int 1)) (aCons (sVar 1) (aCons (s2 gAdd (sVar 1) (sC (.int 1))) (aCons (sC (.int 9999)) (aCons (s2 gMod (sCall gInt (aCons (sCall m__law_cell (aCons (sVar 0) (aCons (sC (.int 3)) aNil))) aNil)) (sC (.int 41))) (aCons (s2 gMod (s2 gFdiv (sCall gInt (aCons (sCall m__law_cell (aCons (sVar 0) (aCons (sC (.int 3)) aNil))) aNil)) (sC (.int 41))) (sC (.int 10000))) aNil))))))))) (sSeq (sFor (sIterA (sVar 6)) (tgN 7) (sSeq (sSet 18 (sCall m_ages (aCons (sVar 5) (aCons (sVar 7) aNil)))) (sSeq (sIfS (tNot' (tB' (sAtom (sCall m__law_are_numbers (aCons (sVar 18) (aCons (sCall m__law_ages (aCons (sVar 4) (aCons (sVar 7) aNil))) aNil)))))) (sSeq (sRet (sC (.bool false))) (fun ρ => .nx ρ)) (fun ρ => .nx ρ)) (sSeq (sApp 18 (sC (.int 99))) (fun ρ => .nx ρ))))) (sSeq (sIfS (tNot' (tB' (sAtom (sCall m__law_are_numbers (aCons (sCall m_ages (aCons (sVar 5) (aCons (s2 gIxA (sVar 6) (sC (.int 6))) aNil))) (aCons (sCall m__law_ages (aCons (sVar 4) (aCons (s2 gIxA (sVar 6) (sC (.int 6))) aNil))) aNil)))))) (sSeq (sRet (sC (.bool false))) (fun ρ => .nx ρ)) (fun ρ => .nx ρ)) (sSeq (sSet 8 (s2 gMod (sCall gInt (aCons (sCall m__law_cell (aCons (sVar 0) (aCons (sC (.int 4)) aNil))) aNil)) (sC (.int 31)))) (sSeq (sSet 9 (s2 gAdd (sVar 8) (s2 gMod (sCall gInt (aCons (sCall m__law_cell (aCons (sVar 0) (aCons (sC (.int 5)) aNil))) aNil)) (s2 gSub (sC (.int 31)) (sVar 8))))) (sSeq (sSet 10 (s2 gMod (sCall gInt (aCons (sCall m__law_cell (aCons (sVar 0) (aCons (sC (.int 4)) aNil))) aNil)) (sVar 1))) (sSeq (sSet 11 (s2 gAdd (sVar 10) (s2 gMod (sCall gInt (aCons (sCall m__law_cell (aCons (sVar 0) (aCons (sC (.int 5)) aNil))) aNil)) (sC (.int 4))))) (sSeq (sFor (sIterA (sCall (gSize .list) (aCons (sCall (gSize .tuple) (aCons (sVar 8) (aCons (sVar 9) aNil))) (aCons (sCall (gSize .tuple) (aCons (sVar 10) (aCons (sVar 10) aNil))) (aCons (sCall (gSize .tuple) (aCons (sVar 10) (aCons (sVar 11) aNil))) (aCons (sCall (gSize .tuple) (aCons (sC (.int 0)) (aCons (sVar 10) aNil))) (aCons (sCall (gSize .tuple) (aCons (sC (.int 0)) (aCons (sC (.int 30)) aNil))) (aCons (sCall (gSize .tuple) (aCons (sC (.int 30)) (aCons (sC (.int 30)) aNil))) (aCons (sCall (gSize .tuple) (aCons (sC (.int 16)) (aCons (sC (.int 30)) aNil))) aNil))))))))) (tgN 12) (sSeq (sIfS (tNot' (tB' (sAtom (sCall m__law_gap_fits (aCons (sVar 4) (aCons (sVar 5) (aCons (s2 gIxA (sVar 12) (sC (.int 0))) (aCons (s2 gIxA (sVar 12) (sC (.int 1))) aNil)))))))) (sSeq (sRet (sC (.bool false))) (fun ρ => .nx ρ)) (fun ρ => .nx ρ)) (fun ρ => .nx ρ))) (sSeq (sIfS (tOr' (tB' (s2 gNe (sCall gList (aCons (sVar 5) aNil)) (sVar 4))) (tNot' (tB' (sAtom (sCall m__law_numbers_refused (aCons (sVar 4) (aCons (sVar 8) aNil))))))) (sSeq (sRet (sC (.bool false))) (fun ρ => .nx ρ)) (fun ρ => .nx ρ)) (sSeq (sSet 13 (s2 gMod (sCall gInt (aCons (sCall m__law_cell (aCons (sVar 0) (aCons (sC (.int 6)) aNil))) aNil)) (sVar 1))) (sSeq (sSet 14 (s2 gIxA (sCall (gSize .list) (aCons (sC (.int 8)) (aCons (s1 gNeg (sC (.int 1))) (aCons (sC (.bool true)) (aCons (sC .none) (aCons (sC (.str "1")) (aCons (sCall (gSize .list) (aCons (sC (.int 1)) aNil)) (aCons (sC (.bool false)) (aCons (sC (.int 99)) (aCons (sCall (gSize .tuple) aNil) (aCons (s1 gNeg (sC (.int 30))) aNil))))))))))) (s2 gMod (sCall gInt (aCons (sCall m__law_cell (aCons (sVar 0) (aCons (sC (.int 7)) aNil))) aNil)) (sC (.int 10))))) (sSeq (sSet 15 (s2 gAdd (s2 gAdd (sSl (sVar 4) soNone (soSome (sVar 13))) (sCall (gSize .list) (aCons (sVar 14) aNil))) (sSl (sVar 4) (soSome (s2 gAdd (sVar 13) (sC (.int 1)))) soNone))) (sSeq (sIfS (tAnd' (tB' (s2 gEq (s2 gMod (s2 gFdiv (sVar 2) (sC (.int 16))) (sC (.int 2))) (sC (.int 1)))) (tB' (s2 gLt (s2 gAdd (sVar 13) (sC (.int 1))) (sVar 1)))) (sSeq (sSetI 15 (s2 gSub (sVar 1) (sC (.int 1))) (sC .none)) (fun ρ => .nx ρ)) (fun ρ => .nx ρ)) (sSeq (sSet 16 (sCall m__law_row (aCons (sCall m__law_cell (aCons (sVar 0) (aCons (sC (.int 8)) aNil))) (aCons (sC (.int 17)) (aCons (sC (.int 8)) aNil))))) (sSeq (sIfS (tOr' (tNot' (tB' (sAtom (sCall m__law_refused (aCons (sVar 15) (aCons (sCall (gSize .tuple) (aCons (sC (.str "levels")) (aCons (sVar 13) (aCons (sC (.bool true)) aNil)))) aNil)))))) (tNot' (tB' (sAtom (sCall m__law_refused (aCons (sVar 16) (aCons (sCall (gSize .tuple) (aCons (sC (.str "many")) (aCons (sC (.int 16)) (aCons (sC (.bool true)) aNil)))) aNil))))))) (sSeq (sRet (sC (.bool false))) (fun ρ => .nx ρ)) (fun ρ => .nx ρ)) (sSeq (sIfS (tNot' (tB' (sCall m__law_refused (aCons (s2 gAdd (s2 gAdd (sSl (sVar 16) soNone (soSome (sVar 13))) (sCall (gSize .list) (aCons (sVar 14) aNil))) (sSl (sVar 16) (soSome (s2 gAdd (sVar 13) (sC (.int 1)))) soNone)) (aCons (sCall (gSize .tuple) (aCons (sC (.str "many")) (aCons (sC (.int 16)) (aCons (sC (.bool true)) aNil)))) aNil))))) (sSeq (sRet (sC (.bool false))) (fun ρ => .nx ρ)) (fun ρ => .nx ρ)) (sSeq (sFor (sIterA (sCall (gSize .list) (aCons (sC .none) (aCons (sCall (gSize .list) aNil) (aCons (sCall (gSize .tuple) aNil) (aCons (sC (.str "0")) (aCons (sC (.int 3)) (aCons (sC (.bool true)) aNil)))))))) (tgN 17) (sSeq (sIfS (tNot' (tB' (sCall m__law_refused (aCons (sVar 17) (aCons (sCall (gSize .tuple) (aCons (sC (.str "levels")) (aCons (s1 gNeg (sC (.int 1))) (aCons (sC (.bool true)) aNil)))) aNil))))) (sSeq (sRet (sC (.bool false))) (fun ρ => .nx ρ)) (fun ρ => .nx ρ)) (fun ρ => .nx ρ))) (sSeq (sRet (sCall m__law_are_numbers (aCons (sCall m_ages (aCons (sSl (sVar 16) soNone (soSome (sC (.int 16)))) (aCons (sC (.int 40)) aNil))) (aCons (sCall m__law_ages (aCons (sSl (sVar 16) soNone (soSome (sC (.int 16)))) (aCons (sC (.int 40)) aNil))) aNil)))) (fun ρ => .nx ρ)))))))))))))))))))))))))
theorem nd_law : (["script", "count", "pick", "size", "rotation", "given", "days", "day", "low", "high", "near", "wide", "pair", "place", "wrong", "broken", "longer", "nothing", "told", "tape"] : List Str).Nodup := by decide +kernel
def m_law : List D → R D := dataOf 20 b_law
theorem h_law (G : EnvG PySem.Challenge.pw_reelvault_k46_rotations_and_gaps pd K mg) : ∃ fd : FuncData, (∀ (s : Shared) (v : Value), BindsTo s fd ⟨[v], []⟩ [("script", v)]) ∧ ∀ base : Heap, FnOk PySem.Challenge.pw_reelvault_k46_rotations_and_gaps w K mg base CX0 7 (He.ga K "law") fd ["script"] (fun vs H Q _ => spP K 0 1 m_law vs H Q fun _ _ _ => False) :=
  law_of (w := w) (N := ["script", "count", "pick", "size", "rotation", "given", "days", "day", "low", "high", "near", "wide", "pair", "place", "wrong", "broken", "longer", "nothing", "told", "tape"]) (fb := b_law) [0, 0, 0, 0, 0, 0, 0, 0, 0, 0, 0, 0, 0, 0, 0, 0, 0, 0, 0, 0] [0, 0, 0, 0, 0, 0, 0, 0, 0, 0, 0, 0, 0, 0, 0, 0, 0, 0, 0, 0] G 19 rfl rfl rfl ⟨rfl, rfl, rfl, by decide +kernel, rfl, by decide +kernel, by decide +kernel⟩ (by decide) rfl
    (fun _ _ _ _ _ _ us hl => match us, hl with | [_], _ => rfl)
    (fun base cdv f A outer s H E (hr : Room 6 _) => (ss_cons (ωm := [0, 0, 0, 0, 0, 0, 0, 0, 0, 0, 0, 0, 0, 0, 0, 0, 0, 0, 0, 0]) (s_set 1 (k := 0) (hN := nd_law) (rf_of (rp_frz (x_add (rq_of r_int) (rq_of (x_mod (rq_of (x_int (g_int G) (aq_cons (rq_of (rp_frz (x_call (h__law_cell G) (L2N.takes_of rfl rfl rfl rfl) hr (a_cons (rv 0) (a_cons r_int a_nil))))) aq_nil))) (rq_of r_int))))))) (ss_cons (ωm := [0, 0, 0, 0, 0, 0, 0, 0, 0, 0, 0, 0, 0, 0, 0, 0, 0, 0, 0, 0]) (s_set 2 (k := 0) (hN := nd_law) (rf_of (x_int (g_int G) (aq_cons (rq_of (rp_frz (x_call (h__law_cell G) (L2N.takes_of rfl rfl rfl rfl) hr (a_cons (rv 0) (a_cons r_int a_nil))))) aq_nil)))) (ss_cons (ωm := [0, 0, 0, 0, 0, 0, 0, 0, 0, 0, 0, 0, 0, 0, 0, 0, 0, 0, 0, 0]) (s_set 3 (k := 0) (hN := nd_law) (rf_of (r_ixa (u1 hr) (rq_new (r_lst (a_cons r_int (a_cons r_int (a_cons r_int (a_cons r_int a_nil)))))) (rq_of (x_mod (rq_of (rv 2)) (rq_of r_int)))))) (ss_cons (ωm := [0, 0, 0, 0, 1, 0, 0, 0, 0, 0, 0, 0, 0, 0, 0, 0, 0, 0, 0, 0]) (s_setc 19 4 rfl (by decide) rfl (by decide) rfl nd_law rfl rfl (by rfl) (ig_any (rq_new (x_call (h__law_row G) (L2N.takes_of rfl rfl rfl rfl) hr (a_cons (rp_frz (x_call (h__law_cell G) (L2N.takes_of rfl rfl rfl rfl) hr (a_cons (rv 0) (a_cons r_int a_nil)))) (a_cons (rv 1) (a_cons (rv 3) a_nil)))))) (blk_of (by kernel_rfl)) rfl (fun s H C cl fp => pg_name (i := 19) nd_law rfl (.inl rfl)) (fun s H C cl fp => ts_nil) (fun s H C cl fp => (rp_frz (x_add (rq_of (rv 19)) (rq_new (x_mul (rq_of (x_sub (rq_of r_int) (rq_of (rv 3)))) (rq_of (x_mod (rq_of (x_fdiv (rq_of (rv 2)) (rq_of r_int))) (rq_of r_int))))))))) (ss_cons (ωm := [0, 0, 0, 0, 1, 1, 0, 0, 0, 0, 0, 0, 0, 0, 0, 0, 0, 0, 0, 0]) (s_set 5 (k := 1) (hN := nd_law) (x_list (g_list G) (aq_cons (qv 4) aq_nil))) (ss_cons (ωm := [0, 0, 0, 0, 1, 0, 0, 0, 0, 0, 0, 0, 0, 0, 0, 0, 0, 0, 0, 0]) (s_if (c_eq hr (rq_of (x_mod (rq_of (x_fdiv (rq_of (rv 2)) (rq_of r_int))) (rq_of r_int))) (rq_of r_int)) (ss_cons (ωm := [0, 0, 0, 0, 1, 0, 0, 0, 0, 0, 0, 0, 0, 0, 0, 0, 0, 0, 0, 0]) (s_set 5 (k := 0) (hN := nd_law) (rf_of (x_tuple (g_tuple G) (aq_cons (qv 4) aq_nil)))) ss_end) ss_end) (ss_cons (ωm := [0, 0, 0, 0, 1, 0, 1, 0, 0, 0, 0, 0, 0, 0, 0, 0, 0, 0, 0, 0]) (s_set 6 (k := 1) (hN := nd_law) (r_lst (a_cons r_int (a_cons r_int (a_cons (rv 1) (a_cons (rp_frz (x_add (rq_of (rv 1)) (rq_of r_int))) (a_cons r_int (a_cons (x_mod (rq_of (x_int (g_int G) (aq_cons (rq_of (rp_frz (x_call (h__law_cell G) (L2N.takes_of rfl rfl rfl rfl) hr (a_cons (rv 0) (a_cons r_int a_nil))))) aq_nil))) (rq_of r_int)) (a_cons (x_mod (rq_of (x_fdiv (rq_of (x_int (g_int G) (aq_cons (rq_of (rp_frz (x_call (h__law_cell G) (L2N.takes_of rfl rfl rfl rfl) hr (a_cons (rv 0) (a_cons r_int a_nil))))) aq_nil))) (rq_of r_int))) (rq_of r_int)) a_nil))))))))) (ss_frz [0, 0, 0, 0, 1, 0, 0, 0, 0, 0, 0, 0, 0, 0, 0, 0, 0, 0, 0, 0] (ss_cons (ωm := [0, 0, 0, 0, 1, 0, 0, 0, 0, 0, 0, 0, 0, 0, 0, 0, 0, 0, 0, 0]) (s_for [0, 0, 0, 0, 1, 0, 0, 0, 0, 0, 0, 0, 0, 0, 0, 0, 0, 0, 0, 0] (passes_of rfl) rfl (i_any (rv 6)) (pg_name (i := 7) nd_law rfl (by first | exact .inl rfl | exact .inr rfl)) (tg_name 7) (ss_cons (ωm := [0, 0, 0, 0, 1, 0, 0, 0, 0, 0, 0, 0, 0, 0, 0, 0, 0, 0, 1, 0]) (s_set 18 (k := 1) (hN := nd_law) (x_call (h_ages G) (L2N.takes_of rfl rfl rfl rfl) hr (a_cons (rv 5) (a_cons (rv 7) a_nil)))) (ss_cons (ωm := [0, 0, 0, 0, 1, 0, 0, 0, 0, 0, 0, 0, 0, 0, 0, 0, 0, 0, 1, 0]) (s_if (t_not (t_val (rp_borrow [0, 0, 0, 0, 0, 0, 0, 0, 0, 0, 0, 0, 0, 0, 0, 0, 0, 0, 0, 0] (x_call (h__law_are_numbers G) (L2N.takes_of rfl rfl rfl rfl) hr (a_cons (rv 18) (a_cons (rp_frz (x_call (h__law_ages G) (L2N.takes_of rfl rfl rfl rfl) hr (a_cons (rv 4) (a_cons (rv 7) a_nil)))) a_nil)))))) (ss_cons (ωm := [0, 0, 0, 0, 1, 0, 0, 0, 0, 0, 0, 0, 0, 0, 0, 0, 0, 0, 1, 0]) (s_ret rfl (rf_of r_bl)) ss_end) ss_end) (ss_cons (ωm := [0, 0, 0, 0, 1, 0, 0, 0, 0, 0, 0, 0, 0, 0, 0, 0, 0, 0, 1, 0]) (x_app 18 (rf_of r_int)) ss_end)))) (ss_cons (ωm := [0, 0, 0, 0, 1, 0, 0, 0, 0, 0, 0, 0, 0, 0, 0, 0, 0, 0, 0, 0]) (s_if (t_not (t_val (rp_borrow [0, 0, 0, 0, 0, 0, 0, 0, 0, 0, 0, 0, 0, 0, 0, 0, 0, 0, 0, 0] (x_call (h__law_are_numbers G) (L2N.takes_of rfl rfl rfl rfl) hr (a_cons (rp_frz (x_call (h_ages G) (L2N.takes_of rfl rfl rfl rfl) hr (a_cons (rv 5) (a_cons (r_ixa (u1 hr) (rq_of (rv 6)) (rq_of r_int)) a_nil)))) (a_cons (rp_frz (x_call (h__law_ages G) (L2N.takes_of rfl rfl rfl rfl) hr (a_cons (rv 4) (a_cons (r_ixa (u1 hr) (rq_of (rv 6)) (rq_of r_int)) a_nil)))) a_nil)))))) (ss_cons (ωm := [0, 0, 0, 0, 1, 0, 0, 0, 0, 0, 0, 0, 0, 0, 0, 0, 0, 0, 0, 0]) (s_ret rfl (rf_of r_bl)) ss_end) ss_end) (ss_cons (ωm := [0, 0, 0, 0, 1, 0, 0, 0, 0, 0, 0, 0, 0, 0, 0, 0, 0, 0, 0, 0]) (s_set 8 (k := 0) (hN := nd_law) (rf_of (x_mod (rq_of (x_int (g_int G) (aq_cons (rq_of (rp_frz (x_call (h__law_cell G) (L2N.takes_of rfl rfl rfl rfl) hr (a_cons (rv 0) (a_cons r_int a_nil))))) aq_nil))) (rq_of r_int)))) (ss_cons (ωm := [0, 0, 0, 0, 1, 0, 0, 0, 0, 0, 0, 0, 0, 0, 0, 0, 0, 0, 0, 0]) (s_set 9 (k := 0) (hN := nd_law) (rf_of (rp_frz (x_add (rq_of (rv 8)) (rq_of (x_mod (rq_of (x_int (g_int G) (aq_cons (rq_of (rp_frz (x_call (h__law_cell G) (L2N.takes_of rfl rfl rfl rfl) hr (a_cons (rv 0) (a_cons r_int a_nil))))) aq_nil))) (rq_of (x_sub (rq_of r_int) (rq_of (rv 8)))))))))) (ss_cons (ωm := [0, 0, 0, 0, 1, 0, 0, 0, 0, 0, 0, 0, 0, 0, 0, 0, 0, 0, 0, 0]) (s_set 10 (k := 0) (hN := nd_law) (rf_of (x_mod (rq_of (x_int (g_int G) (aq_cons (rq_of (rp_frz (x_call (h__law_cell G) (L2N.takes_of rfl rfl rfl rfl) hr (a_cons (rv 0) (a_cons r_int a_nil))))) aq_nil))) (rq_of (rv 1))))) (ss_cons (ωm := [0, 0, 0, 0, 1, 0, 0, 0, 0, 0, 0, 0, 0, 0, 0, 0, 0, 0, 0, 0]) (s_set 11 (k := 0) (hN := nd_law) (rf_of (rp_frz (x_add (rq_of (rv 10)) (rq_of (x_mod (rq_of (x_int (g_int G) (aq_cons (rq_of (rp_frz (x_call (h__law_cell G) (L2N.takes_of rfl rfl rfl rfl) hr (a_cons (rv 0) (a_cons r_int a_nil))))) aq_nil))) (rq_of r_int))))))) (ss_cons (ωm := [0, 0, 0, 0, 1, 0, 0, 0, 0, 0, 0, 0, 0, 0, 0, 0, 0, 0, 0, 0]) (s_for [0, 0, 0, 0, 1, 0, 0, 0, 0, 0, 0, 0, 0, 0, 0, 0, 0, 0, 0, 0] (passes_of rfl) rfl (i_any (rp_frz (r_lst (a_cons (r_tup (a_cons (rv 8) (a_cons (rv 9) a_nil))) (a_cons (r_tup (a_cons (rv 10) (a_cons (rv 10) a_nil))) (a_cons (r_tup (a_cons (rv 10) (a_cons (rv 11) a_nil))) (a_cons (r_tup (a_cons r_int (a_cons (rv 10) a_nil))) (a_cons (r_tup (a_cons r_int (a_cons r_int a_nil))) (a_cons (r_tup (a_cons r_int (a_cons r_int a_nil))) (a_cons (r_tup (a_cons r_int (a_cons r_int a_nil))) a_nil)))))))))) (pg_name (i := 12) nd_law rfl (by first | exact .inl rfl | exact .inr rfl)) (tg_name 12) (ss_cons (ωm := [0, 0, 0, 0, 1, 0, 0, 0, 0, 0, 0, 0, 0, 0, 0, 0, 0, 0, 0, 0]) (s_if (t_not (t_val (rp_borrow [0, 0, 0, 0, 0, 0, 0, 0, 0, 0, 0, 0, 0, 0, 0, 0, 0, 0, 0, 0] (x_call (h__law_gap_fits G) (L2N.takes_of rfl rfl rfl rfl) hr (a_cons (rv 4) (a_cons (rv 5) (a_cons (r_ixa (u1 hr) (rq_of (rv 12)) (rq_of r_int)) (a_cons (r_ixa (u1 hr) (rq_of (rv 12)) (rq_of r_int)) a_nil)))))))) (ss_cons (ωm := [0, 0, 0, 0, 1, 0, 0, 0, 0, 0, 0, 0, 0, 0, 0, 0, 0, 0, 0, 0]) (s_ret rfl (rf_of r_bl)) ss_end) ss_end) ss_end)) (ss_cons (ωm := [0, 0, 0, 0, 1, 0, 0, 0, 0, 0, 0, 0, 0, 0, 0, 0, 0, 0, 0, 0]) (s_if (t_w (w_or (c_ne hr (rq_new (x_list (g_list G) (aq_cons (rq_of (rv 5)) aq_nil))) (qv 4)) (w_or1 (t_not (t_val (rp_borrow [0, 0, 0, 0, 0, 0, 0, 0, 0, 0, 0, 0, 0, 0, 0, 0, 0, 0, 0, 0] (x_call (h__law_numbers_refused G) (L2N.takes_of rfl rfl rfl rfl) hr (a_cons (rv 4) (a_cons (rv 8) a_nil))))))))) (ss_cons (ωm := [0, 0, 0, 0, 1, 0, 0, 0, 0, 0, 0, 0, 0, 0, 0, 0, 0, 0, 0, 0]) (s_ret rfl (rf_of r_bl)) ss_end) ss_end) (ss_cons (ωm := [0, 0, 0, 0, 1, 0, 0, 0, 0, 0, 0, 0, 0, 0, 0, 0, 0, 0, 0, 0]) (s_set 13 (k := 0) (hN := nd_law) (rf_of (x_mod (rq_of (x_int (g_int G) (aq_cons (rq_of (rp_frz (x_call (h__law_cell G) (L2N.takes_of rfl rfl rfl rfl) hr (a_cons (rv 0) (a_cons r_int a_nil))))) aq_nil))) (rq_of (rv 1))))) (ss_cons (ωm := [0, 0, 0, 0, 1, 0, 0, 0, 0, 0, 0, 0, 0, 0, 0, 0, 0, 0, 0, 0]) (s_set 14 (k := 0) (hN := nd_law) (rf_of (r_ixa (u1 hr) (rq_new (r_lst (a_cons r_int (a_cons (r_neg r_int) (a_cons r_bl (a_cons r_non (a_cons r_str (a_cons (rp_frz (r_lst (a_cons r_int a_nil))) (a_cons r_bl (a_cons r_int (a_cons (r_tup a_nil) (a_cons (r_neg r_int) a_nil)))))))))))) (rq_of (x_mod (rq_of (x_int (g_int G) (aq_cons (rq_of (rp_frz (x_call (h__law_cell G) (L2N.takes_of rfl rfl rfl rfl) hr (a_cons (rv 0) (a_cons r_int a_nil))))) aq_nil))) (rq_of r_int)))))) (ss_cons (ωm := [0, 0, 0, 0, 1, 0, 0, 0, 0, 0, 0, 0, 0, 0, 0, 1, 0, 0, 0, 0]) (s_set 15 (k := 1) (hN := nd_law) (x_add (rq_new (x_add (rq_new (r_sl (qv 4) o_none (o_some (rv 13)))) (rq_new (r_lst (a_cons (rv 14) a_nil))))) (rq_new (r_sl (qv 4) (o_some (rp_frz (x_add (rq_of (rv 13)) (rq_of r_int)))) o_none)))) (ss_cons (ωm := [0, 0, 0, 0, 1, 0, 0, 0, 0, 0, 0, 0, 0, 0, 0, 1, 0, 0, 0, 0]) (s_if (t_w (w_and (c_eq hr (rq_of (x_mod (rq_of (x_fdiv (rq_of (rv 2)) (rq_of r_int))) (rq_of r_int))) (rq_of r_int)) (w_and1 (c_lt (rq_new (x_add (rq_of (rv 13)) (rq_of r_int))) (rq_of (rv 1)))))) (ss_cons (ωm := [0, 0, 0, 0, 1, 0, 0, 0, 0, 0, 0, 0, 0, 0, 0, 1, 0, 0, 0, 0]) (s_seti 15 (u1 hr) rfl r_non (x_sub (rq_of (rv 1)) (rq_of r_int))) ss_end) ss_end) (ss_cons (ωm := [0, 0, 0, 0, 1, 0, 0, 0, 0, 0, 0, 0, 0, 0, 0, 1, 1, 0, 0, 0]) (s_set 16 (k := 1) (hN := nd_law) (x_call (h__law_row G) (L2N.takes_of rfl rfl rfl rfl) hr (a_cons (rp_frz (x_call (h__law_cell G) (L2N.takes_of rfl rfl rfl rfl) hr (a_cons (rv 0) (a_cons r_int a_nil)))) (a_cons r_int (a_cons r_int a_nil))))) (ss_cons (ωm := [0, 0, 0, 0, 1, 0, 0, 0, 0, 0, 0, 0, 0, 0, 0, 1, 1, 0, 0, 0]) (s_if (t_w (w_or (t_not (t_val (rp_borrow [0, 0, 0, 0, 1, 0, 0, 0, 0, 0, 0, 0, 0, 0, 0, 0, 1, 0, 0, 0] (x_call (h__law_refused G) (L2N.takes_of rfl rfl rfl rfl) hr (a_cons (rv 15) (a_cons (r_tup (a_cons r_str (a_cons (rv 13) (a_cons r_bl a_nil)))) a_nil)))))) (w_or1 (t_not (t_val (rp_borrow [0, 0, 0, 0, 1, 0, 0, 0, 0, 0, 0, 0, 0, 0, 0, 1, 0, 0, 0, 0] (x_call (h__law_refused G) (L2N.takes_of rfl rfl rfl rfl) hr (a_cons (rv 16) (a_cons (r_tup (a_cons r_str (a_cons r_int (a_cons r_bl a_nil)))) a_nil))))))))) (ss_cons (ωm := [0, 0, 0, 0, 1, 0, 0, 0, 0, 0, 0, 0, 0, 0, 0, 1, 1, 0, 0, 0]) (s_ret rfl (rf_of r_bl)) ss_end) ss_end) (ss_cons (ωm := [0, 0, 0, 0, 1, 0, 0, 0, 0, 0, 0, 0, 0, 0, 0, 1, 1, 0, 0, 0]) (s_if (t_not (t_val (rp_frz (x_call (h__law_refused G) (L2N.takes_of rfl rfl rfl rfl) hr (a_cons (rp_frz (x_add (rq_new (x_add (rq_new (r_sl (qv 16) o_none (o_some (rv 13)))) (rq_new (r_lst (a_cons (rv 14) a_nil))))) (rq_new (r_sl (qv 16) (o_some (rp_frz (x_add (rq_of (rv 13)) (rq_of r_int)))) o_none)))) (a_cons (r_tup (a_cons r_str (a_cons r_int (a_cons r_bl a_nil)))) a_nil)))))) (ss_cons (ωm := [0, 0, 0, 0, 1, 0, 0, 0, 0, 0, 0, 0, 0, 0, 0, 1, 1, 0, 0, 0]) (s_ret rfl (rf_of r_bl)) ss_end) ss_end) (ss_cons (ωm := [0, 0, 0, 0, 1, 0, 0, 0, 0, 0, 0, 0, 0, 0, 0, 1, 1, 0, 0, 0]) (s_for [0, 0, 0, 0, 1, 0, 0, 0, 0, 0, 0, 0, 0, 0, 0, 1, 1, 0, 0, 0] (passes_of rfl) rfl (i_any (rp_frz (r_lst (a_cons r_non (a_cons (rp_frz (r_lst a_nil)) (a_cons (r_tup a_nil) (a_cons r_str (a_cons r_int (a_cons r_bl a_nil))))))))) (pg_name (i := 17) nd_law rfl (by first | exact .inl rfl | exact .inr rfl)) (tg_name 17) (ss_cons (ωm := [0, 0, 0, 0, 1, 0, 0, 0, 0, 0, 0, 0, 0, 0, 0, 1, 1, 0, 0, 0]) (s_if (t_not (t_val (rp_frz (x_call (h__law_refused G) (L2N.takes_of rfl rfl rfl rfl) hr (a_cons (rv 17) (a_cons (r_tup (a_cons r_str (a_cons (r_neg r_int) (a_cons r_bl a_nil)))) a_nil)))))) (ss_cons (ωm := [0, 0, 0, 0, 1, 0, 0, 0, 0, 0, 0, 0, 0, 0, 0, 1, 1, 0, 0, 0]) (s_ret rfl (rf_of r_bl)) ss_end) ss_end) ss_end)) (ss_cons (ωm := [0, 0, 0, 0, 1, 0, 0, 0, 0, 0, 0, 0, 0, 0, 0, 1, 1, 0, 0, 0]) (s_ret rfl (x_call (h__law_are_numbers G) (L2N.takes_of rfl rfl rfl rfl) hr (a_cons (rp_frz (x_call (h_ages G) (L2N.takes_of rfl rfl rfl rfl) hr (a_cons (rp_frz (r_sl (qv 16) o_none (o_some r_int))) (a_cons r_int a_nil)))) (a_cons (rp_frz (x_call (h__law_ages G) (L2N.takes_of rfl rfl rfl rfl) hr (a_cons (rp_frz (r_sl (qv 16) o_none (o_some r_int))) (a_cons r_int a_nil)))) a_nil)))) ss_end))))))))))))))))))))))))))
end
end Lw
end

section
set_option Elab.async false
set_option linter.all false
set_option maxRecDepth 100000
set_option maxHeartbeats 2000000
namespace Lw
open PySem Pu

def numB (v : D) (lo hi : Int) : Bool := match v with
  | .int i => decide (lo ≤ i) && decide (i ≤ hi)
  | _ => false
theorem is_number_eq {v : D} (h : isScr v = false) (lo hi : Int) : m_is_number [v, .int lo, .int hi] = .ok (.bool (numB v lo hi)) := by
  have e : ∀ f, gIs f v = .ok (.bool (f v)) := fun f => g_is h
  cases v with
  | int i =>
    by_cases h1 : lo ≤ i <;> simp [m_is_number, b_is_number, numB, h1]
  | _ => simp [m_is_number, b_is_number, numB, e, isInt, isBool]
theorem is_row_eq {v : D} (h : isScr v = false) : m_is_row [v] = .ok (.bool (isRow v)) := by
  simp [m_is_row, b_is_row, g_is h]
theorem check_number_ok {v : D} (h : isScr v = false) {lo hi : Int} (s : D) (hn : numB v lo hi = true) : m_check_number [v, .int lo, .int hi, s] = .ok .none := by
  simp [m_check_number, b_check_number, is_number_eq h, hn]
theorem check_number_no {v : D} (h : isScr v = false) {lo hi : Int} (s : Str) (hn : numB v lo hi = false) : m_check_number [v, .int lo, .int hi, .str s] = .ex "BadNumber" [("what", .str s)] := by
  simp [m_check_number, b_check_number, is_number_eq h, hn]
theorem is_num_eq {v : D} (h : isScr v = false) : m__law_is_number [v] = .ok (.bool (isInt v && !isBool v)) := by
  have e : ∀ f, gIs f v = .ok (.bool (f v)) := fun f => g_is h
  cases hb : isInt v <;> simp [m__law_is_number, b__law_is_number, e, hb]

/-! ### the row -/
def seqD (v : D) (ds : List D) : Prop := v = .list ds ∨ v = .tuple ds
theorem seqD.len {v : D} {ds : List D} (h : seqD v ds) : gLen [v] = .ok (.int ds.length) := by
  rcases h with rfl | rfl <;> rfl
theorem seqD.row {v : D} {ds : List D} (h : seqD v ds) : m_is_row [v] = .ok (.bool true) := by
  rcases h with rfl | rfl <;> exact is_row_eq rfl
theorem seqD.list {v : D} {ds : List D} (h : seqD v ds) : gList [v] = .ok (.list ds) := by
  rcases h with rfl | rfl <;> rfl
theorem seqD.enum {v : D} {ds : List D} (h : seqD v ds) : gEnum v = .ok (enumD ds) := by
  rcases h with rfl | rfl <;> rfl
theorem csr_none {v : D} (hs : isScr v = false) (h : isRow v = false ∨ seqD v []) : m_check_small_row [v, .int 16] = .ex "BadLevels" [("at", .int (-1))] := by
  rcases h with h | h
  · simp [m_check_small_row, b_check_small_row, is_row_eq hs, h]
  · simp [m_check_small_row, b_check_small_row, h.row, h.len]
theorem csr_many {v : D} {ds : List D} (h : seqD v ds) (hl : 16 < ds.length) : m_check_small_row [v, .int 16] = .ex "TooMany" [("limit", .int 16)] := by
  have h1 : ¬ ds = [] := fun z => by rw [z] at hl; exact absurd hl (by decide)
  have h2 : (16 : Int) < ds.length := by omega
  simp [m_check_small_row, b_check_small_row, h.row, h.len, h1, h2]
theorem csr_loop {v : D} {ds : List D} (hs : ∀ d ∈ ds, isScr d = false) (a b : Option D) :
    let r := forL (tgT [2, 3]) (sSeq (sIfS (tNot' (tB' (sCall m_is_number (aCons (sVar 3) (aCons (sC (.int 0)) (aCons (sC (.int 7)) aNil)))))) (sSeq (sRaise "BadLevels" "at" (sVar 2)) (fun ρ => .nx ρ)) (fun ρ => .nx ρ)) (fun ρ => .nx ρ)) (enumD ds) [some v, some (.int 16), a, b]
    (∃ k d, ds[k]? = some d ∧ numB d 0 7 = false ∧ (∀ j e, j < k → ds[j]? = some e → numB e 0 7 = true) ∧ ∃ ρ, r = .ex "BadLevels" [("at", .int (k : Nat))] ρ) ∨ ((∀ d ∈ ds, numB d 0 7 = true) ∧ ∃ a b, r = .nx [some v, some (.int 16), a, b]) := by
  intro r
  have go := forL_go (tg := tgT [2, 3]) (b := sSeq (sIfS (tNot' (tB' (sCall m_is_number (aCons (sVar 3) (aCons (sC (.int 0)) (aCons (sC (.int 7)) aNil)))))) (sSeq (sRaise "BadLevels" "at" (sVar 2)) (fun ρ => .nx ρ)) (fun ρ => .nx ρ)) (fun ρ => .nx ρ))
    (fun _ ρ => ∃ a b, ρ = [some v, some (.int 16), a, b]) (fun k => !((ds[k]?).elim true fun d => numB d 0 7)) (fun k f => ∃ ρ, f = .ex "BadLevels" [("at", .int (k : Nat))] ρ) (enumD ds) 0 [some v, some (.int 16), a, b] ⟨a, b, rfl⟩ (by
      rintro k d ρ hd ⟨a, b, rfl⟩
      obtain ⟨e, he, rfl⟩ := enum_get hd
      have hse := hs e (List.mem_of_getElem? he)
      refine ⟨_, rfl, ?_⟩
      rw [Nat.zero_add]
      cases hn : numB e 0 7 with
      | true =>
        right
        simp [he, hn, is_number_eq hse]
      | false =>
        left
        simp [he, hn, is_number_eq hse])
  rcases go with ⟨k, hk, hp, hj, ⟨ρ, hq⟩, _⟩ | ⟨hj, ρ', h1, a', b', rfl⟩
  · left
    rw [enum_len] at hk
    have he : ds[k]? = some ds[k] := List.getElem?_eq_getElem hk
    refine ⟨k, ds[k], he, ?_, fun j e hjk hje => ?_, ρ, ?_⟩
    · rw [Nat.zero_add, he] at hp
      simpa using hp
    · have := hj j hjk
      rw [Nat.zero_add, hje] at this
      simpa using this
    · rw [Nat.zero_add] at hq
      exact hq
  · right
    refine ⟨fun d hd => ?_, a', b', h1⟩
    obtain ⟨j, hj', e⟩ := List.mem_iff_getElem.mp hd
    have := hj j (by rw [enum_len]; exact hj')
    rw [Nat.zero_add, List.getElem?_eq_getElem hj', e] at this
    simpa using this
theorem csr_good {v : D} {ds : List D} (h : seqD v ds) (h0 : ds ≠ []) (hl : ds.length ≤ 16) (hs : ∀ d ∈ ds, isScr d = false) (hg : ∀ d ∈ ds, numB d 0 7 = true) : m_check_small_row [v, .int 16] = .ok (.list ds) := by
  have h2 : ¬ (16 : Int) < ds.length := by omega
  rcases csr_loop (v := v) hs none none with ⟨k, d, hd, hn, _⟩ | ⟨_, a, b, e⟩
  · rw [hg d (List.mem_of_getElem? hd)] at hn
    cases hn
  · simp [m_check_small_row, b_check_small_row, h.row, h.len, h.enum, h.list, h0, h2, e]
theorem csr_bad {v : D} {ds : List D} (h : seqD v ds) (hl : ds.length ≤ 16) (hs : ∀ d ∈ ds, isScr d = false) {p : Nat} {d : D} (hp : ds[p]? = some d) (hd : numB d 0 7 = false) (hg : ∀ j e, j < p → ds[j]? = some e → numB e 0 7 = true) : m_check_small_row [v, .int 16] = .ex "BadLevels" [("at", .int (p : Nat))] := by
  have h2 : ¬ (16 : Int) < ds.length := by omega
  have h0 : ds ≠ [] := fun z => by
    rw [z] at hp
    cases hp
  rcases csr_loop (v := v) hs none none with ⟨k, d', hd', hn, hj, ρ, e⟩ | ⟨hall, _⟩
  · have ek : k = p := by
      rcases Nat.lt_trichotomy k p with z | z | z
      · rw [hg k d' z hd'] at hn
        cases hn
      · exact z
      · rw [hj p d z hp] at hd
        cases hd
    subst ek
    simp [m_check_small_row, b_check_small_row, h.row, h.len, h.enum, h.list, h0, h2, e]
  · rw [hall d (List.mem_of_getElem? hp)] at hd
    cases hd

/-! ### ages -/
def tp (r : List Int) (d : Int) : Int := r.getD ((d - 1) % (r.length : Int)).toNat 0
theorem tp_ix {r : List Int} (h : r ≠ []) (d : Int) : gIxA (.list (r.map PyData.int)) (.int ((d - 1) % (r.length : Int))) = .ok (.int (tp r d)) := by
  have hl : 0 < (r.length : Int) := by
    have := List.length_pos_iff.mpr h
    omega
  have h0 := Int.emod_nonneg (d - 1) (by omega : (r.length : Int) ≠ 0)
  have h1 := Int.emod_lt_of_pos (d - 1) hl
  have e : ((d - 1) % (r.length : Int)) = (((d - 1) % (r.length : Int)).toNat : Nat) := by omega
  have hi : ((d - 1) % (r.length : Int)).toNat < r.length := by omega
  have hg : r[((d - 1) % (r.length : Int)).toNat]? = some (tp r d) := by
    unfold tp
    rw [List.getD_eq_getElem?_getD, List.getElem?_eq_getElem hi]
    rfl
  rw [e]
  exact ix_li hg
def freshB (r : List Int) (day : Int) (a : Nat) : Bool := decide ((a : Int) < day) && (List.range a).all fun b => decide (tp r (day - (b : Int)) ≠ tp r (day - (a : Int)))
def foundL (r : List Int) (day : Int) (k : Nat) : List Nat := (List.range k).filter (freshB r day)
theorem fresh_iff {r : List Int} {day : Int} {a : Nat} : freshB r day a = true ↔ (a : Int) < day ∧ ∀ b : Nat, b < a → tp r (day - (b : Int)) ≠ tp r (day - (a : Int)) := by
  unfold freshB
  rw [Bool.and_eq_true, decide_eq_true_iff, List.all_eq_true]
  constructor
  · exact fun ⟨h1, h2⟩ => ⟨h1, fun b hb => of_decide_eq_true (h2 b (List.mem_range.mpr hb))⟩
  · exact fun ⟨h1, h2⟩ => ⟨h1, fun b hb => decide_eq_true (h2 b (List.mem_range.mp hb))⟩
theorem found_mem {r : List Int} {day : Int} {k a : Nat} : a ∈ foundL r day k ↔ a < k ∧ freshB r day a = true := by
  unfold foundL
  rw [List.mem_filter, List.mem_range]
theorem found_succ (r : List Int) (day : Int) (k : Nat) : foundL r day (k + 1) = foundL r day k ++ if freshB r day k = true then [k] else [] := by
  unfold foundL
  rw [List.range_succ, List.filter_append]
  congr 1
  by_cases h : freshB r day k = true
  · rw [if_pos h, List.filter_cons_of_pos h]
    rfl
  · rw [if_neg h, List.filter_cons_of_neg h]
    rfl
theorem found_len (r : List Int) (day : Int) (k : Nat) : (foundL r day k).length ≤ k := by
  unfold foundL
  exact Nat.le_trans (List.length_filter_le _ _) (by rw [List.length_range]; exact Nat.le_refl _)
theorem fresh_below {r : List Int} {day : Int} {x : Int} : ∀ (b : Nat), (b : Int) < day → tp r (day - (b : Int)) = x → ∃ b', b' ≤ b ∧ freshB r day b' = true ∧ tp r (day - (b' : Int)) = x := by
  intro b
  induction b using Nat.strongRecOn with
  | _ b ih =>
    intro hb hx
    by_cases h : freshB r day b = true
    · exact ⟨b, Nat.le_refl _, h, hx⟩
    · have h2 : ¬ ∀ c : Nat, c < b → tp r (day - (c : Int)) ≠ tp r (day - (b : Int)) := fun z => h (fresh_iff.mpr ⟨hb, z⟩)
      have h3 : ∃ c : Nat, c < b ∧ tp r (day - (c : Int)) = tp r (day - (b : Int)) := by
        apply Classical.byContradiction
        intro z
        exact h2 fun c hc e => z ⟨c, hc, e⟩
      obtain ⟨c, hc, e⟩ := h3
      obtain ⟨b', h4, h5, h6⟩ := ih c hc (by omega) (e.trans hx)
      exact ⟨b', by omega, h5, h6⟩
theorem seen_iff {r : List Int} {day : Int} {a : Nat} (ha : (a : Int) < day) : tp r (day - (a : Int)) ∈ ((foundL r day a).map fun (b : Nat) => tp r (day - (b : Int))) ↔ ¬ freshB r day a = true := by
  rw [List.mem_map]
  constructor
  · rintro ⟨b, hb, e⟩ h
    exact (fresh_iff.mp h).2 b (found_mem.mp hb).1 e
  · intro h
    have h3 : ∃ c : Nat, c < a ∧ tp r (day - (c : Int)) = tp r (day - (a : Int)) := by
      apply Classical.byContradiction
      intro z
      exact h (fresh_iff.mpr ⟨ha, fun c hc e => z ⟨c, hc, e⟩⟩)
    obtain ⟨c, hc, e⟩ := h3
    obtain ⟨b', h4, h5, h6⟩ := fresh_below c (by omega) e
    exact ⟨b', found_mem.mpr ⟨by omega, h5⟩, h6⟩
abbrev agesL (r : List Int) (day : Int) : List Int := (foundL r day r.length).map fun (a : Nat) => (a : Int)
theorem small_lt {n : Nat} (h : n < 16777216) : n < sizeLine := by
  rw [sizeLine_eq]
  exact h
theorem law_ages_eq {r : List Int} (h : r ≠ []) (hl : r.length ≤ 16) (day : Int) : m__law_ages [li r, .int day] = .ok (li (agesL r day)) := by
  have hlp : 0 < (r.length : Int) := by
    have := List.length_pos_iff.mpr h
    omega
  obtain ⟨ρ', h1, a, b, rfl⟩ := forL_run (tg := tgN 4) (b := (sSeq (sIfS (tB' (s2 gLt (sVar 4) (sVar 1))) (sSeq (sSet 5 (s2 gIxA (sVar 0) (s2 gMod (sCall gInt (aCons (s2 gSub (s2 gSub (sVar 1) (sVar 4)) (sC (.int 1))) aNil)) (sCall gLen (aCons (sVar 0) aNil))))) (sSeq (sIfS (tB' (s2 gNotInA (sVar 5) (sVar 2))) (sSeq (sApp 2 (sVar 5)) (sSeq (sApp 3 (sVar 4)) (fun ρ => .nx ρ))) (fun ρ => .nx ρ)) (fun ρ => .nx ρ))) (fun ρ => .nx ρ)) (fun ρ => .nx ρ)))
    (fun k ρ => ∃ a b, ρ = [some (li r), some (.int day), some (li ((foundL r day k).map fun (b : Nat) => tp r (day - (b : Int)))), some (li ((foundL r day k).map fun (a : Nat) => (a : Int))), a, b]) (rngD 0 r.length) [some (li r), some (.int day), some (.list []), some (.list []), none, none] ⟨none, none, rfl⟩ (by
      rintro k d ρ hd ⟨a, b, rfl⟩
      obtain ⟨hk, rfl⟩ := rngD_get hd
      have hz : ∀ {α : Type} (f : Nat → α), ((foundL r day k).map f).length < sizeLine := fun f => small_lt (by rw [List.length_map]; exact Nat.lt_of_le_of_lt (found_len r day k) (by omega))
      have hz' : (foundL r day k).length < sizeLine := small_lt (Nat.lt_of_le_of_lt (found_len r day k) (by omega))
      by_cases hkd : (k : Int) < day
      · have ix : gIxA (.list (r.map PyData.int)) (.int ((day - (k : Int) - 1) % (r.length : Int))) = .ok (.int (tp r (day - (k : Int)))) := tp_ix h _
        have hs := seen_iff (r := r) hkd
        by_cases hf : freshB r day k = true
        · have hs' : ¬ tp r (day - (k : Int)) ∈ ((foundL r day k).map fun (b : Nat) => tp r (day - (b : Int))) := fun z => hs.mp z hf
          have g := g_nin_ints (tp r (day - (k : Int))) ((foundL r day k).map fun (b : Nat) => tp r (day - (b : Int)))
          rw [decide_eq_false hs'] at g
          simp [-List.map_map, hkd, g_mod hlp, ix, g, hz, hz', found_succ, hf, -g_nin_ints]
        · have hs' : tp r (day - (k : Int)) ∈ ((foundL r day k).map fun (b : Nat) => tp r (day - (b : Int))) := hs.mpr hf
          have g := g_nin_ints (tp r (day - (k : Int))) ((foundL r day k).map fun (b : Nat) => tp r (day - (b : Int)))
          rw [decide_eq_true hs'] at g
          simp [-List.map_map, hkd, g_mod hlp, ix, g, hz, hz', found_succ, hf, -g_nin_ints]
      · have hf : ¬ freshB r day k = true := fun z => hkd (fresh_iff.mp z).1
        simp [-List.map_map, hkd, found_succ, hf])
  rw [rngD_len] at h1
  simp [m__law_ages, b__law_ages, rng1_nat (show r.length ≤ 1000000 by omega), h1]

/-- behind k days from lo on: each tape's last day -/
structure Wr (r : List Int) (lo : Int) (k : Nat) (w : List (Int × Int)) : Prop where
  nd : (w.map (·.1)).Nodup
  len : w.length ≤ k
  mem : ∀ t e : Int, (t, e) ∈ w ↔ lo ≤ e ∧ e < lo + (k : Int) ∧ tp r e = t ∧ ∀ e' : Int, e < e' → e' < lo + (k : Int) → tp r e' ≠ t
theorem Wr.step {r : List Int} {lo : Int} {k : Nat} {w : List (Int × Int)} (h : Wr r lo k w) : Wr r lo (k + 1) (putI w (tp r (lo + (k : Int))) (lo + (k : Int))) := by
  refine ⟨keys_putI h.nd, Nat.le_trans len_putI (Nat.succ_le_succ h.len), fun t e => ?_⟩
  rw [mem_putI, h.mem]
  have e1 : lo + ((k + 1 : Nat) : Int) = lo + (k : Int) + 1 := by omega
  rw [e1]
  constructor
  · rintro (⟨rfl, rfl⟩ | ⟨h1, h2, h3, h4, h5⟩)
    · exact ⟨by omega, by omega, rfl, fun e' h6 h7 => by omega⟩
    · refine ⟨h2, by omega, h4, fun e' h6 h7 h8 => ?_⟩
      by_cases h9 : e' = lo + (k : Int)
      · rw [h9] at h8
        exact h1 h8.symm
      · exact h5 e' h6 (by omega) h8
  · rintro ⟨h2, h3, h4, h5⟩
    by_cases h9 : e = lo + (k : Int)
    · left
      rw [h9] at h4
      exact ⟨h4.symm, h9⟩
    · right
      refine ⟨fun z => h5 (lo + (k : Int)) (by omega) (by omega) z.symm, h2, by omega, h4, fun e' h6 h7 => h5 e' h6 (by omega)⟩
theorem Wr.zero (r : List Int) (lo : Int) : Wr r lo 0 [] := ⟨.nil, Nat.le_refl _, fun t e => ⟨(fun h => nomatch h), fun ⟨h1, h2, _⟩ => by omega⟩⟩
theorem ages_sorted {r : List Int} {day : Int} (h0 : 0 ≤ day) {lo : Int} (hlo : lo = max 1 (day - (r.length : Int) + 1)) {k : Nat} (hk : k = (day + 1 - lo).toNat) (hr : 0 < r.length) {w : List (Int × Int)} (h : Wr r lo k w) : sortI (w.map fun p => day - p.2) = agesL r day := by
  have hlo1 : 1 ≤ lo := by rw [hlo]; exact Int.le_max_left _ _
  have hlo2 : day - (r.length : Int) + 1 ≤ lo := by rw [hlo]; exact Int.le_max_right _ _
  have hlo3 : lo = 1 ∨ lo = day - (r.length : Int) + 1 := by
    rw [hlo]
    rcases Int.le_total 1 (day - (r.length : Int) + 1) with z | z
    · right
      exact Int.max_eq_right z
    · left
      exact Int.max_eq_left z
  have hk' : lo + (k : Int) = day + 1 := by omega
  have mem := h.mem
  rw [hk'] at mem
  have nd1 : (w.map fun p => day - p.2).Nodup := by
    have hp := List.pairwise_map.mp h.nd
    refine List.pairwise_map.mpr (List.Pairwise.imp_of_mem (fun {p q} hp hq hne z => ?_) hp)
    have e1 : p.2 = q.2 := by omega
    have m1 := (mem p.1 p.2).mp hp
    have m2 := (mem q.1 q.2).mp hq
    exact hne (by rw [← m1.2.2.1, ← m2.2.2.1, e1])
  have pw : (agesL r day).Pairwise (· < ·) := by
    refine List.pairwise_map.mpr ((List.pairwise_lt_range.filter _).imp fun {a b} hab => ?_)
    omega
  have nd2 : (agesL r day).Nodup := pw.imp fun hab z => by omega
  refine sorted_eq ((sortI_perm _).trans ((List.perm_ext_iff_of_nodup nd1 nd2).mpr fun x => ?_)) (sortI_le _) (pw.imp fun hab => Int.le_of_lt hab)
  rw [List.mem_map, List.mem_map]
  constructor
  · rintro ⟨⟨t, e⟩, hp, rfl⟩
    obtain ⟨h1, h2, h3, h4⟩ := (mem t e).mp hp
    refine ⟨(day - e).toNat, found_mem.mpr ⟨by omega, fresh_iff.mpr ⟨by omega, fun b hb z => ?_⟩⟩, by omega⟩
    rw [show day - (((day - e).toNat : Nat) : Int) = e by omega, h3] at z
    exact h4 (day - (b : Int)) (by omega) (by omega) z
  · rintro ⟨a, ha, rfl⟩
    obtain ⟨h1, h2⟩ := found_mem.mp ha
    obtain ⟨h3, h4⟩ := fresh_iff.mp h2
    refine ⟨(tp r (day - (a : Int)), day - (a : Int)), (mem _ _).mpr ⟨by omega, by omega, rfl, fun e' h5 h6 z => ?_⟩, by show day - (day - (a : Int)) = (a : Int); omega⟩
    have := h4 (day - e').toNat (by omega)
    rw [show day - (((day - e').toNat : Nat) : Int) = e' by omega] at this
    exact this z
theorem ages_of_eq {r : List Int} (h : r ≠ []) (hl : r.length ≤ 16) {day : Int} (h0 : 0 ≤ day) (h1 : day ≤ 9999) : m_ages_of [li r, .int day] = .ok (li (agesL r day)) := by
  have hr : 0 < r.length := List.length_pos_iff.mpr h
  have hlp : 0 < (r.length : Int) := by omega
  have hlo1 : 1 ≤ max 1 (day - (r.length : Int) + 1) := Int.le_max_left _ _
  have hlo2 : day - (r.length : Int) + 1 ≤ max 1 (day - (r.length : Int) + 1) := Int.le_max_right _ _
  have hlo3 : max 1 (day - (r.length : Int) + 1) ≤ day + 1 := Int.max_le.mpr ⟨by omega, by omega⟩
  generalize hlo : max 1 (day - (r.length : Int) + 1) = lo at hlo1 hlo2 hlo3
  obtain ⟨ρ', e1, w, a, rfl, hw⟩ := forL_run (tg := tgN 3) (b := sSeq (sSetI 2 (s2 gIxA (sVar 0) (s2 gMod (s2 gSub (sVar 3) (sC (.int 1))) (sCall gLen (aCons (sVar 0) aNil)))) (sVar 3)) (fun ρ => .nx ρ))
    (fun k ρ => ∃ w a, ρ = [some (li r), some (.int day), some (.dict (encI w)), a, none] ∧ Wr r lo k w) (rngD lo (day + 1 - lo).toNat) [some (li r), some (.int day), some (.dict []), none, none] ⟨[], none, rfl, Wr.zero r lo⟩ (by
      rintro k d ρ hd ⟨w, a, rfl, hw⟩
      obtain ⟨hk, rfl⟩ := rngD_get hd
      have ix := tp_ix h (lo + (k : Int))
      have st := gSet_encI (w := w) (tp r (lo + (k : Int))) (lo + (k : Int)) (by have := hw.len; omega)
      refine ⟨_, ?_, _, some (.int (lo + (k : Int))), rfl, hw.step⟩
      simp [g_mod hlp, ix, st])
  rw [rngD_len] at hw
  have key : compL 4 bYes (s2 gSub (sVar 1) (s2 gIxA (sVar 2) (sVar 4))) [some (li r), some (.int day), some (lk (encI w)), a, none] (w.map fun p => .int p.1) = .ok (w.map fun p => .int (day - p.2)) := compL_mapl (fun p : Int × Int => .int p.1) (fun p => .int (day - p.2)) fun p hp => by
    have := ix_lk_encI (t := p.1) (e := p.2) hw.nd hp
    simp [this]
  have hz : w.length ≤ sizeLine := by
    refine size_small ?_
    have := hw.len
    omega
  have hif : ∀ d : D, rIf (w.length ≤ sizeLine) d = .ok d := fun d => rIf_pos hz
  have hs := Pu.g_sorted (w.map fun p => day - p.2)
  rw [ages_sorted h0 hlo.symm rfl hr hw, List.map_map] at hs
  have hrng : gRange2 [.int lo, .int (day + 1)] = .ok (rngD lo (day + 1 - lo).toNat) := rng2_is (by omega) (by omega)
  have hkeys : ((encI w).map (·.1)) = w.map fun p => (.int p.1 : D) := by
    unfold encI
    rw [List.map_map]
    rfl
  have hkd := keyed_encI w
  have hc : (fun (p : Int × Int) => (PyData.int (day - p.2) : D)) = PyData.int ∘ fun p => day - p.2 := rfl
  simp only [m_ages_of, b_ages_of, e_data, List.map_cons, List.map_nil, List.length_cons, List.length_nil, List.reduceReplicate, Nat.zero_add, Nat.reduceAdd, Nat.reduceSub, List.cons_append, List.nil_append, e_seq, e_set, e_C, R.kont_ok, List.set_cons_succ, List.set_cons_zero, F.thn_nx, e_for, e_rng2, e_acons, e_call, e_anil, e_s2, e_var, R.bind_ok]
  simp [hlo, hrng, e1, hkd, e_comp, hkeys, key, hif, hs, hc]

/-! ### the gap -/
def hasB (ns : List Int) (lo hi : Int) : Bool := ns.any fun a => decide (lo ≤ a) && decide (a ≤ hi)
theorem has_age_eq (ns : List Int) (lo hi : Int) : m_has_age [li ns, .int lo, .int hi] = .ok (.bool (hasB ns lo hi)) := by
  have go := forL_find (tg := tgN 3) (b := sSeq (sIfS (tB' (sChain gLe gLe (sVar 1) (sVar 3) (sVar 2))) (sSeq (sRet (sC (.bool true))) (fun ρ => .nx ρ)) (fun ρ => .nx ρ)) (fun ρ => .nx ρ))
    (fun _ ρ => ∃ a, ρ = [some (li ns), some (.int lo), some (.int hi), a]) (fun k => (ns[k]?).elim false fun a => decide (lo ≤ a) && decide (a ≤ hi)) (fun _ => .bool true) (ns.map PyData.int) 0 [some (li ns), some (.int lo), some (.int hi), none] ⟨none, rfl⟩ (by
      rintro k d ρ hd ⟨a, rfl⟩
      rw [Nat.zero_add]
      rw [List.getElem?_map] at hd
      cases hn : ns[k]? with
      | none =>
        rw [hn] at hd
        cases hd
      | some n =>
        rw [hn] at hd
        cases hd
        refine ⟨_, rfl, ?_⟩
        by_cases h1 : lo ≤ n
        · by_cases h2 : n ≤ hi
          · left
            simp [h1, h2]
          · right
            simp [h1, h2]
        · right
          simp [h1])
  rcases go with ⟨k, hk, hp, hj, e⟩ | ⟨hj, ρ', e, a, rfl⟩
  · rw [Nat.zero_add] at hp
    have hb : hasB ns lo hi = true := by
      cases hn : ns[k]? with
      | none =>
        rw [hn] at hp
        cases hp
      | some n =>
        rw [hn] at hp
        exact List.any_eq_true.mpr ⟨n, List.mem_of_getElem? hn, hp⟩
    simp [m_has_age, b_has_age, e, hb]
  · have hb : hasB ns lo hi = false := any_get fun j a ha => by
      have hj' : j < (ns.map PyData.int).length := by
        rw [List.length_map]
        exact (List.getElem?_eq_some_iff.mp ha).1
      have := hj j hj'
      rw [Nat.zero_add, ha] at this
      exact this
    simp [m_has_age, b_has_age, e, hb]
theorem num_int {i lo hi : Int} (h1 : lo ≤ i) (h2 : i ≤ hi) : numB (.int i) lo hi = true := by simp [numB, h1, h2]
/-- a row that is taken -/
structure Rot (r : List Int) : Prop where
  ne : r ≠ []
  len : r.length ≤ 16
  mem : ∀ i ∈ r, 0 ≤ i ∧ i ≤ 7
theorem Rot.chk {r : List Int} (h : Rot r) {v : D} (hv : seqD v (r.map PyData.int)) : m_check_rotation [v] = .ok (li r) := by
  have := csr_good hv (by simpa using h.ne) (by simpa using h.len) (fun d hd => by
    obtain ⟨i, _, rfl⟩ := List.mem_map.mp hd
    rfl) fun d hd => by
    obtain ⟨i, hi, rfl⟩ := List.mem_map.mp hd
    exact num_int (h.mem i hi).1 (h.mem i hi).2
  simp [m_check_rotation, b_check_rotation, this]
theorem ages_eq {r : List Int} (h : Rot r) {v : D} (hv : seqD v (r.map PyData.int)) {day : Int} (h0 : 0 ≤ day) (h1 : day ≤ 9999) : m_ages [v, .int day] = .ok (li (agesL r day)) := by
  have c := check_number_ok (v := .int day) rfl (.str "day") (num_int h0 h1)
  simp [m_ages, b_ages, h.chk hv, c, ages_of_eq h.ne h.len h0 h1]
abbrev gapP (r : List Int) (lo hi : Int) : Int → Bool := fun d => hasB (agesL r d) lo hi
theorem first_gap_eq {r : List Int} (h : Rot r) {v : D} (hv : seqD v (r.map PyData.int)) {lo hi : Int} (h0 : 0 ≤ lo) (h1 : lo ≤ hi) (h2 : hi ≤ 30) : m_first_gap [v, .int lo, .int hi] = .ok (optD (firstD (gapP r lo hi) r.length r.length)) := by
  have hl := h.len
  have hp : 0 < r.length := List.length_pos_iff.mpr h.ne
  have c1 := check_number_ok (v := .int lo) rfl (.str "low") (num_int h0 (show lo ≤ 30 by omega))
  have c2 := check_number_ok (v := .int hi) rfl (.str "high") (num_int h1 h2)
  have rng : gRange2 [.int (r.length : Int), .int (2 * (r.length : Int))] = .ok (rngD (r.length : Int) r.length) := by
    rw [rng2_is (by omega) (by omega)]
    congr 2
    omega
  have go := forL_first (i := 3) (b := sSeq (sIfS (tNot' (tB' (sAtom (sCall m_has_age (aCons (sCall m_ages_of (aCons (sVar 0) (aCons (sVar 3) aNil))) (aCons (sVar 1) (aCons (sVar 2) aNil))))))) (sSeq (sRet (sVar 3)) (fun ρ => .nx ρ)) (fun ρ => .nx ρ)) (fun ρ => .nx ρ))
    (gapP r lo hi) (fun ρ => ∃ a, ρ = [some (li r), some (.int lo), some (.int hi), a]) r.length (r.length : Int) [some (li r), some (.int lo), some (.int hi), none] ⟨none, rfl⟩ (by
      rintro d ρ hd1 hd2 ⟨a, rfl⟩
      have e1 := ages_of_eq h.ne hl (day := d) (by omega) (by omega)
      have e2 := has_age_eq (agesL r d) lo hi
      constructor
      · intro q
        have q' : hasB (agesL r d) lo hi = true := q
        rw [q'] at e2
        simp [e1, e2]
      · intro q
        have q' : hasB (agesL r d) lo hi = false := q
        rw [q'] at e2
        simp [e1, e2])
  have gm : gMul (.int 2) (.int (r.length : Int)) = .ok (.int (2 * (r.length : Int))) := g_mul (by omega)
  rcases go with ⟨d, e1, e2⟩ | ⟨e1, ρ', e2, a, rfl⟩
  · simp [m_first_gap, b_first_gap, h.chk hv, c1, c2, gm, rng, e2, e1, optD]
  · simp [m_first_gap, b_first_gap, h.chk hv, c1, c2, gm, rng, e2, e1, optD]

theorem filter_none {ns : List Int} {lo hi : Int} (h : hasB ns lo hi = false) : (ns.filter fun a => decide (lo ≤ a) && decide (a ≤ hi)) = [] := by
  rw [List.filter_eq_nil_iff]
  intro a ha z
  unfold hasB at h
  rw [List.any_eq_false] at h
  exact h a ha z
theorem filter_some {ns : List Int} {lo hi : Int} (h : hasB ns lo hi = true) : (ns.filter fun a => decide (lo ≤ a) && decide (a ≤ hi)) ≠ [] := by
  intro z
  obtain ⟨a, ha, hp⟩ := List.any_eq_true.mp h
  have : a ∈ ns.filter fun a => decide (lo ≤ a) && decide (a ≤ hi) := List.mem_filter.mpr ⟨ha, hp⟩
  rw [z] at this
  cases this
theorem law_gap_eq {r : List Int} (h : Rot r) {lo hi : Int} : m__law_gap [li r, .int lo, .int hi] = .ok (optD (firstD (gapP r lo hi) r.length 40)) := by
  have hl := h.len
  have rng : gRange2 [.int (r.length : Int), .int ((r.length : Int) + 40)] = .ok (rngD (r.length : Int) 40) := by
    rw [rng2_is (by omega) (by omega)]
    congr 2
    omega
  have go := forL_first (i := 3) (b := sSeq (sSet 4 (sComp 5 (sIterA (sCall m__law_ages (aCons (sVar 0) (aCons (sVar 3) aNil)))) (tB' (sChain gLe gLe (sVar 1) (sVar 5) (sVar 2))) (sVar 5))) (sSeq (sIfS (tB' (s2 gEq (sCall gLen (aCons (sVar 4) aNil)) (sC (.int 0)))) (sSeq (sRet (sVar 3)) (fun ρ => .nx ρ)) (fun ρ => .nx ρ)) (fun ρ => .nx ρ)))
    (gapP r lo hi) (fun ρ => ∃ x a, ρ = [some (li r), some (.int lo), some (.int hi), x, a, none]) 40 (r.length : Int) [some (li r), some (.int lo), some (.int hi), none, none, none] ⟨none, none, rfl⟩ (by
      rintro d ρ hd1 hd2 ⟨x, a, rfl⟩
      have e1 := law_ages_eq h.ne hl d
      have hn : (agesL r d).length ≤ 16 := by
        rw [List.length_map]
        exact Nat.le_trans (found_len _ _ _) hl
      show (hasB (agesL r d) lo hi = true → _) ∧ (hasB (agesL r d) lo hi = false → _)
      generalize agesL r d = ns at e1 hn
      have ck : compL 5 (tB' (sChain gLe gLe (sVar 1) (sVar 5) (sVar 2))) (sVar 5) [some (li r), some (.int lo), some (.int hi), some (.int d), a, none] (ns.map PyData.int) = .ok ((ns.filter fun a => decide (lo ≤ a) && decide (a ≤ hi)).map PyData.int) :=
        compL_filterl PyData.int PyData.int _ (fun t _ => by by_cases z : lo ≤ t <;> simp [z]) (fun t _ _ => by simp)
      have hif : ∀ t : D, rIf (ns.length ≤ sizeLine) t = .ok t := fun t => rIf_pos (size_small (by omega))
      constructor
      · intro q
        have q' := filter_some q
        have q2 : ¬ (((ns.filter fun a => decide (lo ≤ a) && decide (a ≤ hi)).length : Nat) : Int) = 0 := fun z => q' (List.length_eq_zero_iff.mp (by omega))
        generalize (ns.filter fun a => decide (lo ≤ a) && decide (a ≤ hi)) = fs at ck q' q2
        simp [e1, e_comp, ck, hif, q', q2]
      · intro q
        have q' := filter_none q
        rw [q'] at ck
        simp [e1, e_comp, ck, hif])
  have gm : gAdd (.int (r.length : Int)) (.int 40) = .ok (.int ((r.length : Int) + 40)) := rfl
  rcases go with ⟨d, e1, e2⟩ | ⟨e1, ρ', e2, x, a, rfl⟩
  · simp [m__law_gap, b__law_gap, rng, e2, e1, optD]
  · simp [m__law_gap, b__law_gap, rng, e2, e1, optD]
theorem tp_per {r : List Int} (d : Int) : tp r (d + (r.length : Int)) = tp r d := by
  unfold tp
  rw [show d + (r.length : Int) - 1 = d - 1 + (r.length : Int) by omega, Int.add_emod_right]
theorem ages_per {r : List Int} {d : Int} (h : (r.length : Int) ≤ d) : agesL r (d + (r.length : Int)) = agesL r d := by
  have e : foundL r (d + (r.length : Int)) r.length = foundL r d r.length := by
    unfold foundL
    refine List.filter_congr fun a ha => ?_
    have ha' := List.mem_range.mp ha
    have key : freshB r (d + (r.length : Int)) a = true ↔ freshB r d a = true := by
      rw [fresh_iff, fresh_iff]
      have sh : ∀ b : Nat, tp r (d + (r.length : Int) - (b : Int)) = tp r (d - (b : Int)) := fun b => by
        rw [show d + (r.length : Int) - (b : Int) = d - (b : Int) + (r.length : Int) by omega, tp_per]
      constructor
      · rintro ⟨_, q⟩
        exact ⟨by omega, fun b hb z => q b hb (by rw [sh, sh]; exact z)⟩
      · rintro ⟨_, q⟩
        exact ⟨by omega, fun b hb z => q b hb (by rw [sh, sh] at z; exact z)⟩
    cases h1 : freshB r (d + (r.length : Int)) a <;> cases h2 : freshB r d a
    · rfl
    · rw [key.mpr h2] at h1
      cases h1
    · rw [key.mp h1] at h2
      cases h2
    · rfl
  unfold agesL
  rw [e]
theorem gap_same {r : List Int} (h : Rot r) (lo hi : Int) : firstD (gapP r lo hi) r.length 40 = firstD (gapP r lo hi) r.length r.length := by
  have hl := h.len
  have hp : 0 < r.length := List.length_pos_iff.mpr h.ne
  cases e : firstD (gapP r lo hi) r.length r.length with
  | some d => exact firstD_some e (by omega)
  | none =>
    rw [firstD_none] at e ⊢
    have all : ∀ m : Nat, ∀ d : Int, (r.length : Int) ≤ d → d < (r.length : Int) + ((m + 1 : Nat) : Int) * (r.length : Int) → gapP r lo hi d = true := by
      intro m
      induction m with
      | zero =>
        intro d h1 h2
        exact e d h1 (by simpa using h2)
      | succ m ih =>
        intro d h1 h2
        by_cases h3 : d < (r.length : Int) + ((m + 1 : Nat) : Int) * (r.length : Int)
        · exact ih d h1 h3
        · have h4 : (r.length : Int) ≤ ((m + 1 : Nat) : Int) * (r.length : Int) := by
            have : (1 : Int) * (r.length : Int) ≤ ((m + 1 : Nat) : Int) * (r.length : Int) := Int.mul_le_mul_of_nonneg_right (by omega) (by omega)
            omega
          have h5 : ((m + 1 + 1 : Nat) : Int) * (r.length : Int) = ((m + 1 : Nat) : Int) * (r.length : Int) + (r.length : Int) := by
            rw [show ((m + 1 + 1 : Nat) : Int) = ((m + 1 : Nat) : Int) + 1 by omega, Int.add_mul, Int.one_mul]
          have h6 := ih (d - (r.length : Int)) (by omega) (by omega)
          show hasB (agesL r d) lo hi = true
          rw [show d = d - (r.length : Int) + (r.length : Int) by omega, ages_per (by omega)]
          exact h6
    intro d h1 h2
    refine all 40 d h1 ?_
    have : (41 : Int) * 1 ≤ (41 : Int) * (r.length : Int) := Int.mul_le_mul_of_nonneg_left (by omega) (by omega)
    show d < (r.length : Int) + (41 : Int) * (r.length : Int)
    omega
theorem gap_fits_eq {r : List Int} (h : Rot r) {v : D} (hv : seqD v (r.map PyData.int)) {lo hi : Int} (h0 : 0 ≤ lo) (h1 : lo ≤ hi) (h2 : hi ≤ 30) : m__law_gap_fits [li r, v, .int lo, .int hi] = .ok (.bool true) := by
  have e1 := first_gap_eq h hv h0 h1 h2
  have e2 := law_gap_eq h (lo := lo) (hi := hi)
  rw [gap_same h] at e2
  cases e : firstD (gapP r lo hi) r.length r.length with
  | none =>
    rw [e] at e1 e2
    simp [m__law_gap_fits, b__law_gap_fits, e1, e2, optD]
  | some d =>
    rw [e] at e1 e2
    have e3 := is_num_eq (v := .int d) rfl
    simp at e3
    simp [m__law_gap_fits, b__law_gap_fits, e1, e2, optD, e3]

/-! ### what is refused -/
theorem can_levels : PyData.canLay0 (.str "levels") = true := by decide +kernel
theorem can_many : PyData.canLay0 (.str "many") = true := by decide +kernel
theorem can_number : PyData.canLay0 (.str "number") = true := by decide +kernel
theorem can_day : PyData.canLay0 (.str "day") = true := by decide +kernel
theorem can_low : PyData.canLay0 (.str "low") = true := by decide +kernel
theorem can_high : PyData.canLay0 (.str "high") = true := by decide +kernel
theorem t_LL : Tbl.get tb "BadLevels" "BadLevels" = some true := by decide +kernel
theorem t_LT : Tbl.get tb "BadLevels" "TooMany" = some false := by decide +kernel
theorem t_LN : Tbl.get tb "BadLevels" "BadNumber" = some false := by decide +kernel
theorem t_LV : Tbl.get tb "BadLevels" "VaultError" = some true := by decide +kernel
theorem t_TL : Tbl.get tb "TooMany" "BadLevels" = some false := by decide +kernel
theorem t_TT : Tbl.get tb "TooMany" "TooMany" = some true := by decide +kernel
theorem t_TN : Tbl.get tb "TooMany" "BadNumber" = some false := by decide +kernel
theorem t_TV : Tbl.get tb "TooMany" "VaultError" = some true := by decide +kernel
theorem t_NL : Tbl.get tb "BadNumber" "BadLevels" = some false := by decide +kernel
theorem t_NT : Tbl.get tb "BadNumber" "TooMany" = some false := by decide +kernel
theorem t_NN : Tbl.get tb "BadNumber" "BadNumber" = some true := by decide +kernel
theorem t_NV : Tbl.get tb "BadNumber" "VaultError" = some true := by decide +kernel
theorem n_L : ("BadLevels" : Str) ∈ nf := by decide +kernel
theorem n_T : ("TooMany" : Str) ∈ nf := by decide +kernel
theorem n_N : ("BadNumber" : Str) ∈ nf := by decide +kernel
/-- the door's answer -/
def door (o : Int) (v a b : D) : R D := if o = 0 then m_ages [v, a] else m_first_gap [v, a, b]
theorem ref_levels {o : Int} {v a b : D} {p : Int} (h : door o v a b = .ex "BadLevels" [("at", .int p)]) : m__law_refusal [.int o, v, a, b] = .ok (tri "levels" (.int p) true) := by
  have x1 := fun ρ => e_xf (f := "at") (d := .int p) n_L rfl ρ
  have e3 := is_num_eq (v := .int p) rfl
  simp at e3
  unfold door at h
  by_cases z : o = 0
  · rw [if_pos z] at h
    simp [m__law_refusal, b__law_refusal, z, h, try_yes t_LL, e_isx t_LT, e_isx t_LN, e_isx t_LV, e_isv n_L, x1, e3, tri]
  · rw [if_neg z] at h
    simp [m__law_refusal, b__law_refusal, z, h, try_yes t_LL, e_isx t_LT, e_isx t_LN, e_isx t_LV, e_isv n_L, x1, e3, tri]
theorem ref_many {o : Int} {v a b : D} {p : Int} (h : door o v a b = .ex "TooMany" [("limit", .int p)]) : m__law_refusal [.int o, v, a, b] = .ok (tri "many" (.int p) true) := by
  have x1 := fun ρ => e_xf (f := "limit") (d := .int p) n_T rfl ρ
  have e3 := is_num_eq (v := .int p) rfl
  simp at e3
  unfold door at h
  by_cases z : o = 0
  · rw [if_pos z] at h
    simp [m__law_refusal, b__law_refusal, z, h, try_no t_TL, try_yes t_TT, e_isx t_TN, e_isx t_TV, x1, e3, tri]
  · rw [if_neg z] at h
    simp [m__law_refusal, b__law_refusal, z, h, try_no t_TL, try_yes t_TT, e_isx t_TN, e_isx t_TV, x1, e3, tri]
theorem ref_number {o : Int} {v a b : D} {s : Str} (h : door o v a b = .ex "BadNumber" [("what", .str s)]) : m__law_refusal [.int o, v, a, b] = .ok (tri "number" (.str s) true) := by
  have x1 := fun ρ => e_xf (f := "what") (d := .str s) n_N rfl ρ
  unfold door at h
  by_cases z : o = 0
  · rw [if_pos z] at h
    simp [m__law_refusal, b__law_refusal, z, h, try_no t_NL, try_no t_NT, try_yes t_NN, e_isx t_NV, x1, tri]
  · rw [if_neg z] at h
    simp [m__law_refusal, b__law_refusal, z, h, try_no t_NL, try_no t_NT, try_yes t_NN, e_isx t_NV, x1, tri]
theorem door_row {v : D} {c : Str} {fs : List (Str × D)} (h : m_check_small_row [v, .int 16] = .ex c fs) (o : Int) (a b : D) : door o v a b = .ex c fs := by
  have e : m_check_rotation [v] = .ex c fs := by simp [m_check_rotation, b_check_rotation, h]
  unfold door
  split
  · simp [m_ages, b_ages, e]
  · simp [m_first_gap, b_first_gap, e]
theorem refused_levels {v : D} {p : Int} (h : m_check_small_row [v, .int 16] = .ex "BadLevels" [("at", .int p)]) : m__law_refused [v, tri "levels" (.int p) true] = .ok (.bool true) := by
  have e := fun o a b => ref_levels (door_row h o a b)
  have n := ne_tri (b := true) can_levels (can_int p) rfl
  have q := eq_tri (b := true) can_levels (can_int p) rfl
  simp [m__law_refused, b__law_refused, e, n, q]
theorem refused_many {v : D} {p : Int} (h : m_check_small_row [v, .int 16] = .ex "TooMany" [("limit", .int p)]) : m__law_refused [v, tri "many" (.int p) true] = .ok (.bool true) := by
  have e := fun o a b => ref_many (door_row h o a b)
  have n := ne_tri (b := true) can_many (can_int p) rfl
  have q := eq_tri (b := true) can_many (can_int p) rfl
  simp [m__law_refused, b__law_refused, e, n, q]

/-! ### wrong numbers -/
theorem li_seq (r : List Int) : seqD (li r) (r.map PyData.int) := .inl rfl
theorem door_day {r : List Int} (h : Rot r) {d b : D} (hs : isScr d = false) (hd : numB d 0 9999 = false) : door 0 (li r) d b = .ex "BadNumber" [("what", .str "day")] := by
  have c := check_number_no hs "day" hd
  unfold door
  simp [m_ages, b_ages, h.chk (li_seq r), c]
theorem door_low {r : List Int} (h : Rot r) {d b : D} (hs : isScr d = false) (hd : numB d 0 30 = false) : door 1 (li r) d b = .ex "BadNumber" [("what", .str "low")] := by
  have c := check_number_no hs "low" hd
  unfold door
  simp [m_first_gap, b_first_gap, h.chk (li_seq r), c]
theorem door_high {r : List Int} (h : Rot r) {lo : Int} (h0 : 0 ≤ lo) (h1 : lo ≤ 30) {d : D} (hs : isScr d = false) (hd : numB d lo 30 = false) : door 1 (li r) (.int lo) d = .ex "BadNumber" [("what", .str "high")] := by
  have c1 := check_number_ok (v := .int lo) rfl (.str "low") (num_int h0 h1)
  have c := check_number_no hs "high" hd
  unfold door
  simp [m_first_gap, b_first_gap, h.chk (li_seq r), c1, c]
theorem numbers_refused_eq {r : List Int} (h : Rot r) {lo : Int} (h0 : 0 ≤ lo) (h1 : lo ≤ 30) : m__law_numbers_refused [li r, .int lo] = .ok (.bool true) := by
  have nD := ne_tri (b := true) can_number can_day rfl
  have nL := ne_tri (b := true) can_number can_low rfl
  have nH := ne_tri (b := true) can_number can_high rfl
  have qH := eq_tri (b := true) can_number can_high rfl
  obtain ⟨ρ1, e1, a1, rfl⟩ := forL_run (tg := tgN 2) (b := sSeq (sIfS (tB' (s2 gNe (sCall m__law_refusal (aCons (sC (.int 0)) (aCons (sVar 0) (aCons (sVar 2) (aCons (sC (.int 0)) aNil))))) (sCall (gSize .tuple) (aCons (sC (.str "number")) (aCons (sC (.str "day")) (aCons (sC (.bool true)) aNil)))))) (sSeq (sRet (sC (.bool false))) (fun ρ => .nx ρ)) (fun ρ => .nx ρ)) (fun ρ => .nx ρ))
    (fun _ ρ => ∃ a, ρ = [some (li r), some (.int lo), a, none]) [.int (-1), .int 10000, .bool true, .none, .str "5", .list [.int 5]] [some (li r), some (.int lo), none, none] ⟨none, rfl⟩ (by
      rintro k d ρ hd ⟨a, rfl⟩
      have hm := List.mem_of_getElem? hd
      have hq : isScr d = false ∧ numB d 0 9999 = false := by
        simp only [List.mem_cons, List.not_mem_nil, or_false] at hm
        rcases hm with rfl | rfl | rfl | rfl | rfl | rfl <;> exact ⟨rfl, by decide⟩
      have e := ref_number (door_day h (b := .int 0) hq.1 hq.2)
      unfold tri at e nD
      simp [e, nD])
  obtain ⟨ρ2, e2, a2, rfl⟩ := forL_run (tg := tgN 3) (b := (sSeq (sIfS (tB' (s2 gNe (sCall m__law_refusal (aCons (sC (.int 1)) (aCons (sVar 0) (aCons (sVar 3) (aCons (sC (.int 30)) aNil))))) (sCall (gSize .tuple) (aCons (sC (.str "number")) (aCons (sC (.str "low")) (aCons (sC (.bool true)) aNil)))))) (sSeq (sRet (sC (.bool false))) (fun ρ => .nx ρ)) (fun ρ => .nx ρ)) (sSeq (sIfS (tB' (s2 gNe (sCall m__law_refusal (aCons (sC (.int 1)) (aCons (sVar 0) (aCons (sVar 3) (aCons (sC .none) aNil))))) (sCall (gSize .tuple) (aCons (sC (.str "number")) (aCons (sC (.str "low")) (aCons (sC (.bool true)) aNil)))))) (sSeq (sRet (sC (.bool false))) (fun ρ => .nx ρ)) (fun ρ => .nx ρ)) (sSeq (sIfS (tB' (s2 gNe (sCall m__law_refusal (aCons (sC (.int 1)) (aCons (sVar 0) (aCons (sVar 1) (aCons (sVar 3) aNil))))) (sCall (gSize .tuple) (aCons (sC (.str "number")) (aCons (sC (.str "high")) (aCons (sC (.bool true)) aNil)))))) (sSeq (sRet (sC (.bool false))) (fun ρ => .nx ρ)) (fun ρ => .nx ρ)) (fun ρ => .nx ρ)))))
    (fun _ ρ => ∃ a, ρ = [some (li r), some (.int lo), a1, a]) [.int (-1), .int 31, .bool true, .none, .str "5", .list [.int 5]] [some (li r), some (.int lo), a1, none] ⟨none, rfl⟩ (by
      rintro k d ρ hd ⟨a, rfl⟩
      have hm := List.mem_of_getElem? hd
      have hq : isScr d = false ∧ numB d 0 30 = false ∧ numB d lo 30 = false := by
        simp only [List.mem_cons, List.not_mem_nil, or_false] at hm
        rcases hm with rfl | rfl | rfl | rfl | rfl | rfl
        · refine ⟨rfl, by decide, ?_⟩
          show (decide (lo ≤ -1) && _) = false
          rw [decide_eq_false (by omega), Bool.false_and]
        · refine ⟨rfl, by decide, ?_⟩
          show (_ && decide ((31 : Int) ≤ 30)) = false
          rw [Bool.and_comm]
          rfl
        · exact ⟨rfl, rfl, rfl⟩
        · exact ⟨rfl, rfl, rfl⟩
        · exact ⟨rfl, rfl, rfl⟩
        · exact ⟨rfl, rfl, rfl⟩
      have ea := ref_number (door_low h (b := .int 30) hq.1 hq.2.1)
      have eb := ref_number (door_low h (b := .none) hq.1 hq.2.1)
      have ec := ref_number (door_high h h0 h1 hq.1 hq.2.2)
      unfold tri at ea eb ec nL nH
      simp [ea, eb, ec, nL, nH])
  have hlast : numB (.int (lo - 1)) lo 30 = false := by
    show (decide (lo ≤ lo - 1) && _) = false
    rw [decide_eq_false (by omega), Bool.false_and]
  have el := ref_number (door_high h h0 h1 (d := .int (lo - 1)) rfl hlast)
  unfold tri at el qH
  simp [m__law_numbers_refused, b__law_numbers_refused, e1, e2, el, qH]
theorem are_numbers_eq (a : List Int) (h : a.length ≤ 1000000) : m__law_are_numbers [li a, li a] = .ok (.bool true) := by
  obtain ⟨ρ1, e1, a1, rfl⟩ := forL_run (tg := tgN 2) (b := sSeq (sIfS (tOr' (tNot' (tB' (sCall m__law_is_number (aCons (s2 gIxA (sVar 0) (sVar 2)) aNil)))) (tB' (s2 gNe (s2 gIxA (sVar 0) (sVar 2)) (s2 gIxA (sVar 1) (sVar 2))))) (sSeq (sRet (sC (.bool false))) (fun ρ => .nx ρ)) (fun ρ => .nx ρ)) (fun ρ => .nx ρ))
    (fun _ ρ => ∃ x, ρ = [some (li a), some (li a), x]) (rngD 0 a.length) [some (li a), some (li a), none] ⟨none, rfl⟩ (by
      rintro k d ρ hd ⟨x, rfl⟩
      obtain ⟨hk, rfl⟩ := rngD_get hd
      have ix := ix_li (List.getElem?_eq_getElem hk)
      have e3 := is_num_eq (v := .int a[k]) rfl
      simp at e3
      simp [ix, e3])
  have rg := rng1_nat h
  simp [m__law_are_numbers, b__law_are_numbers, rg, e1]

/-! ### the script's numbers -/
theorem cell_eq (ns : List Int) (k : Nat) (hk : k ≤ 1000) : ∃ v : Int, m__law_cell [scrD ns, .int (k : Nat)] = .ok (.int v) := by
  by_cases h : k < ns.length
  · have ix := ix_scr_at (List.getElem?_eq_getElem h)
    have h' : (k : Int) < (ns.length : Int) := by omega
    exact ⟨ns[k], by simp [m__law_cell, b__law_cell, h, h', ix]⟩
  · have h' : ¬ (k : Int) < (ns.length : Int) := by omega
    have gm : gMul (.int 7919) (.int (k : Int)) = .ok (.int (7919 * (k : Int))) := g_mul (.inl (by decide))
    by_cases h0 : ns.length = 0
    · have hk0 : ¬ (k : Int) < 0 := by omega
      exact ⟨7919 * (k : Int), by simp [m__law_cell, b__law_cell, h0, hk0, gm]⟩
    · have hl : 0 < (ns.length : Int) := by omega
      have hm := Nat.mod_lt k (show ns.length > 0 by omega)
      have ix := ix_scr_at (List.getElem?_eq_getElem hm)
      have e : (k : Int) % (ns.length : Int) = ((k % ns.length : Nat) : Int) := by omega
      have g1 := g_mod (i := (k : Int)) hl
      rw [← e] at ix
      have g2 := fun x : Int => g_mod (i := x) (j := 1000003) (by decide)
      have h0' : ns ≠ [] := fun z => h0 (by rw [z]; rfl)
      exact ⟨_, by simp [m__law_cell, b__law_cell, h, h', h0, h0', gm, g1, ix, g2]; rfl⟩
theorem row_eq (c : Int) (n : Nat) (hn : n ≤ 17) {s : Int} (hs : 1 ≤ s) (hs8 : s ≤ 8) : ∃ row : List Int, m__law_row [.int c, .int (n : Nat), .int s] = .ok (li row) ∧ row.length = n ∧ ∀ x ∈ row, 0 ≤ x ∧ x < s := by
  have gp : gPow (.int 10) (.int 18) = .ok (.int (10 ^ 18)) := g_pow (by decide)
  have ms := fun x : Int => g_mod (i := x) (j := s) (by omega)
  have fs := fun x : Int => g_fdiv (i := x) (j := s) (by omega)
  have m1 := fun x : Int => g_mod (i := x) (j := 2147483647) (by decide)
  have m2 := fun x : Int => g_mod (i := x) (j := 2147483629) (by decide)
  have m3 := fun x : Int => g_mod (i := x) (j := 2147483587) (by decide)
  have k1 := fun x : Int => g_mul (i := x) (j := 48271) (.inr (by decide))
  have k2 := fun x : Int => g_mul (i := x) (j := 69621) (.inr (by decide))
  have k3 := fun x : Int => g_mul (i := 13) (j := x) (.inl (by decide))
  have k4 := fun x y : Int => g_mul (i := x % 2147483647) (j := y) (.inl (by omega))
  have k5 := fun x y : Int => g_mul (i := x % 2147483629) (j := y) (.inl (by omega))
  obtain ⟨ρ1, e1, row, rest, a, b, rfl, hr1, hr2⟩ := forL_run (tg := tgN 5) (b := (sSeq (sIfS (tB' (s2 gGe (sVar 0) (s2 gPow (sC (.int 10)) (sC (.int 18))))) (sSeq (sApp 3 (s2 gMod (sCall gInt (aCons (sVar 4) aNil)) (sVar 2))) (sSeq (sSet 4 (s2 gFdiv (sVar 4) (sVar 2))) (fun ρ => .nx ρ))) (sSeq (sSet 6 (s2 gMod (sCall gInt (aCons (s2 gAdd (s2 gAdd (s2 gMul (s2 gMod (sCall gInt (aCons (sVar 0) aNil)) (sC (.int 2147483647))) (sC (.int 48271))) (s2 gMul (sVar 5) (sC (.int 69621)))) (sC (.int 11))) aNil)) (sC (.int 2147483647)))) (sSeq (sSet 6 (s2 gMod (sCall gInt (aCons (s2 gAdd (s2 gAdd (s2 gMul (sVar 6) (sVar 6)) (s2 gMul (sC (.int 13)) (sVar 5))) (sC (.int 5))) aNil)) (sC (.int 2147483629)))) (sSeq (sApp 3 (s2 gMod (s2 gMod (sCall gInt (aCons (s2 gAdd (s2 gMul (sVar 6) (s2 gAdd (sVar 6) (sC (.int 7)))) (sVar 5)) aNil)) (sC (.int 2147483587))) (sVar 2))) (fun ρ => .nx ρ))))) (fun ρ => .nx ρ)))
    (fun k ρ => ∃ row rest a b, ρ = [some (.int c), some (.int (n : Nat)), some (.int s), some (li row), some (.int rest), a, b] ∧ row.length = k ∧ ∀ x ∈ row, 0 ≤ x ∧ x < s) (rngD 0 n) [some (.int c), some (.int (n : Nat)), some (.int s), some (.list []), some (.int c), none, none] ⟨[], c, none, none, rfl, rfl, fun x hx => nomatch hx⟩ (by
      rintro k d ρ hd ⟨row, rest, a, b, rfl, hr1, hr2⟩
      obtain ⟨hk, rfl⟩ := rngD_get hd
      have hz : row.length < sizeLine := by
        rw [sizeLine_eq]
        omega
      have more : ∀ v : Int, (row ++ [v % s]).length = k + 1 ∧ ∀ x ∈ row ++ [v % s], 0 ≤ x ∧ x < s := fun v => by
        refine ⟨by rw [List.length_append, hr1]; rfl, fun x hx => ?_⟩
        rcases List.mem_append.mp hx with hx | hx
        · exact hr2 x hx
        · rw [List.mem_singleton.mp hx]
          exact ⟨Int.emod_nonneg _ (by omega), Int.emod_lt_of_pos _ (by omega)⟩
      by_cases hc : (1000000000000000000 : Int) ≤ c
      · refine ⟨[some (.int c), some (.int (n : Nat)), some (.int s), some (li (row ++ [rest % s])), some (.int (rest / s)), some (.int (0 + (k : Int))), b], ?_, _, _, _, _, rfl, more rest⟩
        simp only [tgN_is, Option.bind_some]
        simp [gp, hc, ms, fs, hz]
      · refine ⟨[some (.int c), some (.int (n : Nat)), some (.int s), some (li (row ++ [((((((c % 2147483647 * 48271 + (k : Int) * 69621 + 11) % 2147483647) * ((c % 2147483647 * 48271 + (k : Int) * 69621 + 11) % 2147483647) + 13 * (k : Int) + 5) % 2147483629) * (((((c % 2147483647 * 48271 + (k : Int) * 69621 + 11) % 2147483647) * ((c % 2147483647 * 48271 + (k : Int) * 69621 + 11) % 2147483647) + 13 * (k : Int) + 5) % 2147483629) + 7) + (k : Int)) % 2147483587) % s])), some (.int rest), some (.int (0 + (k : Int))), some (.int ((((c % 2147483647 * 48271 + (k : Int) * 69621 + 11) % 2147483647) * ((c % 2147483647 * 48271 + (k : Int) * 69621 + 11) % 2147483647) + 13 * (k : Int) + 5) % 2147483629))], ?_, _, _, _, _, rfl, more ((((((c % 2147483647 * 48271 + (k : Int) * 69621 + 11) % 2147483647) * ((c % 2147483647 * 48271 + (k : Int) * 69621 + 11) % 2147483647) + 13 * (k : Int) + 5) % 2147483629) * (((((c % 2147483647 * 48271 + (k : Int) * 69621 + 11) % 2147483647) * ((c % 2147483647 * 48271 + (k : Int) * 69621 + 11) % 2147483647) + 13 * (k : Int) + 5) % 2147483629) + 7) + (k : Int)) % 2147483587)⟩
        simp only [tgN_is, Option.bind_some]
        simp [gp, hc, ms, fs, hz, m1, m2, m3, k1, k2, k3, k4, k5])
  rw [rngD_len] at hr1
  have rg : gRange1 [.int (n : Int)] = .ok (rngD 0 n) := rng1_nat (by omega)
  exact ⟨row, by simp [m__law_row, b__law_row, rg, e1], hr1, hr2⟩

/-! ### the law -/
def lt4 : SS := (sSeq (sIfS (tOr' (tNot' (tB' (sAtom (sCall m__law_refused (aCons (sVar 15) (aCons (sCall (gSize .tuple) (aCons (sC (.str "levels")) (aCons (sVar 13) (aCons (sC (.bool true)) aNil)))) aNil)))))) (tNot' (tB' (sAtom (sCall m__law_refused (aCons (sVar 16) (aCons (sCall (gSize .tuple) (aCons (sC (.str "many")) (aCons (sC (.int 16)) (aCons (sC (.bool true)) aNil)))) aNil))))))) (sSeq (sRet (sC (.bool false))) (fun ρ => .nx ρ)) (fun ρ => .nx ρ)) (sSeq (sIfS (tNot' (tB' (sCall m__law_refused (aCons (s2 gAdd (s2 gAdd (sSl (sVar 16) soNone (soSome (sVar 13))) (sCall (gSize .list) (aCons (sVar 14) aNil))) (sSl (sVar 16) (soSome (s2 gAdd (sVar 13) (sC (.int 1)))) soNone)) (aCons (sCall (gSize .tuple) (aCons (sC (.str "many")) (aCons (sC (.int 16)) (aCons (sC (.bool true)) aNil)))) aNil))))) (sSeq (sRet (sC (.bool false))) (fun ρ => .nx ρ)) (fun ρ => .nx ρ)) (sSeq (sFor (sIterA (sCall (gSize .list) (aCons (sC .none) (aCons (sCall (gSize .list) aNil) (aCons (sCall (gSize .tuple) aNil) (aCons (sC (.str "0")) (aCons (sC (.int 3)) (aCons (sC (.bool true)) aNil)))))))) (tgN 17) (sSeq (sIfS (tNot' (tB' (sCall m__law_refused (aCons (sVar 17) (aCons (sCall (gSize .tuple) (aCons (sC (.str "levels")) (aCons (s1 gNeg (sC (.int 1))) (aCons (sC (.bool true)) aNil)))) aNil))))) (sSeq (sRet (sC (.bool false))) (fun ρ => .nx ρ)) (fun ρ => .nx ρ)) (fun ρ => .nx ρ))) (sSeq (sRet (sCall m__law_are_numbers (aCons (sCall m_ages (aCons (sSl (sVar 16) soNone (soSome (sC (.int 16)))) (aCons (sC (.int 40)) aNil))) (aCons (sCall m__law_ages (aCons (sSl (sVar 16) soNone (soSome (sC (.int 16)))) (aCons (sC (.int 40)) aNil))) aNil)))) (fun ρ => .nx ρ)))))
def lt3 : SS := (sSeq (sIfS (tOr' (tB' (s2 gNe (sCall gList (aCons (sVar 5) aNil)) (sVar 4))) (tNot' (tB' (sAtom (sCall m__law_numbers_refused (aCons (sVar 4) (aCons (sVar 8) aNil))))))) (sSeq (sRet (sC (.bool false))) (fun ρ => .nx ρ)) (fun ρ => .nx ρ)) (sSeq (sSet 13 (s2 gMod (sCall gInt (aCons (sCall m__law_cell (aCons (sVar 0) (aCons (sC (.int 6)) aNil))) aNil)) (sVar 1))) (sSeq (sSet 14 (s2 gIxA (sCall (gSize .list) (aCons (sC (.int 8)) (aCons (s1 gNeg (sC (.int 1))) (aCons (sC (.bool true)) (aCons (sC .none) (aCons (sC (.str "1")) (aCons (sCall (gSize .list) (aCons (sC (.int 1)) aNil)) (aCons (sC (.bool false)) (aCons (sC (.int 99)) (aCons (sCall (gSize .tuple) aNil) (aCons (s1 gNeg (sC (.int 30))) aNil))))))))))) (s2 gMod (sCall gInt (aCons (sCall m__law_cell (aCons (sVar 0) (aCons (sC (.int 7)) aNil))) aNil)) (sC (.int 10))))) (sSeq (sSet 15 (s2 gAdd (s2 gAdd (sSl (sVar 4) soNone (soSome (sVar 13))) (sCall (gSize .list) (aCons (sVar 14) aNil))) (sSl (sVar 4) (soSome (s2 gAdd (sVar 13) (sC (.int 1)))) soNone))) (sSeq (sIfS (tAnd' (tB' (s2 gEq (s2 gMod (s2 gFdiv (sVar 2) (sC (.int 16))) (sC (.int 2))) (sC (.int 1)))) (tB' (s2 gLt (s2 gAdd (sVar 13) (sC (.int 1))) (sVar 1)))) (sSeq (sSetI 15 (s2 gSub (sVar 1) (sC (.int 1))) (sC .none)) (fun ρ => .nx ρ)) (fun ρ => .nx ρ)) (sSeq (sSet 16 (sCall m__law_row (aCons (sCall m__law_cell (aCons (sVar 0) (aCons (sC (.int 8)) aNil))) (aCons (sC (.int 17)) (aCons (sC (.int 8)) aNil))))) lt4))))))
def lt2 : SS := (sSeq (sIfS (tNot' (tB' (sAtom (sCall m__law_are_numbers (aCons (sCall m_ages (aCons (sVar 5) (aCons (s2 gIxA (sVar 6) (sC (.int 6))) aNil))) (aCons (sCall m__law_ages (aCons (sVar 4) (aCons (s2 gIxA (sVar 6) (sC (.int 6))) aNil))) aNil)))))) (sSeq (sRet (sC (.bool false))) (fun ρ => .nx ρ)) (fun ρ => .nx ρ)) (sSeq (sSet 8 (s2 gMod (sCall gInt (aCons (sCall m__law_cell (aCons (sVar 0) (aCons (sC (.int 4)) aNil))) aNil)) (sC (.int 31)))) (sSeq (sSet 9 (s2 gAdd (sVar 8) (s2 gMod (sCall gInt (aCons (sCall m__law_cell (aCons (sVar 0) (aCons (sC (.int 5)) aNil))) aNil)) (s2 gSub (sC (.int 31)) (sVar 8))))) (sSeq (sSet 10 (s2 gMod (sCall gInt (aCons (sCall m__law_cell (aCons (sVar 0) (aCons (sC (.int 4)) aNil))) aNil)) (sVar 1))) (sSeq (sSet 11 (s2 gAdd (sVar 10) (s2 gMod (sCall gInt (aCons (sCall m__law_cell (aCons (sVar 0) (aCons (sC (.int 5)) aNil))) aNil)) (sC (.int 4))))) (sSeq (sFor (sIterA (sCall (gSize .list) (aCons (sCall (gSize .tuple) (aCons (sVar 8) (aCons (sVar 9) aNil))) (aCons (sCall (gSize .tuple) (aCons (sVar 10) (aCons (sVar 10) aNil))) (aCons (sCall (gSize .tuple) (aCons (sVar 10) (aCons (sVar 11) aNil))) (aCons (sCall (gSize .tuple) (aCons (sC (.int 0)) (aCons (sVar 10) aNil))) (aCons (sCall (gSize .tuple) (aCons (sC (.int 0)) (aCons (sC (.int 30)) aNil))) (aCons (sCall (gSize .tuple) (aCons (sC (.int 30)) (aCons (sC (.int 30)) aNil))) (aCons (sCall (gSize .tuple) (aCons (sC (.int 16)) (aCons (sC (.int 30)) aNil))) aNil))))))))) (tgN 12) (sSeq (sIfS (tNot' (tB' (sAtom (sCall m__law_gap_fits (aCons (sVar 4) (aCons (sVar 5) (aCons (s2 gIxA (sVar 12) (sC (.int 0))) (aCons (s2 gIxA (sVar 12) (sC (.int 1))) aNil)))))))) (sSeq (sRet (sC (.bool false))) (fun ρ => .nx ρ)) (fun ρ => .nx ρ)) (fun ρ => .nx ρ))) lt3))))))
def lt1 : SS := (sSeq (sSet 6 (sCall (gSize .list) (aCons (sC (.int 0)) (aCons (sC (.int 1)) (aCons (sVar 1) (aCons (s2 gAdd (sVar 1) (sC (.int 1))) (aCons (sC (.int 9999)) (aCons (s2 gMod (sCall gInt (aCons (sCall m__law_cell (aCons (sVar 0) (aCons (sC (.int 3)) aNil))) aNil)) (sC (.int 41))) (aCons (s2 gMod (s2 gFdiv (sCall gInt (aCons (sCall m__law_cell (aCons (sVar 0) (aCons (sC (.int 3)) aNil))) aNil)) (sC (.int 41))) (sC (.int 10000))) aNil))))))))) (sSeq (sFor (sIterA (sVar 6)) (tgN 7) (sSeq (sSet 18 (sCall m_ages (aCons (sVar 5) (aCons (sVar 7) aNil)))) (sSeq (sIfS (tNot' (tB' (sAtom (sCall m__law_are_numbers (aCons (sVar 18) (aCons (sCall m__law_ages (aCons (sVar 4) (aCons (sVar 7) aNil))) aNil)))))) (sSeq (sRet (sC (.bool false))) (fun ρ => .nx ρ)) (fun ρ => .nx ρ)) (sSeq (sApp 18 (sC (.int 99))) (fun ρ => .nx ρ))))) lt2))
theorem b_law_is : b_law = (sSeq (sSet 1 (s2 gAdd (sC (.int 1)) (s2 gMod (sCall gInt (aCons (sCall m__law_cell (aCons (sVar 0) (aCons (sC (.int 0)) aNil))) aNil)) (sC (.int 16))))) (sSeq (sSet 2 (sCall gInt (aCons (sCall m__law_cell (aCons (sVar 0) (aCons (sC (.int 1)) aNil))) aNil))) (sSeq (sSet 3 (s2 gIxA (sCall (gSize .list) (aCons (sC (.int 8)) (aCons (sC (.int 2)) (aCons (sC (.int 3)) (aCons (sC (.int 5)) aNil))))) (s2 gMod (sVar 2) (sC (.int 4))))) (sSeq (sSet 4 (sComp 19 (sIterA (sCall m__law_row (aCons (sCall m__law_cell (aCons (sVar 0) (aCons (sC (.int 2)) aNil))) (aCons (sVar 1) (aCons (sVar 3) aNil))))) bYes (s2 gAdd (sVar 19) (s2 gMul (s2 gSub (sC (.int 8)) (sVar 3)) (s2 gMod (s2 gFdiv (sVar 2) (sC (.int 4))) (sC (.int 2))))))) (sSeq (sSet 5 (sCall gList (aCons (sVar 4) aNil))) (sSeq (sIfS (tB' (s2 gEq (s2 gMod (s2 gFdiv (sVar 2) (sC (.int 8))) (sC (.int 2))) (sC (.int 1)))) (sSeq (sSet 5 (sCall gTuple (aCons (sVar 4) aNil))) (fun ρ => .nx ρ)) (fun ρ => .nx ρ)) lt1)))))) := rfl
theorem ixp0 (a b : Int) : gIxA (.tuple [.int a, .int b]) (.int 0) = .ok (.int a) := ix_tup_at (i := 0) rfl
theorem ixp1 (a b : Int) : gIxA (.tuple [.int a, .int b]) (.int 1) = .ok (.int b) := ix_tup_at (i := 1) rfl
structure Sl (ns : List Int) (n : Nat) (r : List Int) (v : D) : Prop where
  rot : Rot r
  len : r.length = n
  seq : seqD v (r.map PyData.int)
  n1 : 1 ≤ n
  n16 : n ≤ 16
theorem Sl.lst {ns : List Int} {n : Nat} {r : List Int} {v : D} (h : Sl ns n r v) : gList [v] = .ok (li r) := h.seq.list
section
variable {ns : List Int} {n : Nat} {r : List Int} {v : D} {pk s : Int}
theorem nothing_loop (h : True) (x0 x1 x2 x3 x4 x5 x6 x7 x8 x9 x10 x11 x12 x13 x14 x15 x16 x18 x19 : Option D) : ∃ y, forL (tgN 17) (sSeq (sIfS (tNot' (tB' (sCall m__law_refused (aCons (sVar 17) (aCons (sCall (gSize .tuple) (aCons (sC (.str "levels")) (aCons (s1 gNeg (sC (.int 1))) (aCons (sC (.bool true)) aNil)))) aNil))))) (sSeq (sRet (sC (.bool false))) (fun ρ => .nx ρ)) (fun ρ => .nx ρ)) (fun ρ => .nx ρ)) [.none, .list [], .tuple [], .str "0", .int 3, .bool true] [x0, x1, x2, x3, x4, x5, x6, x7, x8, x9, x10, x11, x12, x13, x14, x15, x16, none, x18, x19] = .nx [x0, x1, x2, x3, x4, x5, x6, x7, x8, x9, x10, x11, x12, x13, x14, x15, x16, y, x18, x19] := by
  obtain ⟨ρ1, e1, y, rfl⟩ := forL_run (tg := tgN 17) (b := (sSeq (sIfS (tNot' (tB' (sCall m__law_refused (aCons (sVar 17) (aCons (sCall (gSize .tuple) (aCons (sC (.str "levels")) (aCons (s1 gNeg (sC (.int 1))) (aCons (sC (.bool true)) aNil)))) aNil))))) (sSeq (sRet (sC (.bool false))) (fun ρ => .nx ρ)) (fun ρ => .nx ρ)) (fun ρ => .nx ρ)))
    (fun _ ρ => ∃ y, ρ = [x0, x1, x2, x3, x4, x5, x6, x7, x8, x9, x10, x11, x12, x13, x14, x15, x16, y, x18, x19]) [.none, .list [], .tuple [], .str "0", .int 3, .bool true] [x0, x1, x2, x3, x4, x5, x6, x7, x8, x9, x10, x11, x12, x13, x14, x15, x16, none, x18, x19] ⟨none, rfl⟩ (by
      rintro k d ρ hd ⟨y, rfl⟩
      have hm := List.mem_of_getElem? hd
      have hq : isScr d = false ∧ (isRow d = false ∨ seqD d []) := by
        simp only [List.mem_cons, List.not_mem_nil, or_false] at hm
        rcases hm with rfl | rfl | rfl | rfl | rfl | rfl
        · exact ⟨rfl, .inl rfl⟩
        · exact ⟨rfl, .inr (.inl rfl)⟩
        · exact ⟨rfl, .inr (.inr rfl)⟩
        · exact ⟨rfl, .inl rfl⟩
        · exact ⟨rfl, .inl rfl⟩
        · exact ⟨rfl, .inl rfl⟩
      have e := refused_levels (csr_none hq.1 hq.2)
      unfold tri at e
      simp [e])
  exact ⟨y, e1⟩
theorem pairs_loop (h : Sl ns n r v) (ds : List (Int × Int)) (hds : ∀ p ∈ ds, 0 ≤ p.1 ∧ p.1 ≤ p.2 ∧ p.2 ≤ 30) (x6 x7 x8 x9 x10 x11 x13 x14 x15 x16 x17 x18 x19 : Option D) : ∃ y, forL (tgN 12) (sSeq (sIfS (tNot' (tB' (sAtom (sCall m__law_gap_fits (aCons (sVar 4) (aCons (sVar 5) (aCons (s2 gIxA (sVar 12) (sC (.int 0))) (aCons (s2 gIxA (sVar 12) (sC (.int 1))) aNil)))))))) (sSeq (sRet (sC (.bool false))) (fun ρ => .nx ρ)) (fun ρ => .nx ρ)) (fun ρ => .nx ρ)) (ds.map fun p => .tuple [.int p.1, .int p.2]) [some (scrD ns), some (.int (n : Nat)), some (.int pk), some (.int s), some (li r), some v, x6, x7, x8, x9, x10, x11, none, x13, x14, x15, x16, x17, x18, x19] = .nx [some (scrD ns), some (.int (n : Nat)), some (.int pk), some (.int s), some (li r), some v, x6, x7, x8, x9, x10, x11, y, x13, x14, x15, x16, x17, x18, x19] := by
  obtain ⟨ρ1, e1, y, rfl⟩ := forL_run (tg := tgN 12) (b := (sSeq (sIfS (tNot' (tB' (sAtom (sCall m__law_gap_fits (aCons (sVar 4) (aCons (sVar 5) (aCons (s2 gIxA (sVar 12) (sC (.int 0))) (aCons (s2 gIxA (sVar 12) (sC (.int 1))) aNil)))))))) (sSeq (sRet (sC (.bool false))) (fun ρ => .nx ρ)) (fun ρ => .nx ρ)) (fun ρ => .nx ρ)))
    (fun _ ρ => ∃ y, ρ = [some (scrD ns), some (.int (n : Nat)), some (.int pk), some (.int s), some (li r), some v, x6, x7, x8, x9, x10, x11, y, x13, x14, x15, x16, x17, x18, x19]) (ds.map fun p => .tuple [.int p.1, .int p.2]) [some (scrD ns), some (.int (n : Nat)), some (.int pk), some (.int s), some (li r), some v, x6, x7, x8, x9, x10, x11, none, x13, x14, x15, x16, x17, x18, x19] ⟨none, rfl⟩ (by
      rintro k d ρ hd ⟨y, rfl⟩
      obtain ⟨p, hp, rfl⟩ := List.mem_map.mp (List.mem_of_getElem? hd)
      obtain ⟨h1, h2, h3⟩ := hds p hp
      have e := gap_fits_eq h.rot h.seq h1 h2 h3
      simp [ixp0, ixp1, e])
  exact ⟨y, e1⟩
theorem days_loop (h : Sl ns n r v) (ds : List Int) (hds : ∀ d ∈ ds, 0 ≤ d ∧ d ≤ 9999) (x6 x8 x9 x10 x11 x12 x13 x14 x15 x16 x17 x19 : Option D) : ∃ y z, forL (tgN 7) (sSeq (sSet 18 (sCall m_ages (aCons (sVar 5) (aCons (sVar 7) aNil)))) (sSeq (sIfS (tNot' (tB' (sAtom (sCall m__law_are_numbers (aCons (sVar 18) (aCons (sCall m__law_ages (aCons (sVar 4) (aCons (sVar 7) aNil))) aNil)))))) (sSeq (sRet (sC (.bool false))) (fun ρ => .nx ρ)) (fun ρ => .nx ρ)) (sSeq (sApp 18 (sC (.int 99))) (fun ρ => .nx ρ)))) (ds.map PyData.int) [some (scrD ns), some (.int (n : Nat)), some (.int pk), some (.int s), some (li r), some v, x6, none, x8, x9, x10, x11, x12, x13, x14, x15, x16, x17, none, x19] = .nx [some (scrD ns), some (.int (n : Nat)), some (.int pk), some (.int s), some (li r), some v, x6, y, x8, x9, x10, x11, x12, x13, x14, x15, x16, x17, z, x19] := by
  obtain ⟨ρ1, e1, y, z, rfl⟩ := forL_run (tg := tgN 7) (b := (sSeq (sSet 18 (sCall m_ages (aCons (sVar 5) (aCons (sVar 7) aNil)))) (sSeq (sIfS (tNot' (tB' (sAtom (sCall m__law_are_numbers (aCons (sVar 18) (aCons (sCall m__law_ages (aCons (sVar 4) (aCons (sVar 7) aNil))) aNil)))))) (sSeq (sRet (sC (.bool false))) (fun ρ => .nx ρ)) (fun ρ => .nx ρ)) (sSeq (sApp 18 (sC (.int 99))) (fun ρ => .nx ρ)))))
    (fun _ ρ => ∃ y z, ρ = [some (scrD ns), some (.int (n : Nat)), some (.int pk), some (.int s), some (li r), some v, x6, y, x8, x9, x10, x11, x12, x13, x14, x15, x16, x17, z, x19]) (ds.map PyData.int) [some (scrD ns), some (.int (n : Nat)), some (.int pk), some (.int s), some (li r), some v, x6, none, x8, x9, x10, x11, x12, x13, x14, x15, x16, x17, none, x19] ⟨none, none, rfl⟩ (by
      rintro k d ρ hd ⟨y, z, rfl⟩
      obtain ⟨d, hd', rfl⟩ := List.mem_map.mp (List.mem_of_getElem? hd)
      obtain ⟨h1, h2⟩ := hds d hd'
      have a1 := ages_eq h.rot h.seq h1 h2
      have a2 := law_ages_eq h.rot.ne h.rot.len d
      have hn : (agesL r d).length ≤ 16 := by
        rw [List.length_map]
        exact Nat.le_trans (found_len _ _ _) h.rot.len
      generalize agesL r d = as at a1 a2 hn
      have a3 := are_numbers_eq as (by omega)
      have hz : as.length < sizeLine := small_lt (by omega)
      simp [a1, a2, a3, hz])
  exact ⟨y, z, e1⟩

theorem lt4_ok (h : Sl ns n r v) {p : Nat} (hp : p < n) {wd broken : D} {lg : List Int} (hb : m_check_small_row [broken, .int 16] = .ex "BadLevels" [("at", .int (p : Nat))]) (hlg : lg.length = 17) (hlg2 : ∀ x ∈ lg, 0 ≤ x ∧ x < 8) (x6 x7 x8 x9 x10 x11 x12 x18 x19 : Option D) :
    (lt4 [some (scrD ns), some (.int (n : Nat)), some (.int pk), some (.int s), some (li r), some v, x6, x7, x8, x9, x10, x11, x12, some (.int (p : Nat)), some wd, some broken, some (li lg), none, x18, x19]).fin = .ok (.bool true) := by
  have hn := h.n16
  have f1 := refused_levels hb
  have f2 := refused_many (csr_many (v := li lg) (.inl rfl) (by rw [List.length_map]; omega))
  have c1 : cutA (lg.map PyData.int) none (some (p : Int)) = (lg.map PyData.int).take p := cutA_to (by rw [List.length_map]; omega)
  have c2 : cutA (lg.map PyData.int) (some ((p : Int) + 1)) none = (lg.map PyData.int).drop (p + 1) := cutA_from (p := p + 1) (by rw [List.length_map]; omega)
  have c3 : cutA (lg.map PyData.int) none (some 16) = (lg.take 16).map PyData.int := by
    rw [List.map_take]
    exact cutA_to (p := 16) (by rw [List.length_map]; omega)
  have l1 : ((lg.map PyData.int).take p).length = p := by
    rw [List.length_take, List.length_map]
    omega
  have l2 : ((lg.map PyData.int).drop (p + 1)).length = 16 - p := by
    rw [List.length_drop, List.length_map]
    omega
  have g1 : gAdd (.list ((lg.map PyData.int).take p)) (.list [wd]) = .ok (.list ((lg.map PyData.int).take p ++ [wd])) := g_add_l (by rw [l1]; show p + 1 ≤ _; omega)
  have g2 : gAdd (.list ((lg.map PyData.int).take p ++ [wd])) (.list ((lg.map PyData.int).drop (p + 1))) = .ok (.list ((lg.map PyData.int).take p ++ [wd] ++ (lg.map PyData.int).drop (p + 1))) := g_add_l (by rw [List.length_append, l1, l2]; show p + 1 + (16 - p) ≤ _; omega)
  have f3 := refused_many (csr_many (v := .list ((lg.map PyData.int).take p ++ [wd] ++ (lg.map PyData.int).drop (p + 1))) (.inl rfl) (by rw [List.length_append, List.length_append, l1, l2]; show 16 < p + 1 + (16 - p); omega))
  have ne2 : lg.take 16 ≠ [] := by
    intro z
    have := congrArg List.length z
    rw [List.length_take, hlg] at this
    cases this
  have len2 : (lg.take 16).length ≤ 16 := by
    rw [List.length_take]
    omega
  have R2 : Rot (lg.take 16) := by
    refine ⟨ne2, len2, fun i hi => ?_⟩
    have := hlg2 i (List.mem_of_mem_take hi)
    omega
  have a1 := ages_eq R2 (v := li (lg.take 16)) (.inl rfl) (day := 40) (by decide) (by decide)
  have a2 := law_ages_eq R2.ne R2.len 40
  have hk : (agesL (lg.take 16) 40).length ≤ 16 := by
    rw [List.length_map]
    exact Nat.le_trans (found_len _ _ _) R2.len
  have a3 := are_numbers_eq (agesL (lg.take 16) 40) (by omega)
  obtain ⟨y, e1⟩ := nothing_loop trivial (some (scrD ns)) (some (.int (n : Nat))) (some (.int pk)) (some (.int s)) (some (li r)) (some v) x6 x7 x8 x9 x10 x11 x12 (some (.int (p : Nat))) (some wd) (some broken) (some (li lg)) x18 x19
  generalize agesL (lg.take 16) 40 = as at a1 a2 a3
  generalize (lg.map PyData.int).take p = A at c1 g1 g2 f3
  generalize (lg.map PyData.int).drop (p + 1) = B at c2 g2 f3
  generalize (lg.take 16) = lt at c3 a1 a2
  unfold tri at f1 f2 f3
  simp only [lt4, e_seq]
  simp [-List.append_assoc, f1, f2, f3, c1, c2, c3, g1, g2, e1, a1, a2, a3]

theorem wrong_ok (x : Int) : ∃ d : D, gIxA (.list [.int 8, .int (-1), .bool true, .none, .str "1", .list [.int 1], .bool false, .int 99, .tuple [], .int (-30)]) (.int (x % 10)) = .ok d ∧ isScr d = false ∧ numB d 0 7 = false := by
  obtain ⟨k, hk, e⟩ : ∃ k : Nat, k < 10 ∧ x % 10 = (k : Int) := ⟨(x % 10).toNat, by omega, by omega⟩
  rw [e]
  have : k = 0 ∨ k = 1 ∨ k = 2 ∨ k = 3 ∨ k = 4 ∨ k = 5 ∨ k = 6 ∨ k = 7 ∨ k = 8 ∨ k = 9 := by omega
  rcases this with rfl | rfl | rfl | rfl | rfl | rfl | rfl | rfl | rfl | rfl <;> exact ⟨_, ix_list_at rfl, rfl, by decide⟩
/-- a row with one bad place -/
theorem broken_csr (h : Sl ns n r v) {p : Nat} (hp : p < n) {wd : D} (hw : isScr wd = false) (hw2 : numB wd 0 7 = false) {ds : List D} (hl : ds.length = n) (h1 : ∀ j e, j < p → ds[j]? = some e → ∃ i ∈ r, e = .int i) (h2 : ds[p]? = some wd) (h3 : ∀ d ∈ ds, isScr d = false) : m_check_small_row [.list ds, .int 16] = .ex "BadLevels" [("at", .int (p : Nat))] :=
  csr_bad (.inl rfl) (by rw [hl]; exact h.n16) h3 h2 hw2 fun j e hj he => by
    obtain ⟨i, hi, rfl⟩ := h1 j e hj he
    exact num_int (h.rot.mem i hi).1 (h.rot.mem i hi).2
end
end Lw
end

section
set_option Elab.async false
set_option linter.all false
set_option maxRecDepth 100000
set_option maxHeartbeats 2000000
namespace Lw
open PySem Pu
section
variable {ns : List Int} {n : Nat} {r : List Int} {v : D} {pk s : Int}
theorem lt3_ok (h : Sl ns n r v) {lo : Int} (h0 : 0 ≤ lo) (h1 : lo ≤ 30) (x6 x7 x9 x10 x11 x12 x17 x18 x19 : Option D) (hx : x17 = none) :
    (lt3 [some (scrD ns), some (.int (n : Nat)), some (.int pk), some (.int s), some (li r), some v, x6, x7, some (.int lo), x9, x10, x11, x12, none, none, none, none, x17, x18, x19]).fin = .ok (.bool true) := by
  subst hx
  have hn := h.n16
  have hn1 := h.n1
  have hnp : 0 < ((n : Nat) : Int) := by omega
  have e1 := numbers_refused_eq h.rot h0 h1
  have q1 : gNe (li r) (li r) = .ok (.bool false) := by
    rw [g_ne_ints]
    simp
  obtain ⟨c6, e6⟩ : ∃ c, m__law_cell [scrD ns, .int 6] = .ok (.int c) := cell_eq ns 6 (by decide)
  obtain ⟨c7, e7⟩ : ∃ c, m__law_cell [scrD ns, .int 7] = .ok (.int c) := cell_eq ns 7 (by decide)
  obtain ⟨c8, e8⟩ : ∃ c, m__law_cell [scrD ns, .int 8] = .ok (.int c) := cell_eq ns 8 (by decide)
  obtain ⟨lg, el, hlg, hlg2⟩ : ∃ row : List Int, m__law_row [.int c8, .int 17, .int 8] = .ok (li row) ∧ row.length = 17 ∧ ∀ x ∈ row, 0 ≤ x ∧ x < 8 := row_eq c8 17 (by decide) (by decide) (by decide)
  obtain ⟨p, hp, ep⟩ : ∃ p : Nat, p < n ∧ c6 % ((n : Nat) : Int) = (p : Int) := by
    have a := Int.emod_nonneg c6 (by omega : ((n : Nat) : Int) ≠ 0)
    have b := Int.emod_lt_of_pos c6 hnp
    exact ⟨(c6 % ((n : Nat) : Int)).toNat, by omega, by omega⟩
  have gm := g_mod (i := c6) hnp
  rw [ep] at gm
  obtain ⟨wd, ew, hw, hw2⟩ := wrong_ok c7
  have gm7 := g_mod (i := c7) (j := 10) (by decide)
  have gf := g_fdiv (i := pk) (j := 16) (by decide)
  have gm2 := g_mod (i := pk / 16) (j := 2) (by decide)
  have hrl : (r.map PyData.int).length = n := by rw [List.length_map, h.len]
  have c1 : cutA (r.map PyData.int) none (some (p : Int)) = (r.map PyData.int).take p := cutA_to (by omega)
  have c2 : cutA (r.map PyData.int) (some ((p : Int) + 1)) none = (r.map PyData.int).drop (p + 1) := cutA_from (p := p + 1) (by omega)
  have l1 : ((r.map PyData.int).take p).length = p := by
    rw [List.length_take]
    omega
  have l2 : ((r.map PyData.int).drop (p + 1)).length = n - (p + 1) := by
    rw [List.length_drop]
    omega
  have g1 : gAdd (.list ((r.map PyData.int).take p)) (.list [wd]) = .ok (.list ((r.map PyData.int).take p ++ [wd])) := g_add_l (by rw [l1]; show p + 1 ≤ _; omega)
  have g2 : gAdd (.list ((r.map PyData.int).take p ++ [wd])) (.list ((r.map PyData.int).drop (p + 1))) = .ok (.list ((r.map PyData.int).take p ++ [wd] ++ (r.map PyData.int).drop (p + 1))) := g_add_l (by rw [List.length_append, l1, l2]; show p + 1 + (n - (p + 1)) ≤ _; omega)
  have b1 : ∀ d ∈ (r.map PyData.int).take p ++ [wd] ++ (r.map PyData.int).drop (p + 1), isScr d = false := fun d hd => by
    rcases List.mem_append.mp hd with hd | hd
    · rcases List.mem_append.mp hd with hd | hd
      · obtain ⟨i, _, rfl⟩ := List.mem_map.mp (List.mem_of_mem_take hd)
        rfl
      · rw [List.mem_singleton.mp hd]
        exact hw
    · obtain ⟨i, _, rfl⟩ := List.mem_map.mp (List.mem_of_mem_drop hd)
      rfl
  have b2 : ∀ j e, j < p → ((r.map PyData.int).take p ++ [wd] ++ (r.map PyData.int).drop (p + 1))[j]? = some e → ∃ i ∈ r, e = .int i := fun j e hj he => by
    rw [List.getElem?_append_left (by rw [List.length_append, l1]; show j < p + 1; omega), List.getElem?_append_left (by omega)] at he
    obtain ⟨i, hi, rfl⟩ := List.mem_map.mp (List.mem_of_mem_take (List.mem_of_getElem? he))
    exact ⟨i, hi, rfl⟩
  have b3 : ((r.map PyData.int).take p ++ [wd] ++ (r.map PyData.int).drop (p + 1))[p]? = some wd := by
    rw [List.getElem?_append_left (by rw [List.length_append, l1]; show p < p + 1; omega), List.getElem?_append_right (by omega), l1, Nat.sub_self]
    rfl
  have b4 : ((r.map PyData.int).take p ++ [wd] ++ (r.map PyData.int).drop (p + 1)).length = n := by
    rw [List.length_append, List.length_append, l1, l2]
    show p + 1 + (n - (p + 1)) = n
    omega
  have csr := broken_csr h hp hw hw2 b4 b2 b3 b1
  by_cases hb : pk / 16 % 2 = 1 ∧ p + 1 < n
  · have gs : gSet (.list ((r.map PyData.int).take p ++ [wd] ++ (r.map PyData.int).drop (p + 1))) (.int (((n - 1 : Nat) : Nat) : Int)) .none = .ok (.list (((r.map PyData.int).take p ++ [wd] ++ (r.map PyData.int).drop (p + 1)).set (n - 1) .none)) := gSet_list (by omega) .none
    rw [show (((n - 1 : Nat) : Nat) : Int) = ((n : Nat) : Int) - 1 by omega] at gs
    have csr2 := broken_csr h hp hw hw2 (ds := ((r.map PyData.int).take p ++ [wd] ++ (r.map PyData.int).drop (p + 1)).set (n - 1) .none) (by rw [List.length_set]; exact b4)
      (fun j e hj he => b2 j e hj (by rw [List.getElem?_set_ne (by omega)] at he; exact he)) (by rw [List.getElem?_set_ne (by omega)]; exact b3)
      (fun d hd => by
        rcases List.mem_or_eq_of_mem_set hd with hd | rfl
        · exact b1 d hd
        · rfl)
    have t4 := fun x6 x7 x8 x9 x10 x11 x12 x18 x19 => lt4_ok (pk := pk) (s := s) h hp (wd := wd) csr2 hlg hlg2 x6 x7 x8 x9 x10 x11 x12 x18 x19
    have hlt : (p : Int) + 1 < (n : Int) := by omega
    generalize (((r.map PyData.int).take p ++ [wd] ++ (r.map PyData.int).drop (p + 1)).set (n - 1) .none) = BR at gs t4
    generalize (r.map PyData.int).take p = A at c1 g1 g2 gs
    generalize (r.map PyData.int).drop (p + 1) = B at c2 g2 gs
    simp only [lt3, e_seq]
    simp [-List.append_assoc, h.lst, q1, e1, e6, gm, e7, gm7, ew, c1, c2, g1, g2, gf, gm2, hb.1, hlt, gs, e8, el, t4]
  · have t4 := fun x6 x7 x8 x9 x10 x11 x12 x18 x19 => lt4_ok (pk := pk) (s := s) h hp (wd := wd) csr hlg hlg2 x6 x7 x8 x9 x10 x11 x12 x18 x19
    generalize (r.map PyData.int).take p = A at c1 g1 g2 t4
    generalize (r.map PyData.int).drop (p + 1) = B at c2 g2 t4
    simp only [lt3, e_seq]
    by_cases hb1 : pk / 16 % 2 = 1
    · have hlt : ¬ (p : Int) + 1 < (n : Int) := fun z => hb ⟨hb1, by omega⟩
      simp only [List.append_assoc, List.cons_append, List.nil_append] at g2 t4
      simp [h.lst, q1, e1, e6, gm, e7, gm7, ew, c1, c2, g1, g2, gf, gm2, hb1, hlt, e8, el, t4]
    · simp only [List.append_assoc, List.cons_append, List.nil_append] at g2 t4
      simp [h.lst, q1, e1, e6, gm, e7, gm7, ew, c1, c2, g1, g2, gf, gm2, hb1, e8, el, t4]

theorem modNat (x : Int) {m : Nat} (h : 0 < m) : ∃ k : Nat, k < m ∧ x % ((m : Nat) : Int) = (k : Int) := by
  have a := Int.emod_nonneg x (by omega : ((m : Nat) : Int) ≠ 0)
  have b := Int.emod_lt_of_pos x (by omega : 0 < ((m : Nat) : Int))
  exact ⟨(x % ((m : Nat) : Int)).toNat, by omega, by omega⟩
theorem lt2_ok (h : Sl ns n r v) (d0 d1 d2 d3 d4 d5 : D) {d6 : Int} (hd0 : 0 ≤ d6) (hd1 : d6 ≤ 9999) (x7 x18 : Option D) :
    (lt2 [some (scrD ns), some (.int (n : Nat)), some (.int pk), some (.int s), some (li r), some v, some (.list [d0, d1, d2, d3, d4, d5, .int d6]), x7, none, none, none, none, none, none, none, none, none, none, x18, none]).fin = .ok (.bool true) := by
  have hn := h.n16
  have hn1 := h.n1
  have hnp : 0 < ((n : Nat) : Int) := by omega
  have ix : gIxA (.list [d0, d1, d2, d3, d4, d5, .int d6]) (.int 6) = .ok (.int d6) := ix_list_at (i := 6) rfl
  have a1 := ages_eq h.rot h.seq hd0 hd1
  have a2 := law_ages_eq h.rot.ne h.rot.len d6
  have hk : (agesL r d6).length ≤ 16 := by
    rw [List.length_map]
    exact Nat.le_trans (found_len _ _ _) h.rot.len
  have a3 := are_numbers_eq (agesL r d6) (by omega)
  generalize agesL r d6 = as at a1 a2 a3
  obtain ⟨c4, e4⟩ : ∃ c, m__law_cell [scrD ns, .int 4] = .ok (.int c) := cell_eq ns 4 (by decide)
  obtain ⟨c5, e5⟩ : ∃ c, m__law_cell [scrD ns, .int 5] = .ok (.int c) := cell_eq ns 5 (by decide)
  obtain ⟨lo, hlo, elo⟩ : ∃ k : Nat, k < 31 ∧ c4 % 31 = (k : Int) := modNat c4 (by decide)
  have gl := g_mod (i := c4) (j := 31) (by decide)
  rw [elo] at gl
  have hw0 : (0 : Int) < 31 - (lo : Int) := by omega
  have gh := g_mod (i := c5) hw0
  have hi0 := Int.emod_nonneg c5 (by omega : 31 - (lo : Int) ≠ 0)
  have hi1 := Int.emod_lt_of_pos c5 hw0
  obtain ⟨nr, hnr, enr⟩ := modNat c4 h.n1
  have gn := g_mod (i := c4) hnp
  rw [enr] at gn
  have gw := g_mod (i := c5) (j := 4) (by decide)
  have w0 := Int.emod_nonneg c5 (by omega : (4 : Int) ≠ 0)
  have w1 := Int.emod_lt_of_pos c5 (by omega : (0 : Int) < 4)
  generalize c5 % (31 - (lo : Int)) = wd at gh hi0 hi1
  generalize c5 % 4 = w4 at gw w0 w1
  obtain ⟨y, ey⟩ := pairs_loop (pk := pk) (s := s) h [((lo : Int), lo + wd), ((nr : Int), (nr : Int)), ((nr : Int), nr + w4), (0, (nr : Int)), (0, 30), (30, 30), (16, 30)] (by
    intro p hp
    simp only [List.mem_cons, List.not_mem_nil, or_false] at hp
    rcases hp with rfl | rfl | rfl | rfl | rfl | rfl | rfl
    · exact ⟨by omega, by show (lo : Int) ≤ lo + wd; omega, by show (lo : Int) + wd ≤ 30; omega⟩
    · exact ⟨by show 0 ≤ (nr : Int); omega, by show (nr : Int) ≤ nr; omega, by show (nr : Int) ≤ 30; omega⟩
    · exact ⟨by show 0 ≤ (nr : Int); omega, by show (nr : Int) ≤ nr + w4; omega, by show (nr : Int) + w4 ≤ 30; omega⟩
    · exact ⟨by show (0 : Int) ≤ 0; omega, by show 0 ≤ (nr : Int); omega, by show (nr : Int) ≤ 30; omega⟩
    · exact ⟨by decide, by decide, by decide⟩
    · exact ⟨by decide, by decide, by decide⟩
    · exact ⟨by decide, by decide, by decide⟩) (some (.list [d0, d1, d2, d3, d4, d5, .int d6])) x7 (some (.int lo)) (some (.int (lo + wd))) (some (.int nr)) (some (.int (nr + w4))) none none none none none x18 none
  simp only [List.map_cons, List.map_nil] at ey
  have t3 := fun x6 x7 x9 x10 x11 x12 x18 x19 => lt3_ok (pk := pk) (s := s) h (lo := lo) (by omega) (by omega) x6 x7 x9 x10 x11 x12 none x18 x19 rfl
  simp only [lt2, e_seq]
  simp [ix, a1, a2, a3, e4, e5, gl, gh, gn, gw, ey, t3]
theorem lt1_ok (h : Sl ns n r v) :
    (lt1 [some (scrD ns), some (.int (n : Nat)), some (.int pk), some (.int s), some (li r), some v, none, none, none, none, none, none, none, none, none, none, none, none, none, none]).fin = .ok (.bool true) := by
  have hn := h.n16
  have hn1 := h.n1
  obtain ⟨c3, e3⟩ : ∃ c, m__law_cell [scrD ns, .int 3] = .ok (.int c) := cell_eq ns 3 (by decide)
  have g1 := g_mod (i := c3) (j := 41) (by decide)
  have g2 := g_fdiv (i := c3) (j := 41) (by decide)
  have g3 := g_mod (i := c3 / 41) (j := 10000) (by decide)
  have p0 := Int.emod_nonneg c3 (by omega : (41 : Int) ≠ 0)
  have p1 := Int.emod_lt_of_pos c3 (by omega : (0 : Int) < 41)
  have q0 := Int.emod_nonneg (c3 / 41) (by omega : (10000 : Int) ≠ 0)
  have q1 := Int.emod_lt_of_pos (c3 / 41) (by omega : (0 : Int) < 10000)
  generalize c3 / 41 % 10000 = d6 at g3 q0 q1
  generalize c3 % 41 = d5 at g1 p0 p1
  obtain ⟨y, z, ey⟩ := days_loop (pk := pk) (s := s) h [0, 1, (n : Int), (n : Int) + 1, 9999, d5, d6] (by
    intro d hd
    simp only [List.mem_cons, List.not_mem_nil, or_false] at hd
    rcases hd with rfl | rfl | rfl | rfl | rfl | rfl | rfl <;> omega) (some (.list [.int 0, .int 1, .int (n : Int), .int ((n : Int) + 1), .int 9999, .int d5, .int d6])) none none none none none none none none none none none
  simp only [List.map_cons, List.map_nil] at ey
  have t2 := fun d0 d1 d2 d3 d4 d5 x7 x18 => lt2_ok (pk := pk) (s := s) h d0 d1 d2 d3 d4 d5 q0 (by omega) x7 x18
  simp only [lt1, e_seq]
  simp [e3, g1, g2, g3, ey, t2]
theorem size_ok (x : Int) : ∃ s : Int, gIxA (.list [.int 8, .int 2, .int 3, .int 5]) (.int (x % 4)) = .ok (.int s) ∧ 1 ≤ s ∧ s ≤ 8 := by
  obtain ⟨k, hk, e⟩ : ∃ k : Nat, k < 4 ∧ x % 4 = (k : Int) := modNat x (by decide)
  rw [e]
  have : k = 0 ∨ k = 1 ∨ k = 2 ∨ k = 3 := by omega
  rcases this with rfl | rfl | rfl | rfl <;> exact ⟨_, ix_list_at rfl, by decide, by decide⟩
theorem law_pure (ns : List Int) (hns : ns.length ≤ 63) : m_law [scrD ns] = .ok (.bool true) := by
  obtain ⟨c0, e0⟩ : ∃ c, m__law_cell [scrD ns, .int 0] = .ok (.int c) := cell_eq ns 0 (by decide)
  obtain ⟨pk, e1⟩ : ∃ c, m__law_cell [scrD ns, .int 1] = .ok (.int c) := cell_eq ns 1 (by decide)
  obtain ⟨c2, e2⟩ : ∃ c, m__law_cell [scrD ns, .int 2] = .ok (.int c) := cell_eq ns 2 (by decide)
  obtain ⟨k0, hk0, ek0⟩ : ∃ k : Nat, k < 16 ∧ c0 % 16 = (k : Int) := modNat c0 (by decide)
  have g0 := g_mod (i := c0) (j := 16) (by decide)
  rw [ek0] at g0
  obtain ⟨s, es, s1, s8⟩ := size_ok pk
  have gp := g_mod (i := pk) (j := 4) (by decide)
  have gf4 := g_fdiv (i := pk) (j := 4) (by decide)
  have gp2 := g_mod (i := pk / 4) (j := 2) (by decide)
  have gf8 := g_fdiv (i := pk) (j := 8) (by decide)
  have gp8 := g_mod (i := pk / 8) (j := 2) (by decide)
  obtain ⟨row, er, hr1, hr2⟩ := row_eq c2 (1 + k0) (by omega) s1 s8
  rw [show ((1 + k0 : Nat) : Int) = 1 + (k0 : Int) by omega] at er
  have b0 := Int.emod_nonneg (pk / 4) (by omega : (2 : Int) ≠ 0)
  have b1 := Int.emod_lt_of_pos (pk / 4) (by omega : (0 : Int) < 2)
  generalize pk / 4 % 2 = b at gp2 b0 b1
  have gm : gMul (.int (8 - s)) (.int b) = .ok (.int ((8 - s) * b)) := g_mul (.inl (by omega))
  have hR : Rot (row.map fun x => x + (8 - s) * b) := by
    refine ⟨?_, by rw [List.length_map]; omega, fun i hi => ?_⟩
    · intro z
      have := congrArg List.length z
      rw [List.length_map, hr1] at this
      simp at this
    · obtain ⟨x, hx, rfl⟩ := List.mem_map.mp hi
      have := hr2 x hx
      rcases (by omega : b = 0 ∨ b = 1) with rfl | rfl <;> omega
  have hl : (row.map fun x => x + (8 - s) * b).length = 1 + k0 := by rw [List.length_map, hr1]
  have L1 := lt1_ok (ns := ns) (pk := pk) (s := s) (n := 1 + k0) (v := li (row.map fun x => x + (8 - s) * b)) ⟨hR, hl, .inl rfl, by omega, by omega⟩
  have L2 := lt1_ok (ns := ns) (pk := pk) (s := s) (n := 1 + k0) (v := .tuple ((row.map fun x => x + (8 - s) * b).map PyData.int)) ⟨hR, hl, .inr rfl, by omega, by omega⟩
  rw [show ((1 + k0 : Nat) : Int) = 1 + (k0 : Int) by omega] at L1 L2
  have ck : ∀ ρ : Rho, ρ = [some (scrD ns), some (.int (1 + (k0 : Int))), some (.int pk), some (.int s), none, none, none, none, none, none, none, none, none, none, none, none, none, none, none, none] → compL 19 bYes (s2 gAdd (sVar 19) (s2 gMul (s2 gSub (sC (.int 8)) (sVar 3)) (s2 gMod (s2 gFdiv (sVar 2) (sC (.int 4))) (sC (.int 2))))) ρ (row.map PyData.int) = .ok ((row.map fun x => x + (8 - s) * b).map PyData.int) := fun ρ e => by
    subst e
    rw [List.map_map]
    refine compL_mapl _ _ fun t _ => ?_
    simp [gf4, gp2, gm]
  have ck' := ck _ rfl
  have hif : ∀ t : D, rIf (row.length ≤ sizeLine) t = .ok t := fun t => rIf_pos (size_small (by omega))
  unfold m_law
  rw [b_law_is]
  generalize (row.map fun x => x + (8 - s) * b) = R at ck' L1 L2
  by_cases h8 : pk / 8 % 2 = 1
  · simp [e0, e1, e2, g0, gp, es, er, e_comp, ck', hif, gf8, gp8, h8, L2]
  · simp [e0, e1, e2, g0, gp, es, er, e_comp, ck', hif, gf8, gp8, h8, L1]
end
end Lw
end

section
set_option Elab.async false
set_option linter.all false
set_option maxRecDepth 100000
set_option maxHeartbeats 0
open PySem PySem.W PySem.Calls PyProof.Rows
theorem PySem.Challenge.cw_reelvault_k46_rotations_and_gaps_holds : PySem.Challenge.rw_reelvault_k46_rotations_and_gaps.Holds := by
  w_on; o_law
  refine HandSHeadRun.head_any (r := OpenLaw.row PySem.Challenge.rw_reelvault_k46_rotations_and_gaps) (q := view (OpenLaw.row PySem.Challenge.rw_reelvault_k46_rotations_and_gaps).prog [32]) (H := Lw.hk) (ob := Lw.ob) (M := 4000) (loose := Lw.loose) (d := HandSHeadRun.topDef (OpenLaw.row PySem.Challenge.rw_reelvault_k46_rotations_and_gaps).prog 32) (kwd := []) Lw.ob_eq
    (by kernel_rfl) (fun s => by kernel_rfl) Lw.run (by kernel_rfl) (by kernel_rfl) (by kernel_rfl) (by rfl) (by first | assumption | decide +kernel) (by decide +kernel) ⟨rfl, rfl, rfl, rfl, rfl, by decide +kernel⟩ ?hw ?hc
  case hw => w_witness2
  case hc =>
    refine L2.walk_ofE (l := PySem.Challenge.rw_reelvault_k46_rotations_and_gaps) (n := 63) (k := 7) (x := "script") (CX := L2.CX0) rfl (by decide) (by kernel_rfl) ⟨rfl, by decide, by decide⟩ ?F (fun _ _ _ _ z => z)
    intro w mg fa h Y G hmg0
    obtain ⟨K, KX, c⟩ := Y
    have hmg : mg ("law" : PySem.Str) = some (.ref fa) := by
      have e : (HandSHeadRun.topDef (OpenLaw.row PySem.Challenge.rw_reelvault_k46_rotations_and_gaps).prog 32).name = ("law" : PySem.Str) := by kernel_rfl
      rw [← e]
      exact hmg0
    have E : Pu.EnvG PySem.Challenge.pw_reelvault_k46_rotations_and_gaps Lw.pd K mg := ⟨c, h, KX, G⟩
    obtain ⟨fd, hb, hF⟩ := Lw.h_law (w := w) E
    have e := hmg.symm.trans (Lw.g_law E)
    cases e
    exact ⟨K, fd, (fun vs H Q _ => Pu.spP K 0 1 Lw.m_law vs H Q fun _ _ _ => False), KX, hb, fun H a ns hl _ hS => Pu.sp_law hS (Lw.law_pure ns hl), fun base _ _ => hF base⟩
end
