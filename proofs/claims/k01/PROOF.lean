import PyProof.Rows.All
import Wide.All
import OpenK.AllK
import Wide.FinOn
import HandS.ForMost
import HandS.ForExc
import HandS.Wide
import HandS.TupAny
import HandS.Deep
import HandS.IsInst
import HandS.ExcOwn
import HandS.Style
import HandS.ExcInit
import HandS.TryMany
import HandS.ExcField
import HandS.EndBits
import HandS.Iter
import HandS.ExcIs
import HandS.Property
import HandS.TryOnly
import HandS.Codes
import PyProof.InstNe
import PyProof.Draws
import KE.GoesMore
import HandS.Star
import HandS.Text
import HandS.FStr
import HandS.Conv
import HandS.More
import HandS.Flow
import HandS.Flt
import HandS.DictComp
import PySem.Challenge.RW_bestseen_k01_rules_refused
set_option Elab.async false
set_option linter.all false
set_option maxRecDepth 100000
set_option maxHeartbeats 4000000
/-! DL: values without a heap, and what a piece of the program makes of them. Part 1: data, how a heap bears them. -/
namespace DL
open PySem L2

inductive Dat where
  | non
  | bl (b : Bool)
  | int (i : Int)
  | str (x : Str)
  | tup (l : List Dat)
  | lst (l : List Dat)
  | dct (ks : List Str) (l : List Dat)
  | rul (f s p : Dat)
  | scr (l : List Int)
  | mref (k : Nat)

/-- what may change and is shared -/
inductive GObj where
  | lst (l : List Dat)
  | ins (ks : List Str) (l : List Dat)
abbrev Gl := List GObj
/-- an error: the number of its class, its fields -/
structure Er where
  c : Nat
  ks : List Str
  vs : List Dat
inductive Rs (α : Type) where
  | no
  | ok (a : α) (g : Gl)
  | er (e : Er) (g : Gl)
def Rs.bind {α β : Type} (r : Rs α) (k : α → Gl → Rs β) : Rs β := match r with
  | .no => .no
  | .ok a g => k a g
  | .er e g => .er e g
def Rs.Post {α : Type} (r : Rs α) (Q : α → Gl → Prop) (E : Er → Gl → Prop) : Prop := match r with
  | .no => False
  | .ok a g => Q a g
  | .er e g => E e g
theorem Rs.post_bind {α β : Type} {r : Rs α} {k : α → Gl → Rs β} {Q : β → Gl → Prop} {E : Er → Gl → Prop} (h : (r.bind k).Post Q E) : r.Post (fun a g => (k a g).Post Q E) E := by
  cases r with
  | no => exact h
  | ok a g => exact h
  | er e g => exact h
theorem Rs.Post.imp {α : Type} {r : Rs α} {Q Q' : α → Gl → Prop} {E E' : Er → Gl → Prop} (h : r.Post Q E) (hQ : ∀ a g, Q a g → Q' a g) (hE : ∀ e g, E e g → E' e g) : r.Post Q' E' := by
  cases r with
  | no => exact h
  | ok a g => exact hQ a g h
  | er e g => exact hE e g h

/-- addresses of the classes -/
structure Gm where
  K : PySem.W.Frag
  rC : Addr
  wC : Addr
  eC : Nat → Addr

section
variable (G : Gm)
mutual
inductive Rp (A : List Addr) (M : Hp) : V → Dat → Prop
  | non : Rp A M .non .non
  | bl (b : Bool) : Rp A M (.bl b) (.bl b)
  | int (i : Int) : Rp A M (.int i) (.int i)
  | str (x : Str) : Rp A M (.str x) (.str x)
  | tup {a : Addr} {xs : List V} {l : List Dat} : SqT G.K M a xs → RpA A M xs l → Rp A M (.ref a) (.tup l)
  | lst {a : Addr} {xs : List V} {l : List Dat} : M a = some (.lst xs) → RpA A M xs l → Rp A M (.ref a) (.lst l)
  | dct {a : Addr} {ks : List Str} {xs : List V} {l : List Dat} : M a = some (.dK ((ks.map Sum.inr).zip xs)) → ks.length = xs.length → RpA A M xs l → Rp A M (.ref a) (.dct ks l)
  | rul {a dx : Addr} {v1 v2 v3 : V} {f s p : Dat} : M a = some (.ins G.rC dx [("begun", v1), ("later", v2), ("part", v3)]) → Rp A M v1 f → Rp A M v2 s → Rp A M v3 p → Rp A M (.ref a) (.rul f s p)
  | scr {a : Addr} {l : List Int} : SqL G.K M a (l.map V.int) → Rp A M (.ref a) (.scr l)
  | mref {a : Addr} {k : Nat} : A[k]? = some a → Rp A M (.ref a) (.mref k)
inductive RpA (A : List Addr) (M : Hp) : List V → List Dat → Prop
  | nil : RpA A M [] []
  | cons {v : V} {vs : List V} {d : Dat} {ds : List Dat} : Rp A M v d → RpA A M vs ds → RpA A M (v :: vs) (d :: ds)
end
end

theorem same_rd {H H' : Hp} {a : Addr} {u : HO} (e : Same H H') (h : Rd H a u) : Rd H' a u := by
  rcases h with h | ⟨o, h⟩
  · exact Or.inl (e a _ h)
  · exact Or.inr ⟨o, e a _ h⟩
theorem same_l {K : PySem.W.Frag} {H H' : Hp} {a : Addr} {xs : List V} (e : Same H H') (h : SqL K H a xs) : SqL K H' a xs := by
  rcases h with h | h
  · exact Or.inl (same_rd e h)
  · exact Or.inr h
theorem same_t {K : PySem.W.Frag} {H H' : Hp} {a : Addr} {xs : List V} (e : Same H H') (h : SqT K H a xs) : SqT K H' a xs := by
  rcases h with h | h
  · exact Or.inl (same_rd e h)
  · exact Or.inr h

section
variable {G : Gm} {A A' : List Addr} {M M' : Hp}
mutual
theorem Rp.mono (hA : ∀ (k : Nat) (a : Addr), A[k]? = some a → A'[k]? = some a) (hM : Same M M') : ∀ {v : V} {d : Dat}, Rp G A M v d → Rp G A' M' v d
  | _, _, .non => .non
  | _, _, .bl b => .bl b
  | _, _, .int i => .int i
  | _, _, .str x => .str x
  | _, _, .tup h r => .tup (same_t hM h) (RpA.mono hA hM r)
  | _, _, .lst h r => .lst (hM _ _ h) (RpA.mono hA hM r)
  | _, _, .dct h e r => .dct (hM _ _ h) e (RpA.mono hA hM r)
  | _, _, .rul h r1 r2 r3 => .rul (hM _ _ h) (Rp.mono hA hM r1) (Rp.mono hA hM r2) (Rp.mono hA hM r3)
  | _, _, .scr h => .scr (same_l hM h)
  | _, _, .mref h => .mref (hA _ _ h)
theorem RpA.mono (hA : ∀ (k : Nat) (a : Addr), A[k]? = some a → A'[k]? = some a) (hM : Same M M') : ∀ {vs : List V} {ds : List Dat}, RpA G A M vs ds → RpA G A' M' vs ds
  | _, _, .nil => .nil
  | _, _, .cons h r => .cons (Rp.mono hA hM h) (RpA.mono hA hM r)
end
theorem RpA.length : ∀ {vs : List V} {ds : List Dat}, RpA G A M vs ds → vs.length = ds.length
  | _, _, .nil => rfl
  | _, _, .cons _ r => congrArg Nat.succ (RpA.length r)
theorem RpA.append : ∀ {vs ws : List V} {ds es : List Dat}, RpA G A M vs ds → RpA G A M ws es → RpA G A M (vs ++ ws) (ds ++ es)
  | _, _, _, _, .nil, s => s
  | _, _, _, _, .cons h r, s => .cons h (RpA.append r s)
theorem RpA.get : ∀ {vs : List V} {ds : List Dat} {i : Nat} {d : Dat}, RpA G A M vs ds → ds[i]? = some d → ∃ v, vs[i]? = some v ∧ Rp G A M v d
  | _, _, _, _, .nil, e => by simp at e
  | _, _, 0, _, .cons h _, e => by simp at e; subst e; exact ⟨_, rfl, h⟩
  | _, _, i + 1, d, .cons _ r, e => by
    obtain ⟨v, h1, h2⟩ := RpA.get (i := i) (d := d) r (by simpa using e)
    exact ⟨v, by simpa using h1, h2⟩
theorem RpA.getV : ∀ {vs : List V} {ds : List Dat} {i : Nat} {v : V}, RpA G A M vs ds → vs[i]? = some v → ∃ d, ds[i]? = some d ∧ Rp G A M v d
  | _, _, _, _, .nil, e => by simp at e
  | _, _, 0, _, .cons h _, e => by simp at e; subst e; exact ⟨_, rfl, h⟩
  | _, _, i + 1, v, .cons _ r, e => by
    obtain ⟨d, h1, h2⟩ := RpA.getV (i := i) (v := v) r (by simpa using e)
    exact ⟨d, by simpa using h1, h2⟩
theorem RpA.set {v : V} {d : Dat} (h : Rp G A M v d) : ∀ {vs : List V} {ds : List Dat} (i : Nat), RpA G A M vs ds → RpA G A M (vs.set i v) (ds.set i d)
  | _, _, _, .nil => .nil
  | _, _, 0, .cons _ r => .cons h r
  | _, _, i + 1, .cons q r => .cons q (RpA.set h i r)
theorem RpA.take : ∀ {vs : List V} {ds : List Dat} (n : Nat), RpA G A M vs ds → RpA G A M (vs.take n) (ds.take n)
  | _, _, 0, _ => .nil
  | _, _, _ + 1, .nil => .nil
  | _, _, n + 1, .cons h r => .cons h (RpA.take n r)
theorem RpA.drop : ∀ {vs : List V} {ds : List Dat} (n : Nat), RpA G A M vs ds → RpA G A M (vs.drop n) (ds.drop n)
  | _, _, 0, r => r
  | _, _, _ + 1, .nil => .nil
  | _, _, n + 1, .cons _ r => RpA.drop n r
theorem RpA.rev : ∀ {vs : List V} {ds : List Dat}, RpA G A M vs ds → RpA G A M vs.reverse ds.reverse
  | _, _, .nil => .nil
  | _, _, .cons h r => by
    rw [List.reverse_cons, List.reverse_cons]
    exact RpA.append (RpA.rev r) (.cons h .nil)
theorem RpA.ints : ∀ (l : List Int), RpA G A M (l.map V.int) (l.map Dat.int)
  | [] => .nil
  | a :: l => .cons (.int a) (RpA.ints l)
end

/-- what is shared and may change -/
def GoOk (G : Gm) (A : List Addr) (M H : Hp) (a : Addr) : GObj → Prop
  | .lst l => ∃ xs, H a = some (.lst xs) ∧ RpA G A M xs l
  | .ins ks l => ∃ dx xs, H a = some (.ins G.wC dx (ks.zip xs)) ∧ ks.length = xs.length ∧ RpA G A M xs l
structure GlOk (G : Gm) (A : List Addr) (M H : Hp) (g : Gl) : Prop where
  len : A.length = g.length
  nd : A.Nodup
  ob : ∀ (k : Nat) (a : Addr) (o : GObj), A[k]? = some a → g[k]? = some o → GoOk G A M H a o
/-- the class and the dict of an error -/
def ErOk (G : Gm) (A : List Addr) (M H : Hp) (e : Er) (cls : Value) (d : Option Addr) : Prop :=
  cls = .ref (G.eC e.c) ∧ e.ks.length = e.vs.length ∧ (e.ks = [] ∨ ∃ dd xs, d = some dd ∧ H dd = some (.xd (e.ks.zip xs)) ∧ RpA G A M xs e.vs)

/-- how a state grows; Z may have been changed -/
structure Grow (Z A A' : List Addr) (M M' H H' : Hp) : Prop where
  keep : ∀ a o, H a = some o → a ∉ A → a ∉ Z → H' a = some o
  mex : Same M M'
  mh : Same M' H'
  mnew : ∀ a o, M' a = some o → M a = some o ∨ H a = none
  aex : ∃ B : List Addr, A' = A ++ B ∧ ∀ a ∈ B, H a = none
  mA : ∀ a ∈ A', M' a = none
/-- what holds of every state -/
structure Wd (A : List Addr) (M H : Hp) : Prop where
  mh : Same M H
  mA : ∀ a ∈ A, M a = none
section
variable {Z A A1 A2 : List Addr} {M M1 M2 H H1 H2 : Hp}
theorem Grow.wd (g : Grow Z A A1 M M1 H H1) : Wd A1 M1 H1 := ⟨g.mh, g.mA⟩
theorem Wd.refl (w : Wd A M H) : Grow Z A A M M H H := ⟨fun _ _ h _ _ => h, Same.refl M, w.mh, fun _ _ h => .inl h, ⟨[], by simp, fun _ h => nomatch h⟩, w.mA⟩
theorem Grow.at (g : Grow Z A A1 M M1 H H1) : ∀ (k : Nat) (a : Addr), A[k]? = some a → A1[k]? = some a := fun k a h => by
  obtain ⟨B, e, _⟩ := g.aex
  rw [e]
  have hk : k < A.length := (List.getElem?_eq_some_iff.mp h).1
  rw [List.getElem?_append_left hk]
  exact h
theorem Grow.non (g : Grow [] A A1 M M1 H H1) {a : Addr} (h : H1 a = none) (ha : a ∉ A) : H a = none := by
  cases e : H a with
  | none => rfl
  | some o =>
    have := g.keep a o e ha (fun h => nomatch h)
    rw [h] at this
    cases this
theorem Grow.notA (g : Grow Z A A1 M M1 H H1) {a : Addr} {o : HO} (h : H a = some o) (ha : a ∉ A) : a ∉ A1 := fun hm => by
  obtain ⟨B, e, hB⟩ := g.aex
  rw [e] at hm
  rcases List.mem_append.mp hm with q | q
  · exact ha q
  · have := hB a q
    rw [h] at this
    cases this
/-- what lies outside A was none or stays: an address that is none behind is none ahead, if the shared ones stand -/
theorem Grow.back (g : Grow Z A A1 M M1 H H1) (hz : ∀ a ∈ A, ∃ o, H1 a = some o) (hZ : ∀ a ∈ Z, ∃ o, H1 a = some o) {a : Addr} (h : H1 a = Option.none) : H a = Option.none := by
  cases e : H a with
  | none => rfl
  | some o =>
    by_cases ha : a ∈ A
    · obtain ⟨u, hu⟩ := hz a ha
      rw [hu] at h
      cases h
    · by_cases hb : a ∈ Z
      · obtain ⟨u, hu⟩ := hZ a hb
        rw [hu] at h
        cases h
      · have := g.keep a o e ha hb
        rw [h] at this
        cases this
end
theorem GlOk.there {G : Gm} {A : List Addr} {M H : Hp} {g : Gl} (w : GlOk G A M H g) : ∀ a ∈ A, ∃ o, H a = some o := fun a ha => by
  obtain ⟨k, hk, e⟩ := List.mem_iff_getElem.mp ha
  have e1 : A[k]? = some a := by rw [List.getElem?_eq_some_iff]; exact ⟨hk, e⟩
  have hg : k < g.length := by rw [← w.len]; exact hk
  have e2 : g[k]? = some g[k] := List.getElem?_eq_some_iff.mpr ⟨hg, rfl⟩
  have := w.ob k a _ e1 e2
  revert this
  cases g[k] with
  | lst l => rintro ⟨xs, h, _⟩; exact ⟨_, h⟩
  | ins ks l => rintro ⟨dx, xs, h, _⟩; exact ⟨_, h⟩
section
variable {Z A A1 A2 : List Addr} {M M1 M2 H H1 H2 : Hp} {G : Gm} {g1 : Gl}
theorem Grow.trans (a : Grow Z A A1 M M1 H H1) (b : Grow [] A1 A2 M1 M2 H1 H2) (w : GlOk G A1 M1 H1 g1) (hZ : ∀ a ∈ Z, ∃ o, H1 a = some o) : Grow Z A A2 M M2 H H2 := by
  obtain ⟨B, e1, h1⟩ := id a.aex
  obtain ⟨C, e2, h2⟩ := id b.aex
  have back : ∀ x, H1 x = Option.none → H x = Option.none := fun x hx =>
    a.back (fun y hy => w.there y (by rw [e1]; exact List.mem_append_left _ hy)) hZ hx
  refine ⟨fun x o h ha hz => ?_, a.mex.trans b.mex, b.mh, fun x o h => ?_, ⟨B ++ C, by rw [e2, e1, List.append_assoc], fun x hx => ?_⟩, b.mA⟩
  · exact b.keep x o (a.keep x o h ha hz) (a.notA h ha) (fun h => nomatch h)
  · rcases b.mnew x o h with q | q
    · exact a.mnew x o q
    · exact .inr (back x q)
  · rcases List.mem_append.mp hx with q | q
    · exact h1 x q
    · exact back x (h2 x q)
theorem Rp.grow {v : V} {d : Dat} (r : Rp G A M v d) (g : Grow Z A A1 M M1 H H1) : Rp G A1 M1 v d := r.mono g.at g.mex
theorem RpA.grow {v : List V} {d : List Dat} (r : RpA G A M v d) (g : Grow Z A A1 M M1 H H1) : RpA G A1 M1 v d := r.mono g.at g.mex
/-- a new thing, that never changes -/
theorem Grow.new {p : Addr} {o : HO} (w : Wd A M H) (gl : GlOk G A M H g1) (h : H p = none) : Grow [] A A M (upd M p o) H (upd H p o) := by
  have pa : p ∉ A := fun hp => by
    obtain ⟨u, hu⟩ := gl.there p hp
    rw [h] at hu
    cases hu
  have mp : M p = Option.none := by
    cases e : M p with
    | none => rfl
    | some u =>
      have := w.mh p u e
      rw [h] at this
      cases this
  refine ⟨fun x u hx _ _ => by rw [upd_ne (ne_of_none hx h)]; exact hx, fun x u hx => by rw [upd_ne (ne_of_none hx mp)]; exact hx, fun x u hx => ?_, fun x u hx => ?_, ⟨[], by simp, fun _ h => nomatch h⟩, fun x hx => ?_⟩
  · by_cases e : x = p
    · subst e
      rw [upd_same] at hx
      rw [upd_same]
      exact hx
    · rw [upd_ne e] at hx
      rw [upd_ne e]
      exact w.mh x u hx
  · by_cases e : x = p
    · subst e
      exact .inr h
    · rw [upd_ne e] at hx
      exact .inl hx
  · have e : x ≠ p := fun e => pa (e ▸ hx)
    rw [upd_ne e]
    exact w.mA x hx
/-- .. that is not frozen -/
theorem Grow.newH {p : Addr} {o : HO} (w : Wd A M H) (h : H p = none) : Grow [] A A M M H (upd H p o) := by
  have mp : ∀ x u, M x = some u → x ≠ p := fun x u hx e => by
    subst e
    have := w.mh x u hx
    rw [h] at this
    cases this
  exact ⟨fun x u hx _ _ => by rw [upd_ne (ne_of_none hx h)]; exact hx, Same.refl M, fun x u hx => by rw [upd_ne (mp x u hx)]; exact w.mh x u hx, fun x u hx => .inl hx, ⟨[], by simp, fun _ h => nomatch h⟩, w.mA⟩
theorem GoOk.grow {a : Addr} {o : GObj} {A2 : List Addr} {M2 H2 : Hp} (x : GoOk G A M H a o) (hA : ∀ (k : Nat) (b : Addr), A[k]? = some b → A2[k]? = some b) (hM : Same M M2) (hH : H2 a = H a) : GoOk G A2 M2 H2 a o := by
  cases o with
  | lst l =>
    obtain ⟨xs, h, r⟩ := x
    exact ⟨xs, hH.trans h, r.mono hA hM⟩
  | ins ks l =>
    obtain ⟨dx, xs, h, e, r⟩ := x
    exact ⟨dx, xs, hH.trans h, e, r.mono hA hM⟩
/-- M grows, the shared objects are as they were -/
theorem GlOk.stay (x : GlOk G A M H g1) (hM : Same M M1) (hH : ∀ a ∈ A, H1 a = H a) : GlOk G A M1 H1 g1 :=
  ⟨x.len, x.nd, fun k a o h1 h2 => (x.ob k a o h1 h2).grow (fun _ _ h => h) hM (hH a (List.mem_of_getElem? h1))⟩
theorem GlOk.new {p : Addr} {o : HO} (x : GlOk G A M H g1) (w : Wd A M H) (h : H p = none) : GlOk G A (upd M p o) (upd H p o) g1 :=
  x.stay (Grow.new (o := o) w x h).mex fun a ha => upd_ne fun e => by
    obtain ⟨u, hu⟩ := x.there a ha
    rw [e, h] at hu
    cases hu
theorem GlOk.newH {p : Addr} {o : HO} (x : GlOk G A M H g1) (h : H p = none) : GlOk G A M (upd H p o) g1 :=
  x.stay (Same.refl M) fun a ha => upd_ne fun e => by
    obtain ⟨u, hu⟩ := x.there a ha
    rw [e, h] at hu
    cases hu
end
end DL

/-! DL, part 2: slots, states, what an expression makes of them. -/
namespace DL
open PySem L2

inductive Slot where
  | unset
  | sh (d : Dat)
  | own (l : List Dat)
  | ownD (ks : List Str) (l : List Dat)
  | self (ks : List Str) (l : List Dat)
  | exc (e : Er)
abbrev DEnv := List Slot
def isOwn : Option Slot → Bool
  | some (.own _) => true
  | some (.ownD _ _) => true
  | some (.self _ _) => true
  | _ => false

/-- where one stands: the classes, the exception at hand (its address, class, dict), the class of the object in the making, what is wished of an exception -/
structure Wc where
  G : Gm
  xa : Addr
  xc : Value
  xd : Option Addr
  sC : Addr
  W : WX
/-- the state at the entry; what of it may change -/
structure Bs where
  Z : List Addr
  A : List Addr
  M : Hp
  H : Hp
def Mine (B : Bs) (A : List Addr) (M : Hp) (p : Addr) : Prop := M p = none ∧ p ∉ A ∧ B.H p = none
def MineS (B : Bs) (A : List Addr) (M : Hp) (p : Addr) : Prop := M p = none ∧ p ∉ A ∧ p ∈ B.Z
def SlotOk (w : Wc) (B : Bs) (A : List Addr) (M H : Hp) (v : Option (Option V)) : Slot → Prop
  | .unset => True
  | .sh d => ∃ u, v = some (some u) ∧ Rp w.G A M u d
  | .own l => ∃ p xs, v = some (some (.ref p)) ∧ H p = some (.lst xs) ∧ RpA w.G A M xs l ∧ Mine B A M p
  | .ownD ks l => ∃ p xs, v = some (some (.ref p)) ∧ H p = some (.dK ((ks.map Sum.inr).zip xs)) ∧ ks.length = xs.length ∧ RpA w.G A M xs l ∧ Mine B A M p
  | .self ks l => ∃ p dx xs, v = some (some (.ref p)) ∧ H p = some (.ins w.sC dx (ks.zip xs)) ∧ ks.length = xs.length ∧ RpA w.G A M xs l ∧ MineS B A M p
  | .exc e => v = some (some (.ref w.xa)) ∧ ErOk w.G A M H e w.xc w.xd ∧ (e.ks = [] ∨ ∃ dd, w.xd = some dd ∧ dd ∉ A)
structure Rel (w : Wc) (B : Bs) (A : List Addr) (M H : Hp) (σ : L2.St) (ds : DEnv) (g : Gl) : Prop where
  gr : Grow B.Z B.A A B.M M B.H H
  gl : GlOk w.G A M H g
  len : σ.length = ds.length
  sl : ∀ (i : Nat) (s : Slot), ds[i]? = some s → SlotOk w B A M H (σ[i]?) s
  dj : ∀ (i j : Nat) (p : Addr), i ≠ j → isOwn ds[i]? = true → isOwn ds[j]? = true → σ[i]? = some (some (.ref p)) → σ[j]? = some (some (.ref p)) → False
  zo : ∀ a ∈ B.Z, ∃ o, H a = some o
section
variable {w : Wc} {B : Bs} {A A1 : List Addr} {M M1 H H1 : Hp} {σ : L2.St} {ds : DEnv} {g g1 : Gl}
theorem Mine.grow {p : Addr} {o : HO} (m : Mine B A M p) (e : H p = some o) (h : Grow [] A A1 M M1 H H1) : Mine B A1 M1 p := by
  obtain ⟨m1, m2, m3⟩ := m
  refine ⟨?_, h.notA e m2, m3⟩
  cases q : M1 p with
  | none => rfl
  | some u =>
    rcases h.mnew p u q with z | z
    · rw [m1] at z
      cases z
    · rw [e] at z
      cases z
theorem MineS.grow {p : Addr} {o : HO} (m : MineS B A M p) (e : H p = some o) (h : Grow [] A A1 M M1 H H1) : MineS B A1 M1 p := by
  obtain ⟨m1, m2, m3⟩ := m
  refine ⟨?_, h.notA e m2, m3⟩
  cases q : M1 p with
  | none => rfl
  | some u =>
    rcases h.mnew p u q with z | z
    · rw [m1] at z
      cases z
    · rw [e] at z
      cases z
theorem SlotOk.grow {v : Option (Option V)} {s : Slot} (x : SlotOk w B A M H v s) (h : Grow [] A A1 M M1 H H1) : SlotOk w B A1 M1 H1 v s := by
  cases s with
  | unset => trivial
  | sh d =>
    obtain ⟨u, e, r⟩ := x
    exact ⟨u, e, r.grow h⟩
  | own l =>
    obtain ⟨p, xs, e, hp, r, m⟩ := x
    exact ⟨p, xs, e, h.keep p _ hp m.2.1 (fun z => nomatch z), r.grow h, m.grow hp h⟩
  | ownD ks l =>
    obtain ⟨p, xs, e, hp, el, r, m⟩ := x
    exact ⟨p, xs, e, h.keep p _ hp m.2.1 (fun z => nomatch z), el, r.grow h, m.grow hp h⟩
  | self ks l =>
    obtain ⟨p, dx, xs, e, hp, el, r, m⟩ := x
    exact ⟨p, dx, xs, e, h.keep p _ hp m.2.1 (fun z => nomatch z), el, r.grow h, m.grow hp h⟩
  | exc e =>
    obtain ⟨e1, ⟨e2, e3, e4⟩, e5⟩ := x
    refine ⟨e1, ⟨e2, e3, ?_⟩, ?_⟩
    · rcases e4 with e4 | ⟨dd, xs, d1, d2, d3⟩
      · exact .inl e4
      · rcases e5 with e5 | ⟨dd', d4, d5⟩
        · exact .inl e5
        · have ed : dd' = dd := Option.some.inj (d4.symm.trans d1)
          rw [ed] at d5
          exact .inr ⟨dd, xs, d1, h.keep dd _ d2 d5 (fun z => nomatch z), d3.grow h⟩
    · rcases e4 with e4 | ⟨dd, xs, d1, d2, d3⟩
      · exact .inl e4
      · rcases e5 with e5 | ⟨dd', d4, d5⟩
        · exact .inl e5
        · have ed : dd' = dd := Option.some.inj (d4.symm.trans d1)
          rw [ed] at d5
          exact .inr ⟨dd, d1, h.notA d2 d5⟩
theorem Rel.zoG (r : Rel w B A M H σ ds g) (h : Grow [] A A1 M M1 H H1) (gl : GlOk w.G A1 M1 H1 g1) : ∀ a ∈ B.Z, ∃ o, H1 a = some o := fun a ha => by
  obtain ⟨o, ho⟩ := r.zo a ha
  by_cases hA : a ∈ A
  · obtain ⟨C, e, _⟩ := h.aex
    exact gl.there a (by rw [e]; exact List.mem_append_left _ hA)
  · exact ⟨o, h.keep a o ho hA (fun z => nomatch z)⟩
theorem Rel.grow (r : Rel w B A M H σ ds g) (h : Grow [] A A1 M M1 H H1) (gl : GlOk w.G A1 M1 H1 g1) : Rel w B A1 M1 H1 σ ds g1 :=
  ⟨r.gr.trans h r.gl r.zo, gl, r.len, fun i s e => (r.sl i s e).grow h, r.dj, r.zoG h gl⟩
theorem Rel.wd (r : Rel w B A M H σ ds g) : Wd A M H := r.gr.wd
end

/-! ### readings by functions -/
abbrev DE := DEnv → Gl → Rs Dat
abbrev DT := DEnv → Gl → Rs Bool
abbrev DA := DEnv → Gl → Rs (List Dat)
/-- read, not kept: a thing of one's own too -/
inductive Rb (G : Gm) (A : List Addr) (M H : Hp) : V → Dat → Prop
  | fz {v : V} {d : Dat} : Rp G A M v d → Rb G A M H v d
  | own {a : Addr} {xs : List V} {l : List Dat} : H a = some (.lst xs) → a ∉ A → RpA G A M xs l → Rb G A M H (.ref a) (.lst l)
  | ownD {a : Addr} {ks : List Str} {xs : List V} {l : List Dat} : H a = some (.dK ((ks.map Sum.inr).zip xs)) → a ∉ A → ks.length = xs.length → RpA G A M xs l → Rb G A M H (.ref a) (.dct ks l)
abbrev RbA (G : Gm) (A : List Addr) (M H : Hp) : List V → List Dat → Prop := Paired (Rb G A M H)
section
variable {G : Gm} {A A1 : List Addr} {M M1 H H1 : Hp} {v : V} {d : Dat} {l : List Dat}
theorem Rb.grow (r : Rb G A M H v d) (h : Grow [] A A1 M M1 H H1) : Rb G A1 M1 H1 v d := by
  cases r with
  | fz r => exact .fz (r.grow h)
  | own e n r => exact .own (h.keep _ _ e n (fun z => nomatch z)) (h.notA e n) (r.grow h)
  | ownD e n q r => exact .ownD (h.keep _ _ e n (fun z => nomatch z)) (h.notA e n) q (r.grow h)
theorem RbA.grow : ∀ {vs : List V} {l : List Dat}, RbA G A M H vs l → Grow [] A A1 M M1 H H1 → RbA G A1 M1 H1 vs l
  | _, _, .nil, _ => .nil
  | _, _, .cons r t, h => .cons (Rb.grow r h) (RbA.grow t h)
theorem Rb.lst (r : Rb G A M H v (.lst l)) (w : Wd A M H) : ∃ a xs, v = .ref a ∧ H a = some (.lst xs) ∧ a ∉ A ∧ RpA G A M xs l := by
  cases r with
  | fz r =>
    cases r with
    | lst h r => exact ⟨_, _, rfl, w.mh _ _ h, (fun ha => by have := w.mA _ ha; rw [h] at this; cases this), r⟩
  | own h n r => exact ⟨_, _, rfl, h, n, r⟩
theorem Rb.dct {ks : List Str} (r : Rb G A M H v (.dct ks l)) (w : Wd A M H) : ∃ a xs, v = .ref a ∧ H a = some (.dK ((ks.map Sum.inr).zip xs)) ∧ a ∉ A ∧ ks.length = xs.length ∧ RpA G A M xs l := by
  cases r with
  | fz r =>
    cases r with
    | dct h e r => exact ⟨_, _, rfl, w.mh _ _ h, (fun ha => by have := w.mA _ ha; rw [h] at this; cases this), e, r⟩
  | ownD h n e r => exact ⟨_, _, rfl, h, n, e, r⟩
theorem Rb.tup (r : Rb G A M H v (.tup l)) (w : Wd A M H) : ∃ a xs, v = .ref a ∧ SqT G.K H a xs ∧ RpA G A M xs l := by
  cases r with
  | fz r => cases r with | tup h r => exact ⟨_, _, rfl, same_t w.mh h, r⟩
theorem Rb.int {i : Int} (r : Rb G A M H v (.int i)) : v = .int i := by
  cases r with | fz r => cases r; rfl
theorem Rb.bl {i : Bool} (r : Rb G A M H v (.bl i)) : v = .bl i := by
  cases r with | fz r => cases r; rfl
theorem Rb.str {i : Str} (r : Rb G A M H v (.str i)) : v = .str i := by
  cases r with | fz r => cases r; rfl
theorem Rb.non (r : Rb G A M H v .non) : v = .non := by
  cases r with | fz r => cases r; rfl
theorem RbA.of : ∀ {vs : List V} {l : List Dat}, RpA G A M vs l → RbA G A M H vs l
  | _, _, .nil => .nil
  | _, _, .cons r t => .cons (.fz r) (RbA.of t)
end
/-- what is wanted of a value; of an exception -/
def QE (G : Gm) (A : List Addr) (M H : Hp) (Q : VK) : Dat → Gl → Prop := fun d g' => ∀ v A' M' H', Grow [] A A' M M' H H' → GlOk G A' M' H' g' → Rp G A' M' v d → Q v H'
def QB (G : Gm) (A : List Addr) (M H : Hp) (Q : VK) : Dat → Gl → Prop := fun d g' => ∀ v A' M' H', Grow [] A A' M M' H H' → GlOk G A' M' H' g' → Rb G A' M' H' v d → Q v H'
def QF (G : Gm) (A : List Addr) (M H : Hp) (Q : VK) : List Dat → Gl → Prop := fun l g' => ∀ p xs A' M' H', Grow [] A A' M M' H H' → GlOk G A' M' H' g' → H p = none → H' p = some (.lst xs) → M' p = none → p ∉ A' → RpA G A' M' xs l → Q (.ref p) H'
def QT (G : Gm) (A : List Addr) (M H : Hp) (Q : Bool → Hp → Prop) : Bool → Gl → Prop := fun b g' => ∀ A' M' H', Grow [] A A' M M' H H' → GlOk G A' M' H' g' → Q b H'
def QA (G : Gm) (A : List Addr) (M H : Hp) (Q : List V → Hp → Prop) : List Dat → Gl → Prop := fun l g' => ∀ vs A' M' H', Grow [] A A' M M' H H' → GlOk G A' M' H' g' → RpA G A' M' vs l → Q vs H'
def QAB (G : Gm) (A : List Addr) (M H : Hp) (Q : List V → Hp → Prop) : List Dat → Gl → Prop := fun l g' => ∀ vs A' M' H', Grow [] A A' M M' H H' → GlOk G A' M' H' g' → RbA G A' M' H' vs l → Q vs H'
def EE (w : Wc) (A : List Addr) (M H : Hp) (σ : L2.St) : Er → Gl → Prop := fun e g' => ∀ cls dd A' M' H', Grow [] A A' M M' H H' → GlOk w.G A' M' H' g' → ErOk w.G A' M' H' e cls dd → w.W cls dd σ H'
/-- the readings -/
def tD (w : Wc) (f : DE) : TE := fun σ H Q => ∃ B A M ds g, Rel w B A M H σ ds g ∧ (f ds g).Post (QE w.G A M H Q) (EE w A M H σ)
def bD (w : Wc) (f : DE) : TE := fun σ H Q => ∃ B A M ds g, Rel w B A M H σ ds g ∧ (f ds g).Post (QB w.G A M H Q) (EE w A M H σ)
def fD (w : Wc) (f : DA) : TE := fun σ H Q => ∃ B A M ds g, Rel w B A M H σ ds g ∧ (f ds g).Post (QF w.G A M H Q) (EE w A M H σ)
def cD (w : Wc) (f : DT) : TT := fun σ H Q => ∃ B A M ds g, Rel w B A M H σ ds g ∧ (f ds g).Post (QT w.G A M H Q) (EE w A M H σ)
def aD (w : Wc) (f : DA) : TA := fun σ H Q => ∃ B A M ds g, Rel w B A M H σ ds g ∧ (f ds g).Post (QA w.G A M H Q) (EE w A M H σ)
def abD (w : Wc) (f : DA) : TA := fun σ H Q => ∃ B A M ds g, Rel w B A M H σ ds g ∧ (f ds g).Post (QAB w.G A M H Q) (EE w A M H σ)
/-- a value that is kept | read | a new list | a test | arguments kept | read -/
abbrev KD (X : Cx) (w : Wc) (e : Expr) (f : DE) : Prop := PE X e (tD w f)
abbrev BD (X : Cx) (w : Wc) (e : Expr) (f : DE) : Prop := PE X e (bD w f)
abbrev FD (X : Cx) (w : Wc) (e : Expr) (f : DA) : Prop := PE X e (fD w f)
abbrev TD (X : Cx) (w : Wc) (e : Expr) (f : DT) : Prop := PT X e (cD w f)
abbrev WD (X : Cx) (w : Wc) (e : Expr) (f : DT) : Prop := PW X e (cD w f)
abbrev AD (X : Cx) (w : Wc) (e : List Expr) (f : DA) : Prop := PA X e (aD w f)
abbrev ABD (X : Cx) (w : Wc) (e : List Expr) (f : DA) : Prop := PA X e (abD w f)
theorem pe_imp {X : Cx} {e : Expr} {t t' : TE} (h : PE X e t) (hi : ∀ σ H Q, t' σ H Q → t σ H Q) : PE X e t' := ⟨fun pins s σ H Q I q => h.run pins s σ H Q I (hi σ H Q q)⟩
theorem pt_imp {X : Cx} {e : Expr} {t t' : TT} (h : PT X e t) (hi : ∀ σ H Q, t' σ H Q → t σ H Q) : PT X e t' := ⟨fun pins s σ H Q I q => h.run pins s σ H Q I (hi σ H Q q)⟩
theorem pw_imp {X : Cx} {e : Expr} {t t' : TT} (h : PW X e t) (hi : ∀ σ H Q, t' σ H Q → t σ H Q) : PW X e t' := ⟨fun wh pins s σ H Q I q => h.run wh pins s σ H Q I (hi σ H Q q)⟩
theorem pa_imp {X : Cx} {e : List Expr} {t t' : TA} (h : PA X e t) (hi : ∀ σ H Q, t' σ H Q → t σ H Q) : PA X e t' := ⟨fun pos pins s σ H Q I q => h.run pos pins s σ H Q I (hi σ H Q q)⟩
section
variable {G : Gm} {w : Wc} {A A1 : List Addr} {M M1 H H1 : Hp} {g1 : Gl} {σ : L2.St}
theorem QE.on {Q : VK} {d : Dat} {g : Gl} (q : QE G A M H Q d g) (h : Grow [] A A1 M M1 H H1) (gl : GlOk G A1 M1 H1 g1) : QE G A1 M1 H1 Q d g := fun v A' M' H' h' gl' r => q v A' M' H' (h.trans h' gl (fun _ z => nomatch z)) gl' r
theorem QB.on {Q : VK} {d : Dat} {g : Gl} (q : QB G A M H Q d g) (h : Grow [] A A1 M M1 H H1) (gl : GlOk G A1 M1 H1 g1) : QB G A1 M1 H1 Q d g := fun v A' M' H' h' gl' r => q v A' M' H' (h.trans h' gl (fun _ z => nomatch z)) gl' r
theorem QT.on {Q : Bool → Hp → Prop} {d : Bool} {g : Gl} (q : QT G A M H Q d g) (h : Grow [] A A1 M M1 H H1) (gl : GlOk G A1 M1 H1 g1) : QT G A1 M1 H1 Q d g := fun A' M' H' h' gl' => q A' M' H' (h.trans h' gl (fun _ z => nomatch z)) gl'
theorem QA.on {Q : List V → Hp → Prop} {d : List Dat} {g : Gl} (q : QA G A M H Q d g) (h : Grow [] A A1 M M1 H H1) (gl : GlOk G A1 M1 H1 g1) : QA G A1 M1 H1 Q d g := fun v A' M' H' h' gl' r => q v A' M' H' (h.trans h' gl (fun _ z => nomatch z)) gl' r
theorem QAB.on {Q : List V → Hp → Prop} {d : List Dat} {g : Gl} (q : QAB G A M H Q d g) (h : Grow [] A A1 M M1 H H1) (gl : GlOk G A1 M1 H1 g1) : QAB G A1 M1 H1 Q d g := fun v A' M' H' h' gl' r => q v A' M' H' (h.trans h' gl (fun _ z => nomatch z)) gl' r
theorem QF.on {Q : VK} {d : List Dat} {g : Gl} (q : QF G A M H Q d g) (h : Grow [] A A1 M M1 H H1) (gl : GlOk G A1 M1 H1 g1) : QF G A1 M1 H1 Q d g := fun p xs A' M' H' h' gl' n e mn na r => by
  refine q p xs A' M' H' (h.trans h' gl (fun _ z => nomatch z)) gl' ?_ e mn na r
  obtain ⟨B, ea, _⟩ := id h.aex
  refine h.back (fun y hy => gl.there y (by rw [ea]; exact List.mem_append_left _ hy)) (fun _ z => nomatch z) n
theorem EE.on {e : Er} {g : Gl} (q : EE w A M H σ e g) (h : Grow [] A A1 M M1 H H1) (gl : GlOk w.G A1 M1 H1 g1) : EE w A1 M1 H1 σ e g := fun cls dd A' M' H' h' gl' r => q cls dd A' M' H' (h.trans h' gl (fun _ z => nomatch z)) gl' r
end
section
variable {X : Cx} {w : Wc} {e : Expr} {f : DE} {ff : DA}
theorem KD.b (h : KD X w e f) : BD X w e f := pe_imp h fun σ H Q ⟨B, A, M, ds, g, r, p⟩ => ⟨B, A, M, ds, g, r, p.imp (fun d g q v A' M' H' h gl rp => q v A' M' H' h gl (.fz rp)) fun _ _ z => z⟩
theorem AD.b {es : List Expr} (h : AD X w es ff) : ABD X w es ff := pa_imp h fun σ H Q ⟨B, A, M, ds, g, r, p⟩ => ⟨B, A, M, ds, g, r, p.imp (fun d g q v A' M' H' h gl rp => q v A' M' H' h gl (RbA.of rp)) fun _ _ z => z⟩
/-- a new list that is not to change any more -/
def dFz (f : DA) : DE := fun ds g => (f ds g).bind fun l g => .ok (.lst l) g
theorem fz_go {σ : L2.St} {H : Hp} {Q : VK} : tD w (dFz ff) σ H Q → fD w ff σ H Q := fun ⟨B, A, M, ds, g, r, p⟩ => ⟨B, A, M, ds, g, r, (Rs.post_bind p).imp (fun l g1 q p xs A' M' H' h gl n ep mn na rp => by
    have hup : ∀ a u, upd M' p (.lst xs) a = some u → H' a = some u := fun a u ha => by
      by_cases e : a = p
      · subst e
        rw [upd_same] at ha
        rw [ep]
        exact ha
      · rw [upd_ne e] at ha
        exact h.mh a u ha
    have hm : Same M' (upd M' p (.lst xs)) := fun a u ha => by
      rw [upd_ne (ne_of_none ha mn)]
      exact ha
    refine q (.ref p) A' (upd M' p (.lst xs)) H' ⟨h.keep, h.mex.trans hm, hup, fun a u ha => ?_, h.aex, fun a ha => ?_⟩ (gl.stay hm fun _ _ => rfl) (.lst upd_same (rp.mono (fun _ _ z => z) hm))
    · by_cases e : a = p
      · subst e
        exact .inr n
      · rw [upd_ne e] at ha
        exact h.mnew a u ha
    · have e : a ≠ p := fun e => na (by rw [← e]; exact ha)
      rw [upd_ne e]
      exact h.mA a ha) fun _ _ z => z⟩
theorem FD.k (h : FD X w e ff) : KD X w e (dFz ff) := pe_imp h fun σ H Q q => fz_go q
end
end DL

/-! DL, part 3: names, constants, operators, tests, displays. -/
namespace DL
open PySem L2

/-! ### names, constants -/
def dVar (i : Nat) : DE := fun ds g => match ds[i]? with
  | some (.sh d) => .ok d g
  | _ => .no
def dBor (i : Nat) : DE := fun ds g => match ds[i]? with
  | some (.sh d) => .ok d g
  | some (.own l) => .ok (.lst l) g
  | some (.ownD ks l) => .ok (.dct ks l) g
  | _ => .no
def dC (d : Dat) : DE := fun _ g => .ok d g
section
variable {X : Cx} {w : Wc}
theorem k_name {e : Expr} {i : Nat} (h : PE X e (tVar i)) : KD X w e (dVar i) := pe_imp h fun σ H Q ⟨B, A, M, ds, g, r, p⟩ => by
  unfold dVar at p
  revert p
  split
  · rename_i d hd
    intro q
    obtain ⟨u, e1, e2⟩ := r.sl i _ hd
    exact ⟨u, e1, q u A M H r.wd.refl r.gl e2⟩
  · intro q
    exact q.elim
theorem b_name {e : Expr} {i : Nat} (h : PE X e (tVar i)) : BD X w e (dBor i) := pe_imp h fun σ H Q ⟨B, A, M, ds, g, r, p⟩ => by
  unfold dBor at p
  revert p
  split
  · rename_i d hd
    intro q
    obtain ⟨u, e1, e2⟩ := r.sl i _ hd
    exact ⟨u, e1, q u A M H r.wd.refl r.gl (.fz e2)⟩
  · rename_i l hd
    intro q
    obtain ⟨a, xs, e1, e2, e3, e4⟩ := r.sl i _ hd
    exact ⟨.ref a, e1, q (.ref a) A M H r.wd.refl r.gl (.own e2 e4.2.1 e3)⟩
  · rename_i ks l hd
    intro q
    obtain ⟨a, xs, e1, e2, el, e3, e4⟩ := r.sl i _ hd
    exact ⟨.ref a, e1, q (.ref a) A M H r.wd.refl r.gl (.ownD e2 e4.2.1 el e3)⟩
  · intro q
    exact q.elim
theorem k_c {e : Expr} {v : V} {d : Dat} (h : PE X e (tC v)) (hr : ∀ A M, Rp w.G A M v d) : KD X w e (dC d) := pe_imp h fun σ H Q ⟨B, A, M, ds, g, r, p⟩ => p v A M H r.wd.refl r.gl (hr A M)
theorem k_int {i : Int} {j pos} : KD X w (.Constant (.int i) j pos) (dC (.int i)) := k_c pe_int fun _ _ => .int i
theorem k_bl {i : Bool} {j pos} : KD X w (.Constant (.bool i) j pos) (dC (.bl i)) := k_c pe_bl fun _ _ => .bl i
theorem k_non {j pos} : KD X w (.Constant .none j pos) (dC .non) := k_c pe_non fun _ _ => .non
theorem k_str {i : Str} {j pos} : KD X w (.Constant (.str i) j pos) (dC (.str i)) := k_c pe_str fun _ _ => .str i
end

/-! ### operators by values -/
def R2ok (G : Gm) (r : R2) (o : Dat → Dat → Option Dat) : Prop := ∀ (A : List Addr) (M H : Hp) (g : Gl) (x y : V) (d e z : Dat) (Q : VK), Wd A M H → GlOk G A M H g → Rb G A M H x d → Rb G A M H y e → o d e = some z → QE G A M H Q z g → r x y H Q
/-- .. that tell a Bool -/
def R2T (G : Gm) (r : R2) (o : Dat → Dat → Option Bool) : Prop := ∀ (A : List Addr) (M H : Hp) (g : Gl) (x y : V) (d e : Dat) (b : Bool) (Q : VK), Wd A M H → GlOk G A M H g → Rb G A M H x d → Rb G A M H y e → o d e = some b → Q (.bl b) H → r x y H Q
/-- .. that make a new list -/
def R2F (G : Gm) (r : R2) (o : Dat → Dat → Option (List Dat)) : Prop := ∀ (A : List Addr) (M H : Hp) (g : Gl) (x y : V) (d e : Dat) (z : List Dat) (Q : VK), Wd A M H → GlOk G A M H g → Rb G A M H x d → Rb G A M H y e → o d e = some z → QF G A M H Q z g → r x y H Q
def Rs.opt {α : Type} (o : Option α) (g : Gl) : Rs α := match o with
  | some a => .ok a g
  | none => .no
def d2 {α : Type} (o : Dat → Dat → Option α) (fa fb : DE) : DEnv → Gl → Rs α := fun ds g => (fa ds g).bind fun x g => (fb ds g).bind fun y g => Rs.opt (o x y) g
def ror (r r' : R2) : R2 := fun x y H Q => r x y H Q ∨ r' x y H Q
theorem OpR.ror {X : Cx} {f : Value → Value → Sem Value} {r r' : R2} (h : OpR X f r) (h' : OpR X f r') : OpR X f (DL.ror r r') := fun pins s σ H x y v u Q I rx ry q => by
  rcases q with q | q
  · exact h pins s σ H x y v u Q I rx ry q
  · exact h' pins s σ H x y v u Q I rx ry q
def oor {α : Type} (o o' : Dat → Dat → Option α) : Dat → Dat → Option α := fun d e => match o d e with
  | some z => some z
  | none => o' d e
section
variable {G : Gm} {r r' : R2}
theorem R2ok.or {o o' : Dat → Dat → Option Dat} (h : R2ok G r o) (h' : R2ok G r' o') : R2ok G (ror r r') (oor o o') := fun A M H g x y d e z Q wd gl rx ry ez q => by
  unfold oor at ez
  cases eo : o d e with
  | some u =>
    rw [eo] at ez
    cases ez
    exact .inl (h A M H g x y d e z Q wd gl rx ry eo q)
  | none =>
    rw [eo] at ez
    exact .inr (h' A M H g x y d e z Q wd gl rx ry ez q)
theorem R2T.or {o o' : Dat → Dat → Option Bool} (h : R2T G r o) (h' : R2T G r' o') : R2T G (ror r r') (oor o o') := fun A M H g x y d e z Q wd gl rx ry ez q => by
  unfold oor at ez
  cases eo : o d e with
  | some u =>
    rw [eo] at ez
    cases ez
    exact .inl (h A M H g x y d e z Q wd gl rx ry eo q)
  | none =>
    rw [eo] at ez
    exact .inr (h' A M H g x y d e z Q wd gl rx ry ez q)
end
section
variable {X : Cx} {w : Wc} {a b c : Expr} {fa fb fc : DE} {pos : Pos}
/-- two operands, then an operation -/
theorem bin2 {α : Type} {r : R2} {o : Dat → Dat → Option α} {σ : L2.St} {H : Hp} {Q : VK} {P : List Addr → Hp → Hp → α → Gl → Prop}
    (h : ∃ B A M ds g, Rel w B A M H σ ds g ∧ (d2 o fa fb ds g).Post (P A M H) (EE w A M H σ))
    (hon : ∀ A M H A1 M1 H1 g1 z g, P A M H z g → Grow [] A A1 M M1 H H1 → GlOk w.G A1 M1 H1 g1 → P A1 M1 H1 z g)
    (k : ∀ A M H g x y d e z, Wd A M H → GlOk w.G A M H g → Rb w.G A M H x d → Rb w.G A M H y e → o d e = some z → P A M H z g → r x y H Q) : tOp r (bD w fa) (bD w fb) σ H Q := by
  obtain ⟨B, A, M, ds, g, rel, p⟩ := h
  refine ⟨B, A, M, ds, g, rel, (Rs.post_bind p).imp (fun d g1 p1 x A1 M1 H1 gr1 gl1 r1 => ?_) fun _ _ z => z⟩
  have p1' := Rs.post_bind p1
  refine ⟨B, A1, M1, ds, g1, rel.grow gr1 gl1, p1'.imp (fun e g2 p2 y A2 M2 H2 gr2 gl2 r2 => ?_) fun e g z => EE.on z gr1 gl1⟩
  unfold Rs.opt at p2
  cases eo : o d e with
  | none =>
    rw [eo] at p2
    exact p2.elim
  | some z =>
    rw [eo] at p2
    exact k A2 M2 H2 g2 x y d e z gr2.wd gl2 (r1.grow gr2) r2 eo (hon _ _ _ _ _ _ _ _ _ p2 (gr1.trans gr2 gl1 (fun _ h => nomatch h)) gl2)
theorem k_op {op : Operator} {r : R2} {o : Dat → Dat → Option Dat} (ho : OpR X (binaryOp op) r) (hr : R2ok w.G r o) (ha : BD X w a fa) (hb : BD X w b fb) : KD X w (.BinOp a op b pos) (d2 o fa fb) :=
  pe_imp (pe_op ho ha hb) fun σ H Q h => bin2 (P := fun A M H => QE w.G A M H Q) h (fun _ _ _ _ _ _ _ _ _ q g l => q.on g l) fun A M H g x y d e z wd gl rx ry eo q => hr A M H g x y d e z Q wd gl rx ry eo q
theorem f_op {op : Operator} {r : R2} {o : Dat → Dat → Option (List Dat)} (ho : OpR X (binaryOp op) r) (hr : R2F w.G r o) (ha : BD X w a fa) (hb : BD X w b fb) : FD X w (.BinOp a op b pos) (d2 o fa fb) :=
  pe_imp (pe_op ho ha hb) fun σ H Q h => bin2 (P := fun A M H => QF w.G A M H Q) h (fun _ _ _ _ _ _ _ _ _ q g l => q.on g l) fun A M H g x y d e z wd gl rx ry eo q => hr A M H g x y d e z Q wd gl rx ry eo q
/-- a Bool as a value -/
def dB (f : DT) : DE := fun ds g => (f ds g).bind fun b g => .ok (.bl b) g
theorem post_opt {α : Type} {o : Option α} {g : Gl} {Q : α → Gl → Prop} {E : Er → Gl → Prop} (h : (Rs.opt o g).Post Q E) : ∃ a, o = some a ∧ Q a g := by
  cases o with
  | none => exact h.elim
  | some a => exact ⟨a, rfl, h⟩
theorem t_cmp {op : CmpOp} {r : R2} {o : Dat → Dat → Option Bool} (ho : OpR X (compareOp op) r) (hr : R2T w.G r o) (ha : BD X w a fa) (hb : BD X w b fb) (hm : behindInMarks op b = false) : TD X w (.Compare a [op] [b] pos) (d2 o fa fb) :=
  pt_imp (pt_cmpR ho ha hb hm) fun σ H Q h => bin2 (P := fun A M H => QT w.G A M H Q) h (fun _ _ _ _ _ _ _ _ _ q g l => q.on g l) fun A M H g x y d e z wd gl rx ry eo q =>
    hr A M H g x y d e z _ wd gl rx ry eo ⟨z, rfl, q A M H wd.refl gl⟩
theorem k_cmp {op : CmpOp} {r : R2} {o : Dat → Dat → Option Bool} (ho : OpR X (compareOp op) r) (hr : R2T w.G r o) (ha : BD X w a fa) (hb : BD X w b fb) (hm : behindInMarks op b = false) : KD X w (.Compare a [op] [b] pos) (dB (d2 o fa fb)) :=
  pe_imp (pe_cmpR ho ha hb hm) fun σ H Q ⟨B, A, M, ds, g, rel, p⟩ => bin2 (P := fun A M H b g => QE w.G A M H Q (.bl b) g) ⟨B, A, M, ds, g, rel, (Rs.post_bind p).imp (fun _ _ z => z) fun _ _ z => z⟩ (fun _ _ _ _ _ _ _ _ _ q g l => QE.on q g l)
    fun A M H g x y d e z wd gl rx ry eo q => hr A M H g x y d e z _ wd gl rx ry eo (q (.bl z) A M H wd.refl gl (.bl z))
/-- a < b < c -/
def d3 (o o' : Dat → Dat → Option Bool) (fa fb fc : DE) : DT := fun ds g => (fa ds g).bind fun x g => (fb ds g).bind fun y g => (Rs.opt (o x y) g).bind fun k g => if k = true then (fc ds g).bind fun z g => Rs.opt (o' y z) g else .ok false g
end
end DL

/-! DL, part 4: chains, and, or, not, a if t else b; arguments, displays. -/
namespace DL
open PySem L2
section
variable {X : Cx} {w : Wc} {a b c : Expr} {fa fb fc : DE} {pos : Pos} {rest : List Expr}
theorem chain_go {r r' : R2} {o o' : Dat → Dat → Option Bool} {σ : L2.St} {H : Hp} {Q : VK} {P : List Addr → Hp → Hp → Bool → Gl → Prop} (hr : R2T w.G r o) (hr' : R2T w.G r' o')
    (h : ∃ B A M ds g, Rel w B A M H σ ds g ∧ (d3 o o' fa fb fc ds g).Post (P A M H) (EE w A M H σ))
    (hon : ∀ A M H A1 M1 H1 g1 z g, P A M H z g → Grow [] A A1 M M1 H H1 → GlOk w.G A1 M1 H1 g1 → P A1 M1 H1 z g)
    (k : ∀ A M H g z, Wd A M H → GlOk w.G A M H g → P A M H z g → Q (.bl z) H) : tChain r r' (bD w fa) (bD w fb) (bD w fc) σ H Q := by
  obtain ⟨B, A, M, ds, g, rel, p⟩ := h
  refine ⟨B, A, M, ds, g, rel, (Rs.post_bind p).imp (fun d g1 p1 x A1 M1 H1 gr1 gl1 r1 => ?_) fun _ _ z => z⟩
  have p1' := Rs.post_bind p1
  refine ⟨B, A1, M1, ds, g1, rel.grow gr1 gl1, p1'.imp (fun e g2 p2 y A2 M2 H2 gr2 gl2 r2 => ?_) fun e g z => EE.on z gr1 gl1⟩
  obtain ⟨kb, eo, p3⟩ := post_opt (Rs.post_bind p2)
  have gr12 := gr1.trans gr2 gl1 (fun _ h => nomatch h)
  refine hr A2 M2 H2 g2 x y d e kb _ gr2.wd gl2 (r1.grow gr2) r2 eo ⟨kb, rfl, ?_⟩
  cases kb with
  | false => exact k A2 M2 H2 g2 false gr2.wd gl2 (hon _ _ _ _ _ _ _ _ _ p3 gr12 gl2)
  | true =>
    refine ⟨B, A2, M2, ds, g2, (rel.grow gr1 gl1).grow gr2 gl2, (Rs.post_bind p3).imp (fun z g3 p4 v A3 M3 H3 gr3 gl3 r3 => ?_) fun e g z => EE.on z gr12 gl2⟩
    obtain ⟨kc, ec, p5⟩ := post_opt p4
    exact hr' A3 M3 H3 g3 y v e z kc _ gr3.wd gl3 (r2.grow gr3) r3 ec (k A3 M3 H3 g3 kc gr3.wd gl3 (hon _ _ _ _ _ _ _ _ _ p5 (gr12.trans gr3 gl2 (fun _ h => nomatch h)) gl3))
theorem t_chain {op op' : CmpOp} {r r' : R2} {o o' : Dat → Dat → Option Bool} (ho : OpR X (compareOp op) r) (ho' : OpR X (compareOp op') r') (hr : R2T w.G r o) (hr' : R2T w.G r' o') (ha : BD X w a fa) (hb : BD X w b fb) (hc : BD X w c fc)
    (hm : lastMarks [op, op'] [b, c] = false) : TD X w (.Compare a [op, op'] [b, c] pos) (d3 o o' fa fb fc) :=
  pt_imp (pt_chain ho ho' ha hb hc hm) fun σ H Q h => chain_go (P := fun A M H => QT w.G A M H Q) hr hr' h (fun _ _ _ _ _ _ _ _ _ q g l => QT.on q g l) fun A M H g z wd gl q => ⟨z, rfl, q A M H wd.refl gl⟩
theorem k_chain {op op' : CmpOp} {r r' : R2} {o o' : Dat → Dat → Option Bool} (ho : OpR X (compareOp op) r) (ho' : OpR X (compareOp op') r') (hr : R2T w.G r o) (hr' : R2T w.G r' o') (ha : BD X w a fa) (hb : BD X w b fb) (hc : BD X w c fc)
    (hm : lastMarks [op, op'] [b, c] = false) : KD X w (.Compare a [op, op'] [b, c] pos) (dB (d3 o o' fa fb fc)) :=
  pe_imp (pe_chain ho ho' ha hb hc hm) fun σ H Q ⟨B, A, M, ds, g, rel, p⟩ => chain_go (P := fun A M H b g => QE w.G A M H Q (.bl b) g) hr hr' ⟨B, A, M, ds, g, rel, (Rs.post_bind p).imp (fun _ _ z => z) fun _ _ z => z⟩
    (fun _ _ _ _ _ _ _ _ _ q g l => QE.on q g l) fun A M H g z wd gl q => q (.bl z) A M H wd.refl gl (.bl z)
/-- a value that is a Bool, as a test -/
def dT (f : DE) : DT := fun ds g => (f ds g).bind fun d g => match d with
  | .bl b => .ok b g
  | _ => .no
theorem t_val (h : BD X w a fa) (he : ∀ whole, isTrue a X.env whole = (do let v ← whole; standAt a.pos; holding [v] (truthy v))) : TD X w a (dT fa) :=
  pt_imp (pt_val h he) fun σ H Q ⟨B, A, M, ds, g, rel, p⟩ => ⟨B, A, M, ds, g, rel, (Rs.post_bind p).imp (fun d g1 p1 v A1 M1 H1 gr gl r => by
    cases d with
    | bl b => exact ⟨b, r.bl, p1 A1 M1 H1 gr gl⟩
    | _ => exact p1.elim) fun _ _ z => z⟩
def dAnd (f g : DT) : DT := fun ds s => (f ds s).bind fun c s => if c = true then g ds s else .ok false s
def dOr (f g : DT) : DT := fun ds s => (f ds s).bind fun c s => if c = true then .ok true s else g ds s
def dNot (f : DT) : DT := fun ds s => (f ds s).bind fun c s => .ok (!c) s
def dIf {α : Type} (t : DT) (f g : DEnv → Gl → Rs α) : DEnv → Gl → Rs α := fun ds s => (t ds s).bind fun c s => if c = true then f ds s else g ds s
variable {ft fu : DT}
theorem w_and1 (h : TD X w a ft) : WD X w (.BoolOp .And [a] pos) ft := pw_and1 h
theorem w_or1 (h : TD X w a ft) : WD X w (.BoolOp .Or [a] pos) ft := pw_or1 h
theorem if_post {c : Bool} {σ : L2.St} {H : Hp} {A A1 : List Addr} {M M1 H1 : Hp} {g1 : Gl} {α : Type} {f h : Rs α} {Q : α → Gl → Prop} {E : Er → Gl → Prop} (p : (if c = true then f else h).Post Q E) : if c = true then f.Post Q E else h.Post Q E := by
  cases c with
  | true => exact p
  | false => exact p
theorem w_and (h : TD X w a ft) (hr : WD X w (.BoolOp .And (b :: rest) pos) fu) : WD X w (.BoolOp .And (a :: b :: rest) pos) (dAnd ft fu) :=
  pw_imp (pw_and h hr) fun σ H Q ⟨B, A, M, ds, g, rel, p⟩ => ⟨B, A, M, ds, g, rel, (Rs.post_bind p).imp (fun c g1 p1 A1 M1 H1 gr gl => by
    cases c with
    | true => exact ⟨B, A1, M1, ds, g1, rel.grow gr gl, Rs.Post.imp p1 (fun _ _ q => QT.on q gr gl) fun _ _ z => EE.on z gr gl⟩
    | false => exact p1 A1 M1 H1 gr gl) fun _ _ z => z⟩
theorem w_or (h : TD X w a ft) (hr : WD X w (.BoolOp .Or (b :: rest) pos) fu) : WD X w (.BoolOp .Or (a :: b :: rest) pos) (dOr ft fu) :=
  pw_imp (pw_or h hr) fun σ H Q ⟨B, A, M, ds, g, rel, p⟩ => ⟨B, A, M, ds, g, rel, (Rs.post_bind p).imp (fun c g1 p1 A1 M1 H1 gr gl => by
    cases c with
    | true => exact p1 A1 M1 H1 gr gl
    | false => exact ⟨B, A1, M1, ds, g1, rel.grow gr gl, Rs.Post.imp p1 (fun _ _ q => QT.on q gr gl) fun _ _ z => EE.on z gr gl⟩) fun _ _ z => z⟩
theorem w_t (h : WD X w a ft) : TD X w a ft := PW.pt h
theorem t_not (h : TD X w a ft) : TD X w (.UnaryOp .Not a pos) (dNot ft) :=
  pt_imp (pt_not h) fun σ H Q ⟨B, A, M, ds, g, rel, p⟩ => ⟨B, A, M, ds, g, rel, (Rs.post_bind p).imp (fun c g1 p1 A1 M1 H1 gr gl => p1 A1 M1 H1 gr gl) fun _ _ z => z⟩
/-- a and b, a or b, as values that are Bools -/
def dAndV (f g : DE) : DE := fun ds s => (f ds s).bind fun d s => match d with
  | .bl true => g ds s
  | .bl false => .ok (.bl false) s
  | _ => .no
def dOrV (f g : DE) : DE := fun ds s => (f ds s).bind fun d s => match d with
  | .bl true => .ok (.bl true) s
  | .bl false => g ds s
  | _ => .no
def dNotV (f : DE) : DE := fun ds s => (f ds s).bind fun d s => match d with
  | .bl b => .ok (.bl (!b)) s
  | _ => .no
theorem k_one {op : BoolOp} (h : KD X w a fa) : KD X w (.BoolOp op [a] pos) fa := pe_one h
theorem k_and (h : BD X w a fa) (hr : KD X w (.BoolOp .And (b :: rest) pos) fb) : KD X w (.BoolOp .And (a :: b :: rest) pos) (dAndV fa fb) :=
  pe_imp (pe_and h hr) fun σ H Q ⟨B, A, M, ds, g, rel, p⟩ => ⟨B, A, M, ds, g, rel, (Rs.post_bind p).imp (fun d g1 p1 v A1 M1 H1 gr gl r => by
    cases d with
    | bl c =>
      refine ⟨c, r.bl, ?_⟩
      cases c with
      | true => exact ⟨B, A1, M1, ds, g1, rel.grow gr gl, Rs.Post.imp p1 (fun _ _ q => QE.on q gr gl) fun _ _ z => EE.on z gr gl⟩
      | false => exact p1 (.bl false) A1 M1 H1 gr gl (.bl false)
    | _ => exact p1.elim) fun _ _ z => z⟩
theorem k_or (h : BD X w a fa) (hr : KD X w (.BoolOp .Or (b :: rest) pos) fb) : KD X w (.BoolOp .Or (a :: b :: rest) pos) (dOrV fa fb) :=
  pe_imp (pe_or h hr) fun σ H Q ⟨B, A, M, ds, g, rel, p⟩ => ⟨B, A, M, ds, g, rel, (Rs.post_bind p).imp (fun d g1 p1 v A1 M1 H1 gr gl r => by
    cases d with
    | bl c =>
      refine ⟨c, r.bl, ?_⟩
      cases c with
      | true => exact p1 (.bl true) A1 M1 H1 gr gl (.bl true)
      | false => exact ⟨B, A1, M1, ds, g1, rel.grow gr gl, Rs.Post.imp p1 (fun _ _ q => QE.on q gr gl) fun _ _ z => EE.on z gr gl⟩
    | _ => exact p1.elim) fun _ _ z => z⟩
theorem k_not (h : BD X w a fa) : KD X w (.UnaryOp .Not a pos) (dNotV fa) :=
  pe_imp (pe_not h) fun σ H Q ⟨B, A, M, ds, g, rel, p⟩ => ⟨B, A, M, ds, g, rel, (Rs.post_bind p).imp (fun d g1 p1 v A1 M1 H1 gr gl r => by
    cases d with
    | bl c => exact ⟨c, r.bl, p1 (.bl (!c)) A1 M1 H1 gr gl (.bl _)⟩
    | _ => exact p1.elim) fun _ _ z => z⟩
theorem k_if (ht : TD X w c ft) (ha : KD X w a fa) (hb : KD X w b fb) : KD X w (.IfExp c a b pos) (dIf ft fa fb) :=
  pe_imp (pe_ifExp ht ha hb) fun σ H Q ⟨B, A, M, ds, g, rel, p⟩ => ⟨B, A, M, ds, g, rel, (Rs.post_bind p).imp (fun c g1 p1 A1 M1 H1 gr gl => by
    cases c with
    | true => exact ⟨B, A1, M1, ds, g1, rel.grow gr gl, Rs.Post.imp p1 (fun _ _ q => QE.on q gr gl) fun _ _ z => EE.on z gr gl⟩
    | false => exact ⟨B, A1, M1, ds, g1, rel.grow gr gl, Rs.Post.imp p1 (fun _ _ q => QE.on q gr gl) fun _ _ z => EE.on z gr gl⟩) fun _ _ z => z⟩
theorem f_if {f1 f2 : DA} (ht : TD X w c ft) (ha : FD X w a f1) (hb : FD X w b f2) : FD X w (.IfExp c a b pos) (dIf ft f1 f2) :=
  pe_imp (pe_ifExp ht ha hb) fun σ H Q ⟨B, A, M, ds, g, rel, p⟩ => ⟨B, A, M, ds, g, rel, (Rs.post_bind p).imp (fun c g1 p1 A1 M1 H1 gr gl => by
    cases c with
    | true => exact ⟨B, A1, M1, ds, g1, rel.grow gr gl, Rs.Post.imp p1 (fun _ _ q => QF.on q gr gl) fun _ _ z => EE.on z gr gl⟩
    | false => exact ⟨B, A1, M1, ds, g1, rel.grow gr gl, Rs.Post.imp p1 (fun _ _ q => QF.on q gr gl) fun _ _ z => EE.on z gr gl⟩) fun _ _ z => z⟩

/-! ### arguments, displays -/
def dNil : DA := fun _ g => .ok [] g
def dCons (f : DE) (r : DA) : DA := fun ds g => (f ds g).bind fun d g => (r ds g).bind fun l g => .ok (d :: l) g
variable {e : Expr} {es : List Expr} {f : DE} {fr : DA}
theorem a_nil : AD X w [] dNil := pa_imp pa_nil fun σ H Q ⟨B, A, M, ds, g, rel, p⟩ => p [] A M H rel.wd.refl rel.gl .nil
theorem ab_nil : ABD X w [] dNil := pa_imp pa_nil fun σ H Q ⟨B, A, M, ds, g, rel, p⟩ => p [] A M H rel.wd.refl rel.gl .nil
theorem a_cons (h : KD X w e f) (hr : AD X w es fr) (hs : starEach (e :: es) X.env = (false, eval e X.env) :: starEach es X.env) : AD X w (e :: es) (dCons f fr) :=
  pa_imp (pa_cons h hr hs) fun σ H Q ⟨B, A, M, ds, g, rel, p⟩ => ⟨B, A, M, ds, g, rel, (Rs.post_bind p).imp (fun d g1 p1 v A1 M1 H1 gr gl r =>
    ⟨B, A1, M1, ds, g1, rel.grow gr gl, (Rs.post_bind p1).imp (fun l g2 p2 vs A2 M2 H2 gr2 gl2 r2 => p2 (v :: vs) A2 M2 H2 (gr.trans gr2 gl (fun _ z => nomatch z)) gl2 (.cons (r.grow gr2) r2)) fun _ _ z => EE.on z gr gl⟩) fun _ _ z => z⟩
theorem ab_cons (h : BD X w e f) (hr : ABD X w es fr) (hs : starEach (e :: es) X.env = (false, eval e X.env) :: starEach es X.env) : ABD X w (e :: es) (dCons f fr) :=
  pa_imp (pa_cons h hr hs) fun σ H Q ⟨B, A, M, ds, g, rel, p⟩ => ⟨B, A, M, ds, g, rel, (Rs.post_bind p).imp (fun d g1 p1 v A1 M1 H1 gr gl r =>
    ⟨B, A1, M1, ds, g1, rel.grow gr gl, (Rs.post_bind p1).imp (fun l g2 p2 vs A2 M2 H2 gr2 gl2 r2 => p2 (v :: vs) A2 M2 H2 (gr.trans gr2 gl (fun _ z => nomatch z)) gl2 (.cons (r.grow gr2) r2)) fun _ _ z => EE.on z gr gl⟩) fun _ _ z => z⟩
/-- at most so many in a display or a list that is made at once -/
abbrev few : Nat := 100000
theorem few_line {n : Nat} (h : n ≤ few) : n ≤ sizeLine := Nat.le_trans h (by decide)
def dTup (f : DA) : DE := fun ds g => (f ds g).bind fun l g => if l.length ≤ few then .ok (.tup l) g else .no
def dLst (f : DA) : DA := fun ds g => (f ds g).bind fun l g => if l.length ≤ few then .ok l g else .no
theorem k_tup {x1} (h : AD X w es fr) : KD X w (.Tuple es x1 pos) (dTup fr) :=
  pe_imp (pe_tup h) fun σ H Q ⟨B, A, M, ds, g, rel, p⟩ => ⟨B, A, M, ds, g, rel, (Rs.post_bind p).imp (fun l g1 p1 vs A1 M1 H1 gr gl r => by
    by_cases hl : l.length ≤ few
    · rw [if_pos hl] at p1
      refine ⟨few_line (by rw [r.length]; exact hl), fun q hq => ?_⟩
      have gn := Grow.new (o := .tup vs) gr.wd gl hq
      exact p1 (.ref q) A1 _ _ (gr.trans gn gl (fun _ z => nomatch z)) (gl.new gr.wd hq) (.tup (SqT.of upd_same) (r.grow gn))
    · rw [if_neg hl] at p1
      exact p1.elim) fun _ _ z => z⟩
theorem new_notM {A : List Addr} {M H : Hp} {q : Addr} (wd : Wd A M H) (hq : H q = none) : M q = none := by
  cases e : M q with
  | none => rfl
  | some u =>
    have := wd.mh q u e
    rw [hq] at this
    cases this
theorem new_notA {G : Gm} {A : List Addr} {M H : Hp} {g : Gl} {q : Addr} (gl : GlOk G A M H g) (hq : H q = none) : q ∉ A := fun hm => by
  obtain ⟨u, hu⟩ := gl.there q hm
  rw [hq] at hu
  cases hu
/-- a new list at q, for what is wanted of one -/
theorem QF.at {G : Gm} {A : List Addr} {M H : Hp} {Q : VK} {l : List Dat} {g : Gl} {q : Addr} {xs : List V} (k : QF G A M H Q l g) (wd : Wd A M H) (gl : GlOk G A M H g) (hq : H q = none) (r : RpA G A M xs l) : Q (.ref q) (upd H q (.lst xs)) :=
  k q xs A M _ (Grow.newH wd hq) (gl.newH hq) hq upd_same (new_notM wd hq) (new_notA gl hq) r
theorem QE.atT {G : Gm} {A : List Addr} {M H : Hp} {Q : VK} {l : List Dat} {g : Gl} {q : Addr} {xs : List V} (k : QE G A M H Q (.tup l) g) (wd : Wd A M H) (gl : GlOk G A M H g) (hq : H q = none) (r : RpA G A M xs l) : Q (.ref q) (upd H q (.tup xs)) :=
  have gn := Grow.new (o := .tup xs) wd gl hq
  k (.ref q) A _ _ gn (gl.new wd hq) (.tup (SqT.of upd_same) (r.grow gn))
theorem f_lst (h : AD X w es fr) : FD X w (.List es pos) (dLst fr) :=
  pe_imp (pe_lst h) fun σ H Q ⟨B, A, M, ds, g, rel, p⟩ => ⟨B, A, M, ds, g, rel, (Rs.post_bind p).imp (fun l g1 p1 vs A1 M1 H1 gr gl r => by
    by_cases hl : l.length ≤ few
    · rw [if_pos hl] at p1
      refine ⟨few_line (by rw [r.length]; exact hl), fun q hq => (QF.on p1 gr gl).at gr.wd gl hq r⟩
    · rw [if_neg hl] at p1
      exact p1.elim) fun _ _ z => z⟩
end
end DL

/-! DL, part 5: the operators. -/
namespace DL
open PySem L2

/-! ### data as the library's data -/
mutual
def toPy : Dat → Option PyData
  | .non => some .none
  | .bl b => some (.bool b)
  | .int i => some (.int i)
  | .str x => some (.str x)
  | .tup l => match toPys l with
    | some ps => some (.tuple ps)
    | none => none
  | .lst l => match toPys l with
    | some ps => some (.list ps)
    | none => none
  | _ => none
def toPys : List Dat → Option (List PyData)
  | [] => some []
  | d :: l => match toPy d with
    | some p => match toPys l with
      | some ps => some (p :: ps)
      | none => none
    | none => none
end
section
variable {G : Gm} {A : List Addr} {M H : Hp}
mutual
theorem Rp.dp (hM : Same M H) : ∀ {v : V} {d : Dat} {p : PyData}, Rp G A M v d → toPy d = some p → Dp G.K H v p
  | _, _, _, .non, e => by cases e; exact .non
  | _, _, _, .bl b, e => by cases e; exact .bl b
  | _, _, _, .int i, e => by cases e; exact .int i
  | _, _, _, .str i, e => by cases e; exact .str i
  | _, .tup l, p, .tup h r, e => by
    unfold toPy at e
    cases el : toPys l with
    | none => rw [el] at e; cases e
    | some ps => rw [el] at e; cases e; exact .tup (same_t hM h) (RpA.dp hM r el)
  | _, .lst l, p, .lst h r, e => by
    unfold toPy at e
    cases el : toPys l with
    | none => rw [el] at e; cases e
    | some ps => rw [el] at e; cases e; exact .lst (SqL.of (hM _ _ h)) (RpA.dp hM r el)
  | _, _, _, .dct h e1 r, e => by unfold toPy at e; cases e
  | _, _, _, .rul h r1 r2 r3, e => by unfold toPy at e; cases e
  | _, _, _, .scr h, e => by unfold toPy at e; cases e
  | _, _, _, .mref h, e => by unfold toPy at e; cases e
theorem RpA.dp (hM : Same M H) : ∀ {vs : List V} {l : List Dat} {ps : List PyData}, RpA G A M vs l → toPys l = some ps → DpAll G.K H vs ps
  | _, _, _, .nil, e => by unfold toPys at e; cases e; exact .nil
  | _, d :: l, ps, .cons h r, e => by
    unfold toPys at e
    cases ed : toPy d with
    | none => rw [ed] at e; cases e
    | some p =>
      rw [ed] at e
      cases el : toPys l with
      | none => rw [el] at e; cases e
      | some qs => rw [el] at e; cases e; exact .cons (Rp.dp hM h ed) (RpA.dp hM r el)
end
theorem Rb.dp (wd : Wd A M H) {v : V} {d : Dat} {p : PyData} (r : Rb G A M H v d) (e : toPy d = some p) : Dp G.K H v p := by
  cases r with
  | fz r => exact r.dp wd.mh e
  | @own a xs l h n r =>
    unfold toPy at e
    cases el : toPys l with
    | none => rw [el] at e; cases e
    | some ps => rw [el] at e; cases e; exact .lst (SqL.of h) (r.dp wd.mh el)
  | ownD h n q r => unfold toPy at e; cases e
end
/-- == of data -/
def eqD (d e : Dat) : Option Bool := match toPy d, toPy e with
  | some p, some q => if SeqAt.shaped p = true ∧ SeqAt.shaped q = true then some (PyData.eqv p q) else none
  | _, _ => none
theorem eqD_some {d e : Dat} {b : Bool} (h : eqD d e = some b) : ∃ p q, toPy d = some p ∧ toPy e = some q ∧ SeqAt.shaped p = true ∧ SeqAt.shaped q = true ∧ PyData.eqv p q = b := by
  unfold eqD at h
  cases ed : toPy d with
  | none => rw [ed] at h; cases h
  | some p =>
    cases ee : toPy e with
    | none => rw [ed, ee] at h; cases h
    | some q =>
      rw [ed, ee] at h
      have h2 : (if SeqAt.shaped p = true ∧ SeqAt.shaped q = true then some (PyData.eqv p q) else none) = some b := h
      by_cases hs : SeqAt.shaped p = true ∧ SeqAt.shaped q = true
      · rw [if_pos hs] at h2
        exact ⟨p, q, rfl, rfl, hs.1, hs.2, Option.some.inj h2⟩
      · rw [if_neg hs] at h2
        cases h2
def neD (d e : Dat) : Option Bool := match eqD d e with
  | some b => some (!b)
  | none => none
section
variable {G : Gm} {X : Cx}
theorem r_eq : R2T G (rEqD G.K) eqD := fun A M H g x y d e b Q wd gl rx ry eo q => by
  obtain ⟨p, p', h1, h2, h3, h4, h5⟩ := eqD_some eo
  refine ⟨p, p', rx.dp wd h1, ry.dp wd h2, h3, h4, ?_⟩
  rw [h5]
  exact q
theorem r_ne : R2T G (rNeD G.K) neD := fun A M H g x y d e b Q wd gl rx ry eo q => by
  unfold neD at eo
  cases ee : eqD d e with
  | none => rw [ee] at eo; cases eo
  | some c =>
    rw [ee] at eo
    cases eo
    obtain ⟨p, p', h1, h2, h3, h4, h5⟩ := eqD_some ee
    refine ⟨p, p', rx.dp wd h1, ry.dp wd h2, h3, h4, ?_⟩
    rw [h5]
    exact q
/-! ### whole numbers -/
def i2 {α : Type} (f : Int → Int → α) : Dat → Dat → Option α
  | .int i, .int j => some (f i j)
  | _, _ => none
theorem i2_some {α : Type} {f : Int → Int → α} {d e : Dat} {z : α} (h : i2 f d e = some z) : ∃ i j, d = .int i ∧ e = .int j ∧ f i j = z := by
  cases d with
  | int i =>
    cases e with
    | int j => exact ⟨i, j, rfl, rfl, Option.some.inj h⟩
    | _ => cases h
  | _ => cases h
theorem r_int {f : Int → Int → Int} : R2ok G (rI0 fun i j => .int (f i j)) (i2 fun i j => .int (f i j)) := fun A M H g x y d e z Q wd gl rx ry eo q => by
  obtain ⟨i, j, rfl, rfl, rfl⟩ := i2_some eo
  exact ⟨i, j, rx.int, ry.int, q (.int (f i j)) A M H wd.refl gl (.int _)⟩
theorem r_cmp {f : Int → Int → Bool} : R2T G (rI0 fun i j => .bl (f i j)) (i2 f) := fun A M H g x y d e z Q wd gl rx ry eo q => by
  obtain ⟨i, j, rfl, rfl, rfl⟩ := i2_some eo
  exact ⟨i, j, rx.int, ry.int, q⟩
def i2g (c : Int → Int → Bool) (f : Int → Int → Int) : Dat → Dat → Option Dat
  | .int i, .int j => if c i j = true then some (.int (f i j)) else none
  | _, _ => none
theorem i2g_some {c : Int → Int → Bool} {f : Int → Int → Int} {d e z : Dat} (h : i2g c f d e = some z) : ∃ i j, d = .int i ∧ e = .int j ∧ c i j = true ∧ .int (f i j) = z := by
  cases d with
  | int i =>
    cases e with
    | int j =>
      have h2 : (if c i j = true then some (Dat.int (f i j)) else none) = some z := h
      by_cases hc : c i j = true
      · rw [if_pos hc] at h2
        exact ⟨i, j, rfl, rfl, hc, Option.some.inj h2⟩
      · rw [if_neg hc] at h2
        cases h2
    | _ => cases h
  | _ => cases h
theorem r_intG {C : Int → Int → Prop} {c : Int → Int → Bool} {f : Int → Int → Int} (hc : ∀ i j, c i j = true → C i j) : R2ok G (rI C fun i j => .int (f i j)) (i2g c f) := fun A M H g x y d e z Q wd gl rx ry eo q => by
  obtain ⟨i, j, rfl, rfl, h, rfl⟩ := i2g_some eo
  exact ⟨i, j, rx.int, ry.int, hc i j h, q (.int (f i j)) A M H wd.refl gl (.int _)⟩
/-- sizes at which a product, a quotient is told -/
def mulOk (i j : Int) : Bool := decide (i.natAbs.log2 + j.natAbs.log2 < 1000000)
def divOk (_ j : Int) : Bool := decide (0 < j ∧ j.natAbs.log2 < 9000)
def powOk (i j : Int) : Bool := decide (0 ≤ j ∧ j ≤ 1000000 ∧ i.natAbs < 2 ^ 64)
def oSub : Dat → Dat → Option Dat := i2 fun i j => .int (i - j)
def oMulI : Dat → Dat → Option Dat := i2g mulOk fun i j => i * j
def oDiv : Dat → Dat → Option Dat := i2g divOk fun i j => i / j
def oMod : Dat → Dat → Option Dat := i2g (fun _ j => decide (0 < j)) fun i j => i % j
def oPow : Dat → Dat → Option Dat := i2g powOk fun i j => i ^ j.toNat
theorem r_sub : R2ok G (rI0 fun i j => .int (i - j)) oSub := r_int
theorem r_mul : R2ok G (rI CMulW fun i j => .int (i * j)) oMulI := r_intG fun i j h => by
  have q : i.natAbs.log2 + j.natAbs.log2 < 1000000 := of_decide_eq_true h
  exact q
theorem r_div : R2ok G (rI CDivW fun i j => .int (i / j)) oDiv := r_intG fun i j h => by
  have q : 0 < j ∧ j.natAbs.log2 < 9000 := of_decide_eq_true h
  exact q
theorem r_mod : R2ok G (rI (fun _ j => 0 < j) fun i j => .int (i % j)) oMod := r_intG fun i j h => of_decide_eq_true h
theorem r_pow : R2ok G (rI CPow fun i j => .int (i ^ j.toNat)) oPow := r_intG fun i j h => by
  have q : 0 ≤ j ∧ j ≤ 1000000 ∧ i.natAbs < 2 ^ 64 := of_decide_eq_true h
  exact q
def oLt : Dat → Dat → Option Bool := i2 fun i j => decide (i < j)
def oLe : Dat → Dat → Option Bool := i2 fun i j => decide (i ≤ j)
def oGt : Dat → Dat → Option Bool := i2 fun i j => decide (j < i)
def oGe : Dat → Dat → Option Bool := i2 fun i j => decide (j ≤ i)
/-! ### a + b: numbers, texts, tuples; lists -/
def oAdd : Dat → Dat → Option Dat
  | .int i, .int j => some (.int (i + j))
  | .str x, .str y => if x.length + y.length ≤ few then some (.str (x ++ y)) else none
  | .tup l, .tup m => if l.length + m.length ≤ few then some (.tup (l ++ m)) else none
  | _, _ => none
abbrev rAddS' : R2 := fun x y H Q => ∃ i j, x = .str i ∧ y = .str j ∧ i.length + j.length ≤ sizeLine ∧ Q (.str (i ++ j)) H
theorem op_addAll : OpR X (binaryOp .Add) (ror (rI0 fun i j => .int (i + j)) (ror rAddS' (rCatA X.K))) := OpR.ror op_add (OpR.ror op_add_str op_catA)
theorem r_add : R2ok G (ror (rI0 fun i j => .int (i + j)) (ror rAddS' (rCatA G.K))) oAdd := fun A M H g x y d e z Q wd gl rx ry eo q => by
  unfold oAdd at eo
  split at eo
  · rename_i i j
    cases eo
    exact .inl ⟨i, j, rx.int, ry.int, q _ A M H wd.refl gl (.int _)⟩
  · rename_i i j
    split at eo
    · rename_i hl
      cases eo
      exact .inr (.inl ⟨i, j, rx.str, ry.str, few_line hl, q _ A M H wd.refl gl (.str _)⟩)
    · cases eo
  · rename_i l m
    split at eo
    · rename_i hl
      cases eo
      obtain ⟨a, xs, rfl, ha, r1⟩ := rx.tup wd
      obtain ⟨b, ys, rfl, hb, r2⟩ := ry.tup wd
      have e1 := r1.length
      have e2 := r2.length
      refine .inr (.inr ⟨a, b, xs, ys, rfl, rfl, ha, hb, few_line (by rw [e1, e2]; exact hl), fun h => ?_, fun h1 h2 => ?_, fun h1 h2 p hp => ?_⟩)
      · subst h
        cases r1
        cases ry with | fz ry => exact q _ A M H wd.refl gl ry
      · subst h2
        cases r2
        rw [List.append_nil] at q
        cases rx with | fz rx => exact q _ A M H wd.refl gl rx
      · exact QE.atT q wd gl hp (r1.append r2)
    · cases eo
  · cases eo
def oCat : Dat → Dat → Option (List Dat)
  | .lst l, .lst m => if l.length + m.length ≤ few then some (l ++ m) else none
  | _, _ => none
theorem r_cat : R2F G rCat oCat := fun A M H g x y d e z Q wd gl rx ry eo q => by
  unfold oCat at eo
  split at eo
  · rename_i l m
    split at eo
    · rename_i hl
      cases eo
      obtain ⟨a, xs, rfl, ha, na, r1⟩ := rx.lst wd
      obtain ⟨b, ys, rfl, hb, nb, r2⟩ := ry.lst wd
      exact ⟨a, b, xs, ys, rfl, rfl, ha, hb, few_line (by rw [r1.length, r2.length]; exact hl), fun p hp => q.at wd gl hp (r1.append r2)⟩
    · cases eo
  · cases eo
/-- [x] * n -/
def oRep : Dat → Dat → Option (List Dat)
  | .lst l, .int k => if k ≤ few ∧ -few ≤ k ∧ l.length * k.toNat ≤ few then some (List.replicate k.toNat l).flatten else none
  | _, _ => none
theorem RpA.rep {A : List Addr} {M : Hp} {xs : List V} {l : List Dat} (r : RpA G A M xs l) : ∀ n : Nat, RpA G A M (List.replicate n xs).flatten (List.replicate n l).flatten
  | 0 => .nil
  | n + 1 => by
    rw [List.replicate_succ, List.replicate_succ, List.flatten_cons, List.flatten_cons]
    exact r.append (RpA.rep r n)
theorem r_rep : R2F G rRep oRep := fun A M H g x y d e z Q wd gl rx ry eo q => by
  unfold oRep at eo
  split at eo
  · rename_i l k
    split at eo
    · rename_i hl
      cases eo
      obtain ⟨a, xs, rfl, ha, na, r1⟩ := rx.lst wd
      obtain ⟨h1, h2, h3⟩ := hl
      have h1' : k ≤ 100000 := h1
      have h2' : -100000 ≤ k := h2
      exact ⟨a, k, xs, rfl, ry.int, ha, by omega, by omega, few_line (by rw [r1.length]; exact h3), fun p hp => q.at wd gl hp (r1.rep _)⟩
    · cases eo
  · cases eo
/-! ### is None, in -/
def isN : Dat → Bool
  | .non => true
  | _ => false
theorem Rb.isN {A : List Addr} {M H : Hp} {v : V} {d : Dat} (r : Rb G A M H v d) : decide (v = .non) = DL.isN d := by
  cases r with
  | fz r => cases r <;> rfl
  | own _ _ _ => rfl
  | ownD _ _ _ _ => rfl
def oIsN (d e : Dat) : Option Bool := match e with
  | .non => some (isN d)
  | _ => none
def oNotN (d e : Dat) : Option Bool := match e with
  | .non => some (!isN d)
  | _ => none
abbrev rIsN' : R2 := fun x y H Q => y = .non ∧ Q (.bl (decide (x = .non))) H
abbrev rNotN' : R2 := fun x y H Q => y = .non ∧ Q (.bl (!decide (x = .non))) H
theorem r_isN : R2T G rIsN' oIsN := fun A M H g x y d e z Q wd gl rx ry eo q => by
  unfold oIsN at eo
  split at eo
  · cases eo
    refine ⟨ry.non, ?_⟩
    rw [rx.isN]
    exact q
  · cases eo
theorem r_notN : R2T G rNotN' oNotN := fun A M H g x y d e z Q wd gl rx ry eo q => by
  unfold oNotN at eo
  split at eo
  · cases eo
    refine ⟨ry.non, ?_⟩
    rw [rx.isN]
    exact q
  · cases eo
/-- flat data as values -/
def flatD : Dat → Bool
  | .non => true
  | .bl _ => true
  | .int _ => true
  | .str _ => true
  | _ => false
def datV : Dat → V
  | .non => .non
  | .bl b => .bl b
  | .int i => .int i
  | .str x => .str x
  | _ => .non
theorem Rp.flat {A : List Addr} {M : Hp} {v : V} {d : Dat} (r : Rp G A M v d) (h : flatD d = true) : v = datV d ∧ flatV v = true := by
  cases r <;> first | exact ⟨rfl, rfl⟩ | cases h
theorem RpA.flat {A : List Addr} {M : Hp} : ∀ {vs : List V} {l : List Dat}, RpA G A M vs l → l.all flatD = true → vs = l.map datV ∧ vs.all flatV = true
  | _, _, .nil, _ => ⟨rfl, rfl⟩
  | _, _, .cons r t, h => by
    rw [List.all_cons, Bool.and_eq_true] at h
    obtain ⟨e1, f1⟩ := r.flat h.1
    obtain ⟨e2, f2⟩ := RpA.flat t h.2
    exact ⟨by rw [List.map_cons, ← e1, ← e2], by rw [List.all_cons, f1, f2]; rfl⟩
def inD (d : Dat) (l : List Dat) : Option Bool := match toPy d, toPys l with
  | some p, some ps => if SeqAt.shaped p = true ∧ SeqAt.shaped (.list ps) = true then some (ps.any fun z => PyData.eqv z p) else none
  | _, _ => none
def oIn (d e : Dat) : Option Bool := match e with
  | .lst l => inD d l
  | .tup l => if flatD d = true ∧ l.all flatD = true then some (inV (datV d) (l.map datV)) else none
  | _ => none
def oNotIn (d e : Dat) : Option Bool := match oIn d e with
  | some b => some (!b)
  | none => none
theorem inD_some {d : Dat} {l : List Dat} {b : Bool} (h : inD d l = some b) : ∃ p ps, toPy d = some p ∧ toPys l = some ps ∧ SeqAt.shaped p = true ∧ SeqAt.shaped (.list ps) = true ∧ (ps.any fun z => PyData.eqv z p) = b := by
  unfold inD at h
  cases ed : toPy d with
  | none => rw [ed] at h; cases h
  | some p =>
    cases ee : toPys l with
    | none => rw [ed, ee] at h; cases h
    | some q =>
      rw [ed, ee] at h
      have h2 : (if SeqAt.shaped p = true ∧ SeqAt.shaped (.list q) = true then some (q.any fun z => PyData.eqv z p) else none) = some b := h
      by_cases hs : SeqAt.shaped p = true ∧ SeqAt.shaped (.list q) = true
      · rw [if_pos hs] at h2
        exact ⟨p, q, rfl, rfl, hs.1, hs.2, Option.some.inj h2⟩
      · rw [if_neg hs] at h2
        cases h2
theorem toPy_lst {l : List Dat} {ps : List PyData} (h : toPys l = some ps) : toPy (.lst l) = some (.list ps) := by
  unfold toPy
  rw [h]
theorem r_in : R2T G (ror (rInD G.K) (rIn G.K false)) oIn := fun A M H g x y d e b Q wd gl rx ry eo q => by
  unfold oIn at eo
  split at eo
  · rename_i l
    obtain ⟨p, ps, h1, h2, h3, h4, h5⟩ := inD_some eo
    refine .inl ⟨p, ps, rx.dp wd h1, ry.dp wd (toPy_lst h2), h3, h4, ?_⟩
    rw [h5]
    exact q
  · rename_i l
    split at eo
    · rename_i hf
      cases eo
      obtain ⟨a, xs, rfl, ha, r⟩ := ry.tup wd
      obtain ⟨e2, f2⟩ := r.flat hf.2
      cases rx with
      | fz rx =>
        obtain ⟨e1, f1⟩ := rx.flat hf.1
        refine .inr ⟨a, xs, rfl, .inr ha, f1, f2, ?_⟩
        rw [e1, e2]
        exact q
      | own _ _ _ => cases hf.1
      | ownD _ _ _ _ => cases hf.1
    · cases eo
  · cases eo
theorem r_notIn : R2T G (ror (rNotInD G.K) (rIn G.K true)) oNotIn := fun A M H g x y d e b Q wd gl rx ry eo q => by
  unfold oNotIn oIn at eo
  split at eo
  · rename_i c hc
    cases eo
    split at hc
    · rename_i l
      obtain ⟨p, ps, h1, h2, h3, h4, h5⟩ := inD_some hc
      refine .inl ⟨p, ps, rx.dp wd h1, ry.dp wd (toPy_lst h2), h3, h4, ?_⟩
      rw [h5]
      exact q
    · rename_i l
      split at hc
      · rename_i hf
        cases hc
        obtain ⟨a, xs, rfl, ha, r⟩ := ry.tup wd
        obtain ⟨e2, f2⟩ := r.flat hf.2
        cases rx with
        | fz rx =>
          obtain ⟨e1, f1⟩ := rx.flat hf.1
          refine .inr ⟨a, xs, rfl, .inr ha, f1, f2, ?_⟩
          rw [e1, e2]
          exact q
        | own _ _ _ => cases hf.1
        | ownD _ _ _ _ => cases hf.1
      · cases hc
    · cases hc
  · cases eo
theorem op_inAll (hu : X.A.units + 65 < cLine) : OpR X (compareOp .In) (ror (rInD X.K) (rIn X.K false)) := OpR.ror (op_inD hu) op_in_seq
theorem op_notInAll (hu : X.A.units + 65 < cLine) : OpR X (compareOp .NotIn) (ror (rNotInD X.K) (rIn X.K true)) := OpR.ror (op_notInD hu) op_notIn_seq
/-! ### one operand -/
def d1 {α : Type} (o : Dat → Option α) (fa : DE) : DEnv → Gl → Rs α := fun ds g => (fa ds g).bind fun x g => Rs.opt (o x) g
def oNeg : Dat → Option Dat
  | .int i => some (.int (-i))
  | _ => none
theorem k_neg {w : Wc} {a : Expr} {fa : DE} {pos : Pos} (ha : BD X w a fa) : KD X w (.UnaryOp .USub a pos) (d1 oNeg fa) :=
  pe_imp (pe_un un_neg ha) fun σ H Q ⟨B, A, M, ds, g, rel, p⟩ => ⟨B, A, M, ds, g, rel, (Rs.post_bind p).imp (fun d g1 p1 v A1 M1 H1 gr gl r => by
    obtain ⟨z, ez, qz⟩ := post_opt p1
    unfold oNeg at ez
    split at ez
    · rename_i i
      cases ez
      exact ⟨i, r.int, qz _ A1 M1 H1 gr gl (.int _)⟩
    · cases ez) fun _ _ z => z⟩
end
end DL

/-! DL, part 6: subscripts, fields, calls of defs, built-ins by values. -/
namespace DL
open PySem L2

/-- the items of a list, a shared one too -/
def lview (g : Gl) : Dat → Option (List Dat)
  | .lst l => some l
  | .mref k => match g[k]? with
    | some (.lst l) => some l
    | _ => none
  | _ => none
section
variable {G : Gm} {A : List Addr} {M H : Hp} {g : Gl} {v : V} {d : Dat}
theorem Rb.mref {k : Nat} (r : Rb G A M H v (.mref k)) : ∃ a, v = .ref a ∧ A[k]? = some a := by
  cases r with
  | fz r => cases r with | mref h => exact ⟨_, rfl, h⟩
theorem Rb.lview {l : List Dat} (r : Rb G A M H v d) (wd : Wd A M H) (gl : GlOk G A M H g) (e : lview g d = some l) : ∃ a xs, v = .ref a ∧ H a = some (.lst xs) ∧ RpA G A M xs l := by
  unfold DL.lview at e
  split at e
  · cases e
    obtain ⟨a, xs, h1, h2, _, h3⟩ := r.lst wd
    exact ⟨a, xs, h1, h2, h3⟩
  · rename_i k
    split at e
    · rename_i l' hg
      cases e
      obtain ⟨a, e1, e2⟩ := r.mref
      obtain ⟨xs, e3, e4⟩ := gl.ob k a _ e2 hg
      exact ⟨a, xs, e1, e3, e4⟩
    · cases e
  · cases e
theorem Rb.scr {l : List Int} (r : Rb G A M H v (.scr l)) (wd : Wd A M H) : ∃ a, v = .ref a ∧ SqL G.K H a (l.map V.int) := by
  cases r with
  | fz r => cases r with | scr h => exact ⟨_, rfl, same_l wd.mh h⟩
end
/-- a[i] -/
def oIx (g : Gl) (d e : Dat) : Option Dat := match e with
  | .int i => match d with
    | .tup l => atI l i
    | .scr l => (atI l i).map .int
    | _ => match lview g d with
      | some l => atI l i
      | none => none
  | _ => none
theorem atI_map {α β : Type} {f : α → β} (l : List α) (i : Int) : atI (l.map f) i = (atI l i).map f := by
  unfold atI
  rw [List.length_map]
  cases ixN l.length i with
  | none => rfl
  | some j => simp
theorem RpA.atI {G : Gm} {A : List Addr} {M : Hp} {xs : List V} {l : List Dat} {i : Int} {d : Dat} (r : RpA G A M xs l) (h : L2.atI l i = some d) : ∃ v, L2.atI xs i = some v ∧ Rp G A M v d := by
  unfold L2.atI at h ⊢
  rw [r.length]
  cases e : ixN l.length i with
  | none => rw [e] at h; cases h
  | some j =>
    rw [e] at h
    exact r.get h
def dIx (fa fb : DE) : DE := fun ds g => (fa ds g).bind fun x g => (fb ds g).bind fun y g => Rs.opt (oIx g x y) g
/-- two operands, then an operation that looks at what is shared -/
theorem bin2g {fa fb : DE} {w : Wc} {α : Type} {r : R2} {o : Gl → Dat → Dat → Option α} {σ : L2.St} {H : Hp} {Q : VK} {P : List Addr → Hp → Hp → α → Gl → Prop}
    (h : ∃ B A M ds g, Rel w B A M H σ ds g ∧ ((fa ds g).bind fun x g => (fb ds g).bind fun y g => Rs.opt (o g x y) g).Post (P A M H) (EE w A M H σ))
    (hon : ∀ A M H A1 M1 H1 g1 z g, P A M H z g → Grow [] A A1 M M1 H H1 → GlOk w.G A1 M1 H1 g1 → P A1 M1 H1 z g)
    (k : ∀ A M H g x y d e z, Wd A M H → GlOk w.G A M H g → Rb w.G A M H x d → Rb w.G A M H y e → o g d e = some z → P A M H z g → r x y H Q) : tOp r (bD w fa) (bD w fb) σ H Q := by
  obtain ⟨B, A, M, ds, g, rel, p⟩ := h
  refine ⟨B, A, M, ds, g, rel, (Rs.post_bind p).imp (fun d g1 p1 x A1 M1 H1 gr1 gl1 r1 => ?_) fun _ _ z => z⟩
  have p1' := Rs.post_bind p1
  refine ⟨B, A1, M1, ds, g1, rel.grow gr1 gl1, p1'.imp (fun e g2 p2 y A2 M2 H2 gr2 gl2 r2 => ?_) fun e g z => EE.on z gr1 gl1⟩
  obtain ⟨z, eo, qz⟩ := post_opt p2
  exact k A2 M2 H2 g2 x y d e z gr2.wd gl2 (r1.grow gr2) r2 eo (hon _ _ _ _ _ _ _ _ _ qz (gr1.trans gr2 gl1 (fun _ h => nomatch h)) gl2)
section
variable {X : Cx} {w : Wc} {a b e : Expr} {fa fb : DE} {pos : Pos} {es : List Expr}
theorem k_ix (hK : X.K = w.G.K) (ha : BD X w a fa) (hb : BD X w b fb) (hs : PlainIx b) : KD X w (.Subscript a b pos) (dIx fa fb) :=
  pe_imp (pe_ix ix_seq ha hb hs) fun σ H Q h => bin2g (P := fun A M H => QE w.G A M H Q) h (fun _ _ _ _ _ _ _ _ _ q g l => QE.on q g l) fun A M H g x y d e z wd gl rx ry eo q => by
    unfold oIx at eo
    split at eo
    · rename_i i
      split at eo
      · rename_i l
        obtain ⟨p, xs, rfl, hx, r⟩ := rx.tup wd
        obtain ⟨u, hu, ru⟩ := r.atI eo
        exact .inr (.inl ⟨p, xs, i, u, rfl, ry.int, by rw [hK]; exact hx, hu, q u A M H wd.refl gl ru⟩)
      · rename_i l
        obtain ⟨p, rfl, hx⟩ := rx.scr wd
        cases ez : L2.atI l i with
        | none => rw [ez] at eo; cases eo
        | some n =>
          rw [ez] at eo
          cases eo
          exact .inl ⟨p, l.map V.int, i, .int n, rfl, ry.int, by rw [hK]; exact hx, by rw [atI_map, ez]; rfl, q (.int n) A M H wd.refl gl (.int n)⟩
      · split at eo
        · rename_i l hl
          obtain ⟨p, xs, rfl, hx, r⟩ := rx.lview wd gl hl
          obtain ⟨u, hu, ru⟩ := r.atI eo
          exact .inl ⟨p, xs, i, u, rfl, ry.int, SqL.of hx, hu, q u A M H wd.refl gl ru⟩
        · cases eo
    · cases eo
/-- r.f, of a rule -/
def rulF (f : Str) : Dat → Option Dat
  | .rul a b c => if f = "begun" then some a else if f = "later" then some b else if f = "part" then some c else none
  | _ => none
theorem k_fldR {f : Str} (hK : X.K = w.G.K) (c : Cls w.G.K w.G.rC) (hn : NoAttr w.G.K w.G.rC f) (ha : BD X w e fa) (hb : attributeBase e f X.env (eval e X.env) = eval e X.env) : KD X w (.Attribute e f pos) (d1 (rulF f) fa) :=
  pe_imp (pe_fld ha hb) fun σ H Q ⟨B, A, M, ds, g, rel, p⟩ => ⟨B, A, M, ds, g, rel, (Rs.post_bind p).imp (fun d g1 p1 v A1 M1 H1 gr gl r => by
    obtain ⟨z, ez, qz⟩ := post_opt p1
    unfold rulF at ez
    split at ez
    · rename_i d1 d2 d3
      cases r with
      | fz r =>
        cases r with
        | @rul a dx v1 v2 v3 f s p h r1 r2 r3 =>
          have hh := gr.wd.mh _ _ h
          have hc : Cls X.K w.G.rC := by rw [hK]; exact c
          have hno : NoAttr X.K w.G.rC f := by rw [hK]; exact hn
          by_cases e1 : f = "begun"
          · rw [if_pos e1] at ez
            cases ez
            refine ⟨a, _, dx, _, v1, rfl, hh, hc, hno, ?_, qz v1 A1 M1 H1 gr gl r1⟩
            rw [e1]
            rfl
          · rw [if_neg e1] at ez
            by_cases e2 : f = "later"
            · rw [if_pos e2] at ez
              cases ez
              refine ⟨a, _, dx, _, v2, rfl, hh, hc, hno, ?_, qz v2 A1 M1 H1 gr gl r2⟩
              rw [e2]
              have h1 : (("later" : Str) == ("begun" : Str)) = false := by decide +kernel
              simp [List.lookup, h1]
            · rw [if_neg e2] at ez
              by_cases e3 : f = "part"
              · rw [if_pos e3] at ez
                cases ez
                refine ⟨a, _, dx, _, v3, rfl, hh, hc, hno, ?_, qz v3 A1 M1 H1 gr gl r3⟩
                rw [e3]
                have h1 : (("part" : Str) == ("begun" : Str)) = false := by decide +kernel
                have h2 : (("part" : Str) == ("later" : Str)) = false := by decide +kernel
                simp [List.lookup, h1, h2]
              · rw [if_neg e3] at ez
                cases ez
    · cases ez) fun _ _ z => z⟩

/-! ### calls of defs -/
abbrev Fn := List Dat → Gl → Rs Dat
def EF (G : Gm) (A : List Addr) (M H : Hp) (E : XK) : Er → Gl → Prop := fun e g' => ∀ cls dd A' M' H', Grow [] A A' M M' H H' → GlOk G A' M' H' g' → ErOk G A' M' H' e cls dd → E cls dd H'
def spF (G : Gm) (n : Nat) (F : Fn) : Sp := fun vs H Q E => vs.length = n ∧ ∃ A M ds g, Wd A M H ∧ GlOk G A M H g ∧ RpA G A M vs ds ∧ (F ds g).Post (QE G A M H Q) (EF G A M H E)
/-- a def that is called by its name -/
structure Cal (P : Program) (w : World) (mg : Str → Option Value) (base : Heap) (G : Gm) (k : Nat) (x : Str) (n : Nat) (F : Fn) : Prop where
  ok : ∃ (f : Addr) (fd : FuncData) (ps : List Str), FnOk P w G.K mg base (L2.CX P w) k f fd ps (spF G n F) ∧ mg x = some (.ref f) ∧ PySem.W.keepIn G.K (.ref f) = true ∧ Binds G.K fd ps []
  len : ∀ ds g, ds.length ≠ n → F ds g = .no
def dCall (F : Fn) (fa : DA) : DE := fun ds g => (fa ds g).bind fun l g => F l g
theorem k_call {x : Str} {p pos : Pos} {k j n : Nat} {F : Fn} {fr : DA} (c : Cal X.prog X.w X.mg X.base w.G k x n F) (hK : X.K = w.G.K) (tk : Takes X w.W) (hr : Room j X.A) (hj : k ≤ j) (hg : L2.Gl X x) (ha : AD X w (e :: es) fr)
    (hdb : (x == ("__debug__" : Str)) = false) (he : starEach (e :: es) X.env = (false, eval e X.env) :: starEach es X.env) (hpl : (backTo pos (starEach es X.env)).any (·.1) = false) : KD X w (.Call (.Name x p) (e :: es) [] pos) (dCall F fr) := by
  obtain ⟨f, fd, ps, hF, hm, hk, hb⟩ := c.ok
  rw [← hK] at hF hk hb
  refine pe_imp (pe_callS hF (hr.mono hj) hg hm hk hb (fun σ => passAt tk σ) ha hdb he hpl) fun σ H Q ⟨B, A, M, ds, g, rel, p⟩ => ⟨B, A, M, ds, g, rel, (Rs.post_bind p).imp (fun l g1 p1 vs A1 M1 H1 gr gl r => ?_) fun _ _ z => z⟩
  have hl : vs.length = n := by
    rw [r.length]
    by_cases h : l.length = n
    · exact h
    · rw [c.len l g1 h] at p1
      exact p1.elim
  cases q : F l g1 with
  | no => rw [q] at p1; exact p1.elim
  | ok d g2 =>
    rw [q] at p1
    refine ⟨hl, A1, M1, l, g1, gr.wd, gl, r, ?_⟩
    · rw [q]
      exact QE.on p1 gr gl
  | er e g2 =>
    rw [q] at p1
    refine ⟨hl, A1, M1, l, g1, gr.wd, gl, r, ?_⟩
    · rw [q]
      exact EE.on p1 gr gl
end
end DL

/-! DL, part 7: statements, blocks, the body of a def. -/
namespace DL
open PySem L2

inductive Out where
  | nx (ds : DEnv)
  | rt (d : Dat)
  | bk (ds : DEnv)
  | ct (ds : DEnv)
abbrev DS := DEnv → Gl → Rs Out
/-- what was frozen or shared stays so -/
def Inc (A A' : List Addr) (M M' : Hp) : Prop := (∀ (k : Nat) (a : Addr), A[k]? = some a → A'[k]? = some a) ∧ Same M M'
theorem Inc.refl (A : List Addr) (M : Hp) : Inc A A M M := ⟨fun _ _ h => h, Same.refl M⟩
theorem Inc.trans {A A1 A2 : List Addr} {M M1 M2 : Hp} (a : Inc A A1 M M1) (b : Inc A1 A2 M1 M2) : Inc A A2 M M2 := ⟨fun k x h => b.1 k x (a.1 k x h), a.2.trans b.2⟩
theorem Grow.inc {Z A A1 : List Addr} {M M1 H H1 : Hp} (h : Grow Z A A1 M M1 H H1) : Inc A A1 M M1 := ⟨h.at, h.mex⟩
def QS (w : Wc) (B : Bs) (A : List Addr) (M : Hp) (D : Ends) : Out → Gl → Prop := fun o g' => match o with
  | .nx ds' => ∀ A' M' H' σ', Rel w B A' M' H' σ' ds' g' → Inc A A' M M' → D.nx σ' H'
  | .rt d => ∀ v A' M' H', Grow B.Z B.A A' B.M M' B.H H' → GlOk w.G A' M' H' g' → Rp w.G A' M' v d → D.rt v H'
  | .bk ds' => ∀ A' M' H' σ', Rel w B A' M' H' σ' ds' g' → Inc A A' M M' → D.bk σ' H'
  | .ct ds' => ∀ A' M' H' σ', Rel w B A' M' H' σ' ds' g' → Inc A A' M M' → D.ct σ' H'
def ES (w : Wc) (B : Bs) : Er → Gl → Prop := fun e g' => ∀ cls dd A' M' H' σ', Grow B.Z B.A A' B.M M' B.H H' → GlOk w.G A' M' H' g' → ErOk w.G A' M' H' e cls dd → w.W cls dd σ' H'
def sD (w : Wc) (f : DS) : TS := fun D σ H => ∃ B A M ds g, Rel w B A M H σ ds g ∧ (f ds g).Post (QS w B A M D) (ES w B)
abbrev SD (X : Cx) (w : Wc) (st : Stmt) (f : DS) : Prop := PS X st (sD w f)
abbrev SsD (X : Cx) (w : Wc) (st : List Stmt) (f : DS) : Prop := PSs X st (sD w f)
theorem ps_imp {X : Cx} {st : Stmt} {t t' : TS} (h : PS X st t) (hi : ∀ D σ H, t' D σ H → t D σ H) : PS X st t' := ⟨fun pins s σ H D I q => h.run pins s σ H D I (hi D σ H q)⟩
theorem pss_imp {X : Cx} {st : List Stmt} {t t' : TS} (h : PSs X st t) (hi : ∀ D σ H, t' D σ H → t D σ H) : PSs X st t' := ⟨fun pins s σ H D I q => h.run pins s σ H D I (hi D σ H q)⟩
section
variable {w : Wc} {B : Bs} {A A1 : List Addr} {M M1 H H1 : Hp} {σ : L2.St} {ds : DEnv} {g g1 : Gl}
theorem Rel.es {e : Er} (r : Rel w B A M H σ ds g) (h : ES w B e g1) : EE w A M H σ e g1 := fun cls dd A' M' H' gr gl er => h cls dd A' M' H' σ (r.gr.trans gr r.gl r.zo) gl er
theorem QS.inc {D : Ends} {o : Out} (h : QS w B A M D o g) (i : Inc A A1 M M1) : QS w B A1 M1 D o g := by
  cases o with
  | nx ds => exact fun A' M' H' σ' r j => h A' M' H' σ' r (i.trans j)
  | rt d => exact h
  | bk ds => exact fun A' M' H' σ' r j => h A' M' H' σ' r (i.trans j)
  | ct ds => exact fun A' M' H' σ' r j => h A' M' H' σ' r (i.trans j)
/-- a slot is stored -/
theorem Rel.set {i : Nat} {v : V} {s : Slot} (r : Rel w B A M H σ ds g) (hs : SlotOk w B A M H (some (some v)) s) (hd : isOwn (some s) = true → ∀ (j : Nat) (p : Addr), v = .ref p → isOwn ds[j]? = true → σ[j]? = some (some (.ref p)) → False) :
    Rel w B A M H (σ.set i (some v)) (ds.set i s) g := by
  refine ⟨r.gr, r.gl, by rw [List.length_set, List.length_set]; exact r.len, fun j s' e => ?_, fun j k p hjk o1 o2 e1 e2 => ?_, r.zo⟩
  · by_cases hj : i = j
    · subst hj
      by_cases hi : i < ds.length
      · rw [List.getElem?_set_self hi] at e
        cases e
        rw [List.getElem?_set_self (by rw [r.len]; exact hi)]
        exact hs
      · rw [List.set_eq_of_length_le (by omega)] at e
        rw [List.set_eq_of_length_le (by rw [r.len]; omega)]
        exact r.sl i s' e
    · rw [List.getElem?_set_ne hj] at e
      rw [List.getElem?_set_ne hj]
      exact r.sl j s' e
  · have own : ∀ j : Nat, isOwn (ds.set i s)[j]? = true → (i = j ∧ isOwn (some s) = true ∧ i < ds.length) ∨ (i ≠ j ∧ isOwn ds[j]? = true) ∨ (i = j ∧ ¬ i < ds.length ∧ isOwn ds[j]? = true) := fun j o => by
      by_cases hj : i = j
      · subst hj
        by_cases hi : i < ds.length
        · rw [List.getElem?_set_self hi] at o
          exact .inl ⟨rfl, o, hi⟩
        · rw [List.set_eq_of_length_le (by omega)] at o
          exact .inr (.inr ⟨rfl, hi, o⟩)
      · rw [List.getElem?_set_ne hj] at o
        exact .inr (.inl ⟨hj, o⟩)
    have gt : ∀ j : Nat, i ≠ j → (σ.set i (some v))[j]? = σ[j]? := fun j hj => List.getElem?_set_ne hj
    have ge : ∀ j : Nat, ¬ i < ds.length → (σ.set i (some v))[j]? = σ[j]? := fun j hj => by rw [List.set_eq_of_length_le (by rw [r.len]; omega)]
    have gs : i < ds.length → (σ.set i (some v))[i]? = some (some v) := fun h => List.getElem?_set_self (by rw [r.len]; exact h)
    rcases own j o1 with ⟨hj, os, hl⟩ | ⟨hj, oj⟩ | ⟨hj, hl, oj⟩
    · subst hj
      rw [gs hl] at e1
      rw [gt k hjk] at e2
      have o2' : isOwn ds[k]? = true := by rw [List.getElem?_set_ne hjk] at o2; exact o2
      exact hd os k p (Option.some.inj (Option.some.inj e1)) o2' e2
    · rw [gt j hj] at e1
      rcases own k o2 with ⟨hk, os, hl⟩ | ⟨hk, ok⟩ | ⟨hk, hl, ok⟩
      · subst hk
        rw [gs hl] at e2
        exact hd os j p (Option.some.inj (Option.some.inj e2)) oj e1
      · rw [gt k hk] at e2
        exact r.dj j k p hjk oj ok e1 e2
      · rw [ge k hl] at e2
        exact r.dj j k p hjk oj ok e1 e2
    · rw [ge j hl] at e1
      rcases own k o2 with ⟨hk, os, hl'⟩ | ⟨hk, ok⟩ | ⟨hk, hl', ok⟩
      · exact absurd hl' hl
      · rw [gt k hk] at e2
        exact r.dj j k p hjk oj ok e1 e2
      · rw [ge k hl] at e2
        exact r.dj j k p hjk oj ok e1 e2
theorem Rel.setSh {i : Nat} {v : V} {d : Dat} (r : Rel w B A M H σ ds g) (h : Rp w.G A M v d) : Rel w B A M H (σ.set i (some v)) (ds.set i (.sh d)) g := r.set ⟨v, rfl, h⟩ fun h => nomatch h
theorem own_ref {j : Nat} (r : Rel w B A M H σ ds g) (h : isOwn ds[j]? = true) : ∃ p o, σ[j]? = some (some (.ref p)) ∧ H p = some o ∧ M p = none ∧ p ∉ A := by
  cases e : ds[j]? with
  | none => rw [e] at h; cases h
  | some s =>
    have q := r.sl j s e
    rw [e] at h
    cases s with
    | own l => obtain ⟨p, xs, e1, e2, _, m⟩ := q; exact ⟨p, _, e1, e2, m.1, m.2.1⟩
    | ownD ks l => obtain ⟨p, xs, e1, e2, _, _, m⟩ := q; exact ⟨p, _, e1, e2, m.1, m.2.1⟩
    | self ks l => obtain ⟨p, dx, xs, e1, e2, _, _, m⟩ := q; exact ⟨p, _, e1, e2, m.1, m.2.1⟩
    | _ => cases h
/-- a new list of one's own -/
theorem Rel.setOwn {i : Nat} {p : Addr} {xs : List V} {l : List Dat} {A0 : List Addr} {M0 H0 : Hp} {g0 : Gl} (r0 : Rel w B A0 M0 H0 σ ds g0) (r : Rel w B A M H σ ds g) (hn : H0 p = none) (hp : H p = some (.lst xs)) (mn : M p = none) (na : p ∉ A) (h : RpA w.G A M xs l) :
    Rel w B A M H (σ.set i (some (.ref p))) (ds.set i (.own l)) g := by
  have bn : B.H p = none := by
    refine r0.gr.back (fun a ha => ?_) r0.zo hn
    obtain ⟨C, ea, _⟩ := id r0.gr.aex
    exact r0.gl.there a (by rw [ea]; exact List.mem_append_left _ ha)
  refine r.set ⟨p, xs, rfl, hp, h, mn, na, bn⟩ fun _ j q e o2 e2 => ?_
  cases e
  obtain ⟨p', o, e3, e4, _⟩ := own_ref r0 o2
  rw [e2] at e3
  cases e3
  rw [hn] at e4
  cases e4
end

/-! ### blocks -/
def dSeq (f1 f2 : DS) : DS := fun ds g => (f1 ds g).bind fun o g => match o with
  | .nx ds' => f2 ds' g
  | o => .ok o g
def dSkip : DS := fun ds g => .ok (.nx ds) g
section
variable {X : Cx} {w : Wc} {st : Stmt} {rest : List Stmt} {f f1 f2 : DS}
theorem seq_go {D : Ends} {σ : L2.St} {H : Hp} (h : sD w (dSeq f1 f2) D σ H) : sD w f1 { D with nx := sD w f2 D } σ H := by
  obtain ⟨B, A, M, ds, g, rel, p⟩ := h
  refine ⟨B, A, M, ds, g, rel, (Rs.post_bind p).imp (fun o g1 p1 => ?_) fun _ _ z => z⟩
  cases o with
  | nx ds' => exact fun A' M' H' σ' r i => ⟨B, A', M', ds', g1, r, Rs.Post.imp p1 (fun o g2 q => QS.inc q i) fun _ _ z => z⟩
  | rt d => exact p1
  | bk ds' => exact p1
  | ct ds' => exact p1
theorem ss_nil : SsD X w [] dSkip := pss_imp pss_nil fun D σ H ⟨B, A, M, ds, g, rel, p⟩ => p A M H σ rel (Inc.refl A M)
theorem ss_cons (h1 : SD X w st f1) (h2 : SsD X w rest f2) : SsD X w (st :: rest) (dSeq f1 f2) := pss_imp (pss_cons h1 h2) fun D σ H h => seq_go h
theorem ss_one (h1 : SD X w st f1) : SsD X w [st] f1 := pss_one h1
end

/-! ### statements -/
section
variable {X : Cx} {w : Wc} {e : Expr} {fe : DE} {ff fr : DA} {f1 f2 : DS} {pos : Pos}
def dAsg (i : Nat) (f : DE) : DS := fun ds g => (f ds g).bind fun d g => .ok (.nx (ds.set i (.sh d))) g
def dOwn (i : Nat) (f : DA) : DS := fun ds g => (f ds g).bind fun l g => .ok (.nx (ds.set i (.own l))) g
theorem asg_go {D : Ends} {σ : L2.St} {H : Hp} {i : Nat} (h : sD w (dAsg i fe) D σ H) : tAsg (tD w fe) (gName i) D σ H := by
  obtain ⟨B, A, M, ds, g, rel, p⟩ := h
  exact ⟨B, A, M, ds, g, rel, (Rs.post_bind p).imp (fun d g1 p1 v A1 M1 H1 gr gl r => p1 A1 M1 H1 _ ((rel.grow gr gl).setSh r) gr.inc) fun e g z => rel.es z⟩
theorem own_go {D : Ends} {σ : L2.St} {H : Hp} {i : Nat} (h : sD w (dOwn i ff) D σ H) : tAsg (fD w ff) (gName i) D σ H := by
  obtain ⟨B, A, M, ds, g, rel, p⟩ := h
  exact ⟨B, A, M, ds, g, rel, (Rs.post_bind p).imp (fun l g1 p1 q xs A1 M1 H1 gr gl hn hp mn na r => p1 A1 M1 H1 _ (rel.setOwn (rel.grow gr gl) hn hp mn na r) gr.inc) fun e g z => rel.es z⟩
theorem s_asg {i : Nat} {x : Str} {pos' : Pos} (hN : X.N.Nodup) (hi : X.N[i]? = some x) (hx : Loc X.env.scope x) (he : KD X w e fe) (hs : swapsWith e (some (.Name x pos')) pos.line X.env = pure false) (hf : X.fn x = true ∨ X.env.scope.names.lookup x = some .local) :
    SD X w (.Assign [.Name x pos'] e pos) (dAsg i fe) := ps_imp (ps_set hN hi hx he hs hf) fun D σ H h => asg_go h
theorem s_own {i : Nat} {x : Str} {pos' : Pos} (hN : X.N.Nodup) (hi : X.N[i]? = some x) (hx : Loc X.env.scope x) (he : FD X w e ff) (hs : swapsWith e (some (.Name x pos')) pos.line X.env = pure false) (hf : X.fn x = true ∨ X.env.scope.names.lookup x = some .local) :
    SD X w (.Assign [.Name x pos'] e pos) (dOwn i ff) := ps_imp (ps_set hN hi hx he hs hf) fun D σ H h => own_go h
def dDrop (f : DE) : DS := fun ds g => (f ds g).bind fun _ g => .ok (.nx ds) g
theorem s_expr (he : KD X w e fe) (hs : swapsWith e none pos.line X.env = pure false) : SD X w (.Expr e pos) (dDrop fe) :=
  ps_imp (ps_expr he hs) fun D σ H ⟨B, A, M, ds, g, rel, p⟩ => ⟨B, A, M, ds, g, rel, (Rs.post_bind p).imp (fun d g1 p1 v A1 M1 H1 gr gl r => p1 A1 M1 H1 σ (rel.grow gr gl) gr.inc) fun e g z => rel.es z⟩
def dRet (f : DE) : DS := fun ds g => (f ds g).bind fun d g => .ok (.rt d) g
theorem s_ret (he : KD X w e fe) : SD X w (.Return (some e) pos) (dRet fe) :=
  ps_imp (ps_ret he) fun D σ H ⟨B, A, M, ds, g, rel, p⟩ => ⟨B, A, M, ds, g, rel, (Rs.post_bind p).imp (fun d g1 p1 v A1 M1 H1 gr gl r => p1 v A1 M1 H1 (rel.gr.trans gr rel.gl rel.zo) gl r) fun e g z => rel.es z⟩
/-- return x, a thing of one's own too -/
def dRetO (i : Nat) : DS := fun ds g => match ds[i]? with
  | some (.sh d) => .ok (.rt d) g
  | some (.own l) => .ok (.rt (.lst l)) g
  | some (.ownD ks l) => .ok (.rt (.dct ks l)) g
  | _ => .no
theorem Rel.out {B : Bs} {A : List Addr} {M H : Hp} {σ : L2.St} {ds : DEnv} {g : Gl} {p : Addr} {o : HO} (rel : Rel w B A M H σ ds g) (hp : H p = some o) (m : Mine B A M p) :
    Grow B.Z B.A A B.M (upd M p o) B.H H ∧ Same M (upd M p o) ∧ GlOk w.G A (upd M p o) H g := by
  have hm : Same M (upd M p o) := fun a u ha => by
    rw [upd_ne (ne_of_none ha m.1)]
    exact ha
  refine ⟨⟨rel.gr.keep, rel.gr.mex.trans hm, fun a u ha => ?_, fun a u ha => ?_, rel.gr.aex, fun a ha => ?_⟩, hm, rel.gl.stay hm fun _ _ => rfl⟩
  · by_cases e : a = p
    · subst e
      rw [upd_same] at ha
      rw [hp]
      exact ha
    · rw [upd_ne e] at ha
      exact rel.gr.mh a u ha
  · by_cases e : a = p
    · subst e
      exact .inr m.2.2
    · rw [upd_ne e] at ha
      exact rel.gr.mnew a u ha
  · have e : a ≠ p := fun e => m.2.1 (by rw [← e]; exact ha)
    rw [upd_ne e]
    exact rel.gr.mA a ha
theorem s_retO {i : Nat} (he : PE X e (tVar i)) : SD X w (.Return (some e) pos) (dRetO i) :=
  ps_imp (ps_ret he) fun D σ H ⟨B, A, M, ds, g, rel, p⟩ => by
    unfold dRetO at p
    split at p
    · rename_i d hd
      obtain ⟨u, e1, e2⟩ := rel.sl i _ hd
      exact ⟨u, e1, p u A M H rel.gr rel.gl e2⟩
    · rename_i l hd
      obtain ⟨a, xs, e1, e2, e3, m⟩ := rel.sl i _ hd
      obtain ⟨o1, o2, o3⟩ := rel.out e2 m
      exact ⟨.ref a, e1, p _ A _ H o1 o3 (.lst upd_same (e3.mono (fun _ _ z => z) o2))⟩
    · rename_i ks l hd
      obtain ⟨a, xs, e1, e2, el, e3, m⟩ := rel.sl i _ hd
      obtain ⟨o1, o2, o3⟩ := rel.out e2 m
      exact ⟨.ref a, e1, p _ A _ H o1 o3 (.dct upd_same el (e3.mono (fun _ _ z => z) o2))⟩
    · exact p.elim
def dIfS (t : DT) (f g : DS) : DS := fun ds s => (t ds s).bind fun c s => if c = true then f ds s else g ds s
theorem s_if {c : Expr} {a b : List Stmt} {ft : DT} (hc : TD X w c ft) (ha : SsD X w a f1) (hb : SsD X w b f2) : SD X w (.If c a b pos) (dIfS ft f1 f2) :=
  ps_imp (ps_if hc ha hb) fun D σ H ⟨B, A, M, ds, g, rel, p⟩ => ⟨B, A, M, ds, g, rel, (Rs.post_bind p).imp (fun c g1 p1 A1 M1 H1 gr gl => by
    cases c with
    | true => exact ⟨B, A1, M1, ds, g1, rel.grow gr gl, Rs.Post.imp p1 (fun _ _ q => QS.inc q gr.inc) fun _ _ z => z⟩
    | false => exact ⟨B, A1, M1, ds, g1, rel.grow gr gl, Rs.Post.imp p1 (fun _ _ q => QS.inc q gr.inc) fun _ _ z => z⟩) fun e g z => rel.es z⟩
theorem s_pass : SD X w (.Pass pos) dSkip := ps_imp ps_pass fun D σ H ⟨B, A, M, ds, g, rel, p⟩ => p A M H σ rel (Inc.refl A M)
/-- a, b = e1, e2 -/
def dPar (i j : Nat) (f : DA) : DS := fun ds g => (f ds g).bind fun l g => match l with
  | [a, b] => .ok (.nx ((ds.set i (.sh a)).set j (.sh b))) g
  | _ => .no
theorem par_go {D : Ends} {σ : L2.St} {H : Hp} {i j : Nat} (h : sD w (dPar i j ff) D σ H) : tPar i j (aD w ff) D σ H := by
  obtain ⟨B, A, M, ds, g, rel, p⟩ := h
  refine ⟨B, A, M, ds, g, rel, (Rs.post_bind p).imp (fun l g1 p1 vs A1 M1 H1 gr gl r => ?_) fun e g z => rel.es z⟩
  cases r with
  | nil => exact p1.elim
  | cons ra r =>
    cases r with
    | nil => exact p1.elim
    | cons rb r =>
      cases r with
      | nil => exact ⟨_, _, rfl, p1 A1 M1 H1 _ (((rel.grow gr gl).setSh ra).setSh rb) gr.inc⟩
      | cons _ _ => exact p1.elim
def dPar3 (i j k : Nat) (f : DA) : DS := fun ds g => (f ds g).bind fun l g => match l with
  | [a, b, c] => .ok (.nx (((ds.set i (.sh a)).set j (.sh b)).set k (.sh c))) g
  | _ => .no
theorem par3_go {D : Ends} {σ : L2.St} {H : Hp} {i j k : Nat} (h : sD w (dPar3 i j k ff) D σ H) : tPar3 i j k (aD w ff) D σ H := by
  obtain ⟨B, A, M, ds, g, rel, p⟩ := h
  refine ⟨B, A, M, ds, g, rel, (Rs.post_bind p).imp (fun l g1 p1 vs A1 M1 H1 gr gl r => ?_) fun e g z => rel.es z⟩
  cases r with
  | nil => exact p1.elim
  | cons ra r =>
    cases r with
    | nil => exact p1.elim
    | cons rb r =>
      cases r with
      | nil => exact p1.elim
      | cons rc r =>
        cases r with
        | nil => exact ⟨_, _, _, rfl, p1 A1 M1 H1 _ ((((rel.grow gr gl).setSh ra).setSh rb).setSh rc) gr.inc⟩
        | cons _ _ => exact p1.elim
/-- x, y = new list, e -/
def dParF (i j : Nat) (f : DA) (fe : DE) : DS := fun ds g => (f ds g).bind fun l g => (fe ds g).bind fun d g => .ok (.nx ((ds.set i (.own l)).set j (.sh d))) g
theorem parF_go {D : Ends} {σ : L2.St} {H : Hp} {i j : Nat} (h : sD w (dParF i j ff fe) D σ H) : tPar i j (tCons (fD w ff) (tCons (tD w fe) tNil)) D σ H := by
  obtain ⟨B, A, M, ds, g, rel, p⟩ := h
  refine ⟨B, A, M, ds, g, rel, (Rs.post_bind p).imp (fun l g1 p1 q xs A1 M1 H1 gr gl hn hp mn na r => ?_) fun e g z => rel.es z⟩
  have rel1 := rel.grow gr gl
  refine ⟨B, A1, M1, ds, g1, rel1, (Rs.post_bind p1).imp (fun d g2 p2 v A2 M2 H2 gr2 gl2 r2 => ?_) fun e g z => rel1.es z⟩
  have rel2 := rel1.grow gr2 gl2
  have m2 : M2 q = none := by
    cases e : M2 q with
    | none => rfl
    | some u =>
      rcases gr2.mnew q u e with z | z
      · rw [mn] at z; cases z
      · rw [hp] at z; cases z
  exact ⟨_, _, rfl, p2 A2 M2 H2 _ ((rel.setOwn rel2 hn (gr2.keep q _ hp na (fun z => nomatch z)) m2 (gr2.notA hp na) (r.grow gr2)).setSh r2) (gr.inc.trans gr2.inc)⟩
/-- x, y = e, new list -/
def dParG (i j : Nat) (fe : DE) (f : DA) : DS := fun ds g => (fe ds g).bind fun d g => (f ds g).bind fun l g => .ok (.nx ((ds.set j (.own l)).set i (.sh d))) g
theorem set_swap {α : Type} (l : List α) {i j : Nat} (h : i ≠ j) (a b : α) : (l.set i a).set j b = (l.set j b).set i a := List.set_comm a b h
theorem parG_go {D : Ends} {σ : L2.St} {H : Hp} {i j : Nat} (hij : i ≠ j) (h : sD w (dParG i j fe ff) D σ H) : tPar i j (tCons (tD w fe) (tCons (fD w ff) tNil)) D σ H := by
  obtain ⟨B, A, M, ds, g, rel, p⟩ := h
  refine ⟨B, A, M, ds, g, rel, (Rs.post_bind p).imp (fun d g1 p1 v A1 M1 H1 gr gl r => ?_) fun e g z => rel.es z⟩
  have rel1 := rel.grow gr gl
  refine ⟨B, A1, M1, ds, g1, rel1, (Rs.post_bind p1).imp (fun l g2 p2 q xs A2 M2 H2 gr2 gl2 hn hp mn na r2 => ?_) fun e g z => rel1.es z⟩
  refine ⟨_, _, rfl, ?_⟩
  rw [set_swap σ hij]
  exact p2 A2 M2 H2 _ ((rel1.setOwn (rel1.grow gr2 gl2) hn hp mn na r2).setSh (r.grow gr2)) (gr.inc.trans gr2.inc)
end
/-! ### the body of a def -/
def mkF (n m : Nat) (body : DS) : Fn := fun l g => if l.length = n then (body (l.map Slot.sh ++ List.replicate (m - n) Slot.unset) g).bind (fun o g => match o with
  | .nx _ => .ok .non g
  | .rt d => .ok d g
  | _ => .no) else .no
theorem mkF_len {n m : Nat} {body : DS} : ∀ l g, l.length ≠ n → mkF n m body l g = .no := fun l g h => if_neg h
/-- the wishes in a def's body -/
abbrev wcF (G : Gm) (E : XK) : Wc := ⟨G, 0, .none, none, 0, fun cls d _ H => E cls d H⟩
theorem isOwn_sh {l : List Dat} {k j : Nat} : isOwn (l.map Slot.sh ++ List.replicate k Slot.unset)[j]? = false := by
  by_cases h : j < (l.map Slot.sh).length
  · rw [List.getElem?_append_left h, List.getElem?_map]
    cases l[j]? <;> rfl
  · rw [List.getElem?_append_right (by omega), List.getElem?_replicate]
    split <;> rfl
theorem rel_start {w : Wc} {A : List Addr} {M H : Hp} {vs : List V} {l : List Dat} {g : Gl} (N : List Str) (wd : Wd A M H) (gl : GlOk w.G A M H g) (r : RpA w.G A M vs l) :
    Rel w ⟨[], A, M, H⟩ A M H (L2.start N vs) (l.map Slot.sh ++ List.replicate (N.length - l.length) Slot.unset) g := by
  have hl := r.length
  refine ⟨wd.refl, gl, ?_, fun i s e => ?_, fun i j p hij o1 => ?_, fun a h => nomatch h⟩
  · unfold L2.start
    rw [List.length_append, List.length_map, List.length_replicate, List.length_append, List.length_map, List.length_replicate, hl]
  · unfold L2.start
    by_cases h : i < l.length
    · rw [List.getElem?_append_left (by rw [List.length_map]; exact h), List.getElem?_map] at e
      rw [List.getElem?_append_left (by rw [List.length_map, hl]; exact h), List.getElem?_map]
      cases el : l[i]? with
      | none => rw [el] at e; cases e
      | some d =>
        rw [el] at e
        cases e
        obtain ⟨v, e1, e2⟩ := r.get el
        rw [e1]
        exact ⟨v, rfl, e2⟩
    · rw [List.getElem?_append_right (by rw [List.length_map]; omega), List.getElem?_replicate] at e
      split at e
      · cases e
        trivial
      · cases e
  · rw [isOwn_sh] at o1
    cases o1
theorem fn_ok {P : Program} {w : World} {mg : Str → Option Value} {base : Heap} {G : Gm} {x qual : Str} {st : Stmt} {f : Addr} {fd : FuncData} {N ps : List Str} {k : Nat} {body : DS} (F : Fun G.K x qual st f fd) (S : FnScope N ps (defScope st)) (hN : N.length = m) (hP : ps.length = n)
    (hb : ∀ (cdv : Value) (A : Around) (outer : List Env) (s : Shared) (H : Hp) (E : XK), Room k (A.deeper (PyProof.Rows.envOfC qual (defScope st) s.heap.objs.size f cdv)) →
      SsD (cxOf (L2.CX P w) P w G.K mg base N qual (defScope st) f cdv A outer s H E) (wcF G E) (defBody st) body) :
    FnOk P w G.K mg base (L2.CX P w) (k + 1) f fd ps (spF G n (mkF n m body)) := by
  refine F.okX S (fun vs H Q E h => h.1.trans hP.symm) fun cdv A outer s H vs Q E hr h => ?_
  obtain ⟨hl, A0, M, l, g, wd, gl, r, p⟩ := h
  refine ⟨_, hb cdv A outer s H E hr, ?_⟩
  have hl' : l.length = n := by rw [← r.length]; exact hl
  unfold mkF at p
  rw [if_pos hl'] at p
  have rs := rel_start (w := wcF G E) N wd gl r
  rw [hN, hl'] at rs
  refine ⟨⟨[], A0, M, H⟩, A0, M, _, g, rs, (Rs.post_bind p).imp (fun o g1 p1 => ?_) fun e g1 p1 cls dd A' M' H' σ' gr gl er => p1 cls dd A' M' H' gr gl er⟩
  cases o with
  | nx ds => exact fun A' M' H' σ' r _ => p1 .non A' M' H' r.gr r.gl .non
  | rt d => exact fun v A' M' H' gr gl rp => p1 v A' M' H' gr gl rp
  | bk ds => exact p1.elim
  | ct ds => exact p1.elim
end DL

/-! DL, part 8: loops, comprehensions. -/
namespace DL
open PySem L2

def next (k : DS) : Out → Gl → Rs Out := fun o g => match o with
  | .nx ds => k ds g
  | .ct ds => k ds g
  | .bk ds => .ok (.nx ds) g
  | .rt d => .ok (.rt d) g
def dWhile (t : DT) (b : DS) : Nat → DS
  | 0 => fun _ _ => .no
  | n + 1 => fun ds g => (t ds g).bind fun c g => if c = true then (b ds g).bind (next (dWhile t b n)) else .ok (.nx ds) g
section
variable {X : Cx} {w : Wc} {c : Expr} {body : List Stmt} {t : DT} {fb : DS} {pos : Pos}
/-- what is wanted behind a loop, in its body -/
theorem QS.loop {B : Bs} {A0 A : List Addr} {M0 M : Hp} {D : Ends} {N : L2.St → Hp → Prop} {k : DS} {o : Out} {g : Gl} (p : (next k o g).Post (QS w B A0 M0 D) (ES w B)) (i : Inc A0 A M0 M)
    (hN : ∀ ds A' M' H' σ', (k ds g).Post (QS w B A0 M0 D) (ES w B) → Rel w B A' M' H' σ' ds g → Inc A A' M M' → N σ' H') : QS w B A M { D with nx := N, ct := N, bk := D.nx } o g := by
  cases o with
  | nx ds => exact fun A' M' H' σ' r j => hN ds A' M' H' σ' p r j
  | ct ds => exact fun A' M' H' σ' r j => hN ds A' M' H' σ' p r j
  | bk ds => exact fun A' M' H' σ' r j => p A' M' H' σ' r (i.trans j)
  | rt d => exact fun v A' M' H' h1 h2 h3 => p v A' M' H' h1 h2 h3
theorem s_while {n : Nat} (hp : PassesOwn (model X.prog X.w) X.A X.env X.xe) (hc : TD X w c t) (hb : SsD X w body fb) : SD X w (.While c body [] pos) (dWhile t fb n) :=
  ps_imp (ps_while hp hc hb) fun D σ H ⟨B, A0, M0, ds0, g0, rel0, p0⟩ => by
    refine ⟨fun m σ H => ∃ A M ds g, Rel w B A M H σ ds g ∧ (dWhile t fb m ds g).Post (QS w B A0 M0 D) (ES w B) ∧ Inc A0 A M0 M, ⟨n, A0, M0, ds0, g0, rel0, p0, Inc.refl A0 M0⟩, fun m σ H ⟨A, M, ds, g, rel, p, i⟩ => ?_⟩
    cases m with
    | zero => exact p.elim
    | succ m =>
      refine ⟨B, A, M, ds, g, rel, (Rs.post_bind p).imp (fun c g1 p1 A1 M1 H1 gr gl => ?_) fun e g z => rel.es z⟩
      have i1 := i.trans gr.inc
      cases c with
      | false => exact p1 A1 M1 H1 σ (rel.grow gr gl) i1
      | true =>
        refine ⟨fun σ' H' => ∃ A M ds g, Rel w B A M H' σ' ds g ∧ (dWhile t fb m ds g).Post (QS w B A0 M0 D) (ES w B) ∧ Inc A0 A M0 M, fun σ' H' h => ⟨m, Nat.lt_succ_self m, h⟩, B, A1, M1, ds, g1, rel.grow gr gl, ?_⟩
        exact (Rs.post_bind p1).imp (fun o g2 p2 => QS.loop p2 i1 fun ds A' M' H' σ' h r j => ⟨A', M', ds, g2, r, h, i1.trans j⟩) fun _ _ z => z

/-! ### what is walked -/
/-- J gives the items l, whatever comes between -/
def ItOk (G : Gm) (J : It) (A1 : List Addr) (M1 : Hp) (l : List Dat) : Prop := ∀ (i : Nat) (A : List Addr) (M H : Hp) (g : Gl), Inc A1 A M1 M → Wd A M H → GlOk G A M H g →
  (∀ d, l[i]? = some d → J.go i H ∧ ∀ x H', J.yld i H x H' → ∃ M', Grow [] A A M M' H H' ∧ GlOk G A M' H' g ∧ Rp G A M' x d) ∧ (l.length ≤ i → J.stop i H)
def QI (G : Gm) (A : List Addr) (M H : Hp) (R : It → Hp → Prop) : List Dat → Gl → Prop := fun l g' => ∀ J A' M' H', Grow [] A A' M M' H H' → GlOk G A' M' H' g' → ItOk G J A' M' l → R J H'
def iD (w : Wc) (f : DA) : TI := fun σ H R => ∃ B A M ds g, Rel w B A M H σ ds g ∧ (f ds g).Post (QI w.G A M H R) (EE w A M H σ)
abbrev ID (X : Cx) (w : Wc) (tg iter : Expr) (f : DA) : Prop := PI X tg iter (iD w f)
theorem pi_imp {tg iter : Expr} {t t' : TI} (h : PI X tg iter t) (hi : ∀ σ H R, t' σ H R → t σ H R) : PI X tg iter t' := ⟨fun pins s σ H R I q => h.run pins s σ H R I (hi σ H R q)⟩
theorem pi_or {tg iter : Expr} {t t' : TI} (h : PI X tg iter t) (h' : PI X tg iter t') : PI X tg iter (fun σ H R => t σ H R ∨ t' σ H R) := ⟨fun pins s σ H R I q => q.elim (h.run pins s σ H R I) (h'.run pins s σ H R I)⟩
theorem it_list {G : Gm} {A1 : List Addr} {M1 : Hp} {a : Addr} {xs : List V} {l : List Dat} (h : M1 a = some (.lst xs)) (r : RpA G A1 M1 xs l) : ItOk G (Itl G.K a) A1 M1 l := fun i A M H g inc wd gl => by
  have hH : SqL G.K H a xs := SqL.of (wd.mh _ _ (inc.2 _ _ h))
  refine ⟨fun d hd => ?_, fun hl => ⟨xs, hH, by rw [r.length]; exact hl⟩⟩
  obtain ⟨v, e1, e2⟩ := r.get hd
  refine ⟨⟨xs, v, hH, e1⟩, fun x H' hy => ?_⟩
  obtain ⟨rfl, e3⟩ := hy
  have e4 := e3 xs hH
  rw [e1] at e4
  cases e4
  exact ⟨M, wd.refl, gl, e2.mono inc.1 inc.2⟩
theorem it_tup {G : Gm} {A1 : List Addr} {M1 : Hp} {a : Addr} {xs : List V} {l : List Dat} (h : SqT G.K M1 a xs) (r : RpA G A1 M1 xs l) : ItOk G (Itt G.K a) A1 M1 l := fun i A M H g inc wd gl => by
  have hH : SqT G.K H a xs := same_t wd.mh (same_t inc.2 h)
  refine ⟨fun d hd => ?_, fun hl => ⟨xs, hH, by rw [r.length]; exact hl⟩⟩
  obtain ⟨v, e1, e2⟩ := r.get hd
  refine ⟨⟨xs, v, hH, e1⟩, fun x H' hy => ?_⟩
  obtain ⟨rfl, e3⟩ := hy
  have e4 := e3 xs hH
  rw [e1] at e4
  cases e4
  exact ⟨M, wd.refl, gl, e2.mono inc.1 inc.2⟩
/-- a list or a tuple that is kept -/
def dSq (f : DE) : DA := fun ds g => (f ds g).bind fun d g => match d with
  | .lst l => .ok l g
  | .tup l => .ok l g
  | _ => .no
theorem i_seq {tg e : Expr} {fe : DE} (hK : X.K = w.G.K) (he : KD X w e fe) : ID X w tg e (dSq fe) :=
  pi_imp (pi_or (pi_list he) (pi_tup he)) fun σ H R ⟨B, A, M, ds, g, rel, p⟩ => by
    have p' := Rs.post_bind p
    rw [hK]
    cases q : fe ds g with
    | no => rw [q] at p'; exact p'.elim
    | er e g1 =>
      rw [q] at p'
      refine .inl ⟨B, A, M, ds, g, rel, ?_⟩
      rw [q]
      exact p'
    | ok d g1 =>
      rw [q] at p'
      cases d with
      | lst l =>
        refine .inl ⟨B, A, M, ds, g, rel, ?_⟩
        rw [q]
        intro v A1 M1 H1 gr gl r
        cases r with
        | @lst a xs l h r => exact ⟨a, rfl, ⟨xs, SqL.of (gr.mh _ _ h)⟩, p' _ A1 M1 H1 gr gl (it_list h r)⟩
      | tup l =>
        refine .inr ⟨B, A, M, ds, g, rel, ?_⟩
        rw [q]
        intro v A1 M1 H1 gr gl r
        cases r with
        | @tup a xs l h r => exact ⟨a, rfl, ⟨xs, same_t gr.mh h⟩, p' _ A1 M1 H1 gr gl (it_tup h r)⟩
      | _ => exact p'.elim
/-- range(..) -/
def rngL (lo : Int) (n : Nat) : List Dat := (List.range n).map fun i : Nat => .int (lo + (i : Int))
def rng1 : List Dat → Option (List Dat)
  | [.int j] => if -few ≤ j ∧ j ≤ few then some (rngL 0 j.toNat) else none
  | _ => none
def rng2 : List Dat → Option (List Dat)
  | [.int i, .int j] => if (-few ≤ i ∧ i ≤ few) ∧ -few ≤ j ∧ j ≤ few then some (rngL i (j - i).toNat) else none
  | _ => none
def dOpA {α : Type} (o : List Dat → Option α) (f : DA) : DEnv → Gl → Rs α := fun ds g => (f ds g).bind fun l g => Rs.opt (o l) g
theorem rngL_get {lo : Int} {n i : Nat} {d : Dat} (h : (rngL lo n)[i]? = some d) : i < n ∧ d = .int (lo + (i : Int)) := by
  unfold rngL at h
  rw [List.getElem?_map] at h
  by_cases hi : i < n
  · rw [List.getElem?_range hi] at h
    exact ⟨hi, (Option.some.inj h).symm⟩
  · rw [List.getElem?_eq_none (by rw [List.length_range]; omega)] at h
    cases h
theorem rngL_len (lo : Int) (n : Nat) : (rngL lo n).length = n := by unfold rngL; rw [List.length_map, List.length_range]
theorem it_rng {G : Gm} {A1 : List Addr} {M1 : Hp} {lo : Int} {n : Nat} : ItOk G (Itr lo n) A1 M1 (rngL lo n) := fun i A M H g inc wd gl => by
  refine ⟨fun d hd => ?_, fun hl => by rw [rngL_len] at hl; exact hl⟩
  obtain ⟨h1, rfl⟩ := rngL_get hd
  refine ⟨h1, fun x H' hy => ?_⟩
  obtain ⟨rfl, rfl⟩ := hy
  exact ⟨M, wd.refl, gl, .int _⟩
theorem i_rng1 {tg a : Expr} {fa : DA} {p pos : Pos} (hg : L2.Gl X "range") (hm : X.mg "range" = none) (ha : AD X w [a] fa) (hs : starEach [a] X.env = [(false, eval a X.env)]) : ID X w tg (.Call (.Name "range" p) [a] [] pos) (dOpA rng1 fa) :=
  pi_imp (pi_range1 hg hm ha hs) fun σ H R ⟨B, A, M, ds, g, rel, p⟩ => ⟨B, A, M, ds, g, rel, (Rs.post_bind p).imp (fun l g1 p1 vs A1 M1 H1 gr gl r => by
    obtain ⟨z, ez, qz⟩ := post_opt p1
    unfold rng1 at ez
    split at ez
    · rename_i j
      split at ez
      · rename_i hj
        cases ez
        have h1 : -100000 ≤ j := hj.1
        have h2 : j ≤ 100000 := hj.2
        cases r with
        | cons r0 r =>
          cases r
          cases r0
          exact ⟨j, rfl, by omega, by omega, qz _ A1 M1 H1 gr gl it_rng⟩
      · cases ez
    · cases ez) fun _ _ z => z⟩
theorem i_rng2 {tg a b : Expr} {fa : DA} {p pos : Pos} (hg : L2.Gl X "range") (hm : X.mg "range" = none) (ha : AD X w [a, b] fa) (hs : starEach [a, b] X.env = [(false, eval a X.env), (false, eval b X.env)]) (hs2 : starEach [b] X.env = [(false, eval b X.env)]) :
    ID X w tg (.Call (.Name "range" p) [a, b] [] pos) (dOpA rng2 fa) :=
  pi_imp (pi_range2 hg hm ha hs hs2) fun σ H R ⟨B, A, M, ds, g, rel, p⟩ => ⟨B, A, M, ds, g, rel, (Rs.post_bind p).imp (fun l g1 p1 vs A1 M1 H1 gr gl r => by
    obtain ⟨z, ez, qz⟩ := post_opt p1
    unfold rng2 at ez
    split at ez
    · rename_i i j
      split at ez
      · rename_i hj
        cases ez
        have h1 : -100000 ≤ i := hj.1.1
        have h2 : i ≤ 100000 := hj.1.2
        have h3 : -100000 ≤ j := hj.2.1
        have h4 : j ≤ 100000 := hj.2.2
        cases r with
        | cons r0 r =>
          cases r0
          cases r with
          | cons r1 r =>
            cases r
            cases r1
            exact ⟨i, j, rfl, ⟨by omega, by omega, by omega, by omega⟩, qz _ A1 M1 H1 gr gl it_rng⟩
      · cases ez
    · cases ez) fun _ _ z => z⟩

/-! ### targets -/
/-- what a target makes of an item; the slots that it stores -/
def GOk (w : Wc) (t : TG) (f : Dat → DEnv → Option DEnv) (js : List Nat) : Prop := ∀ (B : Bs) (A : List Addr) (M H : Hp) (σ : L2.St) (ds ds' : DEnv) (g : Gl) (x : V) (d : Dat) (Q : L2.St → Hp → Prop), Rel w B A M H σ ds g → Rp w.G A M x d → f d ds = some ds' →
  (∀ σ', Rel w B A M H σ' ds' g → (∀ vs : List Nat, (∀ j ∈ js, j ∈ vs) → wipe σ' vs = wipe σ vs) → Q σ' H) → t x σ H Q
theorem wipe_get (σ : L2.St) : ∀ (vs : List Nat) (i : Nat), (wipe σ vs)[i]? = if i ∈ vs ∧ i < σ.length then some none else σ[i]?
  | [], i => by simp [wipe]
  | v :: vs, i => by
    have ih := wipe_get σ vs i
    have hl : ∀ vs : List Nat, (wipe σ vs).length = σ.length := by
      intro vs
      induction vs with
      | nil => rfl
      | cons v vs ih => show ((wipe σ vs).set v none).length = σ.length; rw [List.length_set, ih]
    show ((wipe σ vs).set v none)[i]? = _
    by_cases hv : v = i
    · subst hv
      by_cases hi : v < σ.length
      · rw [List.getElem?_set_self (by rw [hl]; exact hi), if_pos ⟨List.mem_cons_self, hi⟩]
      · rw [List.set_eq_of_length_le (by rw [hl]; omega), ih, if_neg (fun h => hi h.2), if_neg (fun h => hi h.2)]
    · rw [List.getElem?_set_ne hv, ih]
      by_cases hm : i ∈ vs ∧ i < σ.length
      · rw [if_pos hm, if_pos ⟨List.mem_cons_of_mem _ hm.1, hm.2⟩]
      · rw [if_neg hm, if_neg]
        rintro ⟨h1, h2⟩
        rcases List.mem_cons.mp h1 with e | e
        · exact hv e.symm
        · exact hm ⟨e, h2⟩
theorem wipe_len (σ : L2.St) (vs : List Nat) : (wipe σ vs).length = σ.length := by
  induction vs with
  | nil => rfl
  | cons v vs ih => show ((wipe σ vs).set v none).length = σ.length; rw [List.length_set, ih]
theorem wipe_set {σ : L2.St} {vs : List Nat} {j : Nat} (h : j ∈ vs) (x : Option V) : wipe (σ.set j x) vs = wipe σ vs := by
  refine List.ext_getElem? fun i => ?_
  rw [wipe_get, wipe_get, List.length_set]
  by_cases hm : i ∈ vs ∧ i < σ.length
  · rw [if_pos hm, if_pos hm]
  · rw [if_neg hm, if_neg hm]
    by_cases hj : j = i
    · subst hj
      rw [List.set_eq_of_length_le (Nat.not_lt.mp fun h2 => hm ⟨h, h2⟩)]
    · rw [List.getElem?_set_ne hj]
theorem wipe_wipe (σ : L2.St) (vs : List Nat) : wipe (wipe σ vs) vs = wipe σ vs := by
  refine List.ext_getElem? fun i => ?_
  rw [wipe_get, wipe_len, wipe_get]
  by_cases hm : i ∈ vs ∧ i < σ.length
  · rw [if_pos hm, if_pos hm]
  · rw [if_neg hm]
def gN (i : Nat) : Dat → DEnv → Option DEnv := fun d ds => some (ds.set i (.sh d))
def gT2 (i j : Nat) : Dat → DEnv → Option DEnv := fun d ds => match d with
  | .tup [a, b] => some ((ds.set i (.sh a)).set j (.sh b))
  | _ => none
def gT3 (i j k : Nat) : Dat → DEnv → Option DEnv := fun d ds => match d with
  | .tup [a, b, c] => some (((ds.set i (.sh a)).set j (.sh b)).set k (.sh c))
  | _ => none
theorem g_name {w : Wc} {i : Nat} : GOk w (gName i) (gN i) [i] := fun B A M H σ ds ds' g x d Q rel r e q => by
  cases e
  exact q _ (rel.setSh r) fun vs h => wipe_set (h i (List.mem_singleton.mpr rfl)) _
theorem g_t2 {w : Wc} {i j : Nat} : GOk w (gTup w.G.K 2 (gCons (gName i) (gCons (gName j) gNil))) (gT2 i j) [i, j] := fun B A M H σ ds ds' g x d Q rel r e q => by
  unfold gT2 at e
  split at e
  · rename_i a b
    cases e
    cases r with
    | @tup p xs l h r =>
      have hl := r.length
      cases r with
      | @cons v0 vs0 d0 ds0 r0 r =>
        cases r with
        | @cons v1 vs1 d1 ds1 r1 r =>
          cases r
          refine ⟨p, _, rfl, same_t rel.wd.mh h, rfl, v0, _, rfl, v1, _, rfl, rfl, ?_⟩
          refine q _ ((rel.setSh r0).setSh r1) fun vs hv => ?_
          rw [wipe_set (hv j (by simp)), wipe_set (hv i (by simp))]
  · cases e
theorem g_t3 {w : Wc} {i j k : Nat} : GOk w (gTup w.G.K 3 (gCons (gName i) (gCons (gName j) (gCons (gName k) gNil)))) (gT3 i j k) [i, j, k] := fun B A M H σ ds ds' g x d Q rel r e q => by
  unfold gT3 at e
  split at e
  · rename_i a b c
    cases e
    cases r with
    | @tup p xs l h r =>
      have hl := r.length
      cases r with
      | @cons v0 vs0 d0 ds0 r0 r =>
        cases r with
        | @cons v1 vs1 d1 ds1 r1 r =>
          cases r with
          | @cons v2 vs2 d2 ds2 r2 r =>
            cases r
            refine ⟨p, _, rfl, same_t rel.wd.mh h, rfl, v0, _, rfl, v1, _, rfl, v2, _, rfl, rfl, ?_⟩
            refine q _ (((rel.setSh r0).setSh r1).setSh r2) fun vs hv => ?_
            rw [wipe_set (hv k (by simp)), wipe_set (hv j (by simp)), wipe_set (hv i (by simp))]
  · cases e
/-- target = e -/
def dAsgT (tf : Dat → DEnv → Option DEnv) (f : DE) : DS := fun ds g => (f ds g).bind fun d g => match tf d ds with
  | some ds' => .ok (.nx ds') g
  | none => .no
theorem s_asgT {tg e : Expr} {tgg : TG} {tf : Dat → DEnv → Option DEnv} {js : List Nat} {fe : DE} (he : KD X w e fe) (hg : PG X tg tgg) (ht : GOk w tgg tf js) (hs : swapsWithSole [tg] e pos.line X.env = pure false) (hw : swappedStores [tg] e X.env = pure none) (h1 : List.map (fun x => x.snd) (assignEach [tg] X.env) = [assign tg X.env]) :
    SD X w (.Assign [tg] e pos) (dAsgT tf fe) := ps_imp (ps_asg he hg hs hw h1) fun D σ H ⟨B, A, M, ds, g, rel, p⟩ => ⟨B, A, M, ds, g, rel, (Rs.post_bind p).imp (fun d g1 p1 v A1 M1 H1 gr gl r => by
  cases q : tf d ds with
  | none => rw [q] at p1; exact p1.elim
  | some ds' =>
    rw [q] at p1
    exact ht B A1 M1 H1 σ ds ds' g1 v d _ (rel.grow gr gl) r q fun σ' r' _ => p1 A1 M1 H1 σ' r' gr.inc) fun e g z => rel.es z⟩

/-! ### for -/
def forGo (tf : Dat → DEnv → Option DEnv) (b : DS) : List Dat → DS
  | [] => fun ds g => .ok (.nx ds) g
  | d :: l => fun ds g => match tf d ds with
    | some ds' => (b ds' g).bind (next (forGo tf b l))
    | none => .no
def dFor (f : DA) (tf : Dat → DEnv → Option DEnv) (b : DS) : DS := fun ds g => (f ds g).bind fun l g => forGo tf b l ds g
theorem drop_cons {α : Type} {l : List α} {i : Nat} {d : α} {r : List α} (h : l.drop i = d :: r) : l[i]? = some d ∧ l.drop (i + 1) = r := by
  refine ⟨?_, ?_⟩
  · have := List.getElem?_drop (xs := l) (i := i) (j := 0)
    rw [h] at this
    simpa using this.symm
  · have e : l.drop (i + 1) = (l.drop i).drop 1 := by rw [List.drop_drop]
    rw [e, h]
    rfl
theorem s_for {tg iter : Expr} {fi : DA} {tgg : TG} {tf : Dat → DEnv → Option DEnv} {js : List Nat} (hp : PassesOwn (model X.prog X.w) X.A X.env X.xe) (hcm : X.calm = true) (hi : ID X w tg iter fi) (hg : PG X tg tgg) (ht : GOk w tgg tf js) (hb : SsD X w body fb) (hfs : ∀ x, foldedSetIterable iter X.env x = pure x) :
    SD X w (.For tg iter body [] pos) (dFor fi tf fb) :=
  ps_imp (ps_for hp hcm hi hg hb hfs) fun D σ0 H0 ⟨B, A0, M0, ds0, g0, rel0, p0⟩ => ⟨B, A0, M0, ds0, g0, rel0, (Rs.post_bind p0).imp (fun l g1 p1 J A1 M1 H1 gr gl it => by
    refine ⟨fun i m σ H => ∃ A M ds g, Rel w B A M H σ ds g ∧ (forGo tf fb (l.drop i) ds g).Post (QS w B A0 M0 D) (ES w B) ∧ Inc A1 A M1 M ∧ m = l.length - i,
      ⟨l.length, A1, M1, ds0, g1, rel0.grow gr gl, p1, Inc.refl A1 M1, by omega⟩, fun i m σ H ⟨A, M, ds, g, rel, p, inc, em⟩ => ?_⟩
    obtain ⟨k1, k2⟩ := it i A M H g inc rel.wd rel.gl
    have i0 : Inc A0 A M0 M := gr.inc.trans inc
    cases e : l.drop i with
    | nil =>
      rw [e] at p
      exact .inl ⟨k2 (List.drop_eq_nil_iff.mp e), p A M H σ rel i0⟩
    | cons d r =>
      rw [e] at p
      obtain ⟨e1, e2⟩ := drop_cons e
      obtain ⟨k3, k4⟩ := k1 d e1
      have hlt : i < l.length := (List.getElem?_eq_some_iff.mp e1).1
      refine .inr ⟨k3, fun σ' H' => ∃ A M ds g, Rel w B A M H' σ' ds g ∧ (forGo tf fb (l.drop (i + 1)) ds g).Post (QS w B A0 M0 D) (ES w B) ∧ Inc A1 A M1 M, fun σ' H' ⟨A', M', ds', g', h1, h2, h3⟩ => ⟨l.length - (i + 1), by omega, A', M', ds', g', h1, h2, h3, rfl⟩, fun x H' hy => ?_⟩
      obtain ⟨M', gr', gl', rx⟩ := k4 x H' hy
      have rel' := rel.grow gr' gl'
      unfold forGo at p
      cases et : tf d ds with
      | none => rw [et] at p; exact p.elim
      | some ds' =>
        rw [et] at p
        refine ht B A M' H' σ ds ds' g x d _ rel' rx et fun σ2 rel2 _ => ?_
        refine ⟨B, A, M', ds', g, rel2, (Rs.post_bind p).imp (fun o g2 p2 => ?_) fun _ _ z => z⟩
        refine QS.loop (A0 := A0) (M0 := M0) (k := forGo tf fb (l.drop (i + 1))) (by rw [e2]; exact p2) (i0.trans gr'.inc) fun ds3 A3 M3 H3 σ3 h r j => ⟨A3, M3, ds3, g2, r, h, (inc.trans gr'.inc).trans j⟩) fun e g z => rel0.es z⟩
end
end DL

/-! DL, part 9: list comprehensions. -/
namespace DL
open PySem L2

def Rs.noer {α : Type} (r : Rs α) : Rs α := match r with
  | .er _ _ => .no
  | r => r
def dwipe (ds : DEnv) : List Nat → DEnv
  | [] => ds
  | v :: vs => (dwipe ds vs).set v .unset
def lcGo (tf : Dat → DEnv → Option DEnv) (ft : DT) (fe : DE) (ds0 : DEnv) : List Dat → Gl → Rs (List Dat)
  | [] => fun g => .ok [] g
  | d :: l => fun g => match tf d ds0 with
    | none => .no
    | some ds1 => (ft ds1 g).noer.bind fun b g => if b = true then (fe ds1 g).noer.bind fun y g => (lcGo tf ft fe ds0 l g).bind fun r g => .ok (y :: r) g else lcGo tf ft fe ds0 l g
def dLc (fi : DA) (vs : List Nat) (tf : Dat → DEnv → Option DEnv) (ft : DT) (fe : DE) : DA := fun ds g => (fi ds g).bind fun l g => if l.length ≤ few then lcGo tf ft fe (dwipe ds vs) l g else .no
/-- no exception leaves -/
abbrev Wc.still (w : Wc) : Wc := { w with W := fun _ _ _ _ => False }
section
variable {w : Wc} {B : Bs} {A A0 A1 : List Addr} {M M0 M1 H H0 H1 : Hp} {σ : L2.St} {ds : DEnv} {g g1 : Gl} {D : Addr}
theorem Rel.still (r : Rel w B A M H σ ds g) : Rel w.still B A M H σ ds g := ⟨r.gr, r.gl, r.len, r.sl, r.dj, r.zo⟩
theorem Rel.unset {i : Nat} (r : Rel w B A M H σ ds g) : Rel w B A M H (σ.set i none) (ds.set i .unset) g := by
  have own : ∀ j : Nat, isOwn (ds.set i .unset)[j]? = true → isOwn ds[j]? = true ∧ (σ.set i none)[j]? = σ[j]? := fun j o => by
    by_cases hj : i = j
    · subst hj
      by_cases hi : i < ds.length
      · rw [List.getElem?_set_self hi] at o
        cases o
      · rw [List.set_eq_of_length_le (by omega)] at o
        exact ⟨o, by rw [List.set_eq_of_length_le (by rw [r.len]; omega)]⟩
    · rw [List.getElem?_set_ne hj] at o
      exact ⟨o, List.getElem?_set_ne hj⟩
  refine ⟨r.gr, r.gl, by rw [List.length_set, List.length_set]; exact r.len, fun j s' e => ?_, fun j k p hjk o1 o2 e1 e2 => ?_, r.zo⟩
  · by_cases hj : i = j
    · subst hj
      by_cases hi : i < ds.length
      · rw [List.getElem?_set_self hi] at e
        cases e
        trivial
      · rw [List.set_eq_of_length_le (by omega)] at e
        rw [List.set_eq_of_length_le (by rw [r.len]; omega)]
        exact r.sl i s' e
    · rw [List.getElem?_set_ne hj] at e
      rw [List.getElem?_set_ne hj]
      exact r.sl j s' e
  · obtain ⟨o3, e3⟩ := own j o1
    obtain ⟨o4, e4⟩ := own k o2
    rw [e3] at e1
    rw [e4] at e2
    exact r.dj j k p hjk o3 o4 e1 e2
theorem Rel.wipe (r : Rel w B A M H σ ds g) : ∀ vs : List Nat, Rel w B A M H (L2.wipe σ vs) (dwipe ds vs) g
  | [] => r
  | v :: vs => (r.wipe vs).unset
theorem Grow.updH {Z : List Addr} {o : HO} (r : Grow Z A0 A M0 M H0 H) (h0 : H0 D = none) (mD : M D = none) : Grow Z A0 A M0 M H0 (upd H D o) := by
  refine ⟨fun a u e ha hz => ?_, r.mex, fun a u e => ?_, r.mnew, r.aex, r.mA⟩
  · rw [upd_ne (ne_of_none e h0)]
    exact r.keep a u e ha hz
  · rw [upd_ne (ne_of_none e mD)]
    exact r.mh a u e
theorem Rel.updH {xs : List V} {o : HO} (r : Rel w B A M H σ ds g) (hB : B.H D = none) (mD : M D = none) (nD : D ∉ A) (hD : H D = some (.lst xs)) (ho : ∀ (j : Nat) (p : Addr), isOwn ds[j]? = true → σ[j]? = some (some (.ref p)) → p ≠ D) : Rel w B A M (upd H D o) σ ds g := by
  refine ⟨r.gr.updH hB mD, r.gl.stay (Same.refl M) fun a ha => upd_ne fun e => nD (by rw [← e]; exact ha), r.len, fun i s e => ?_, r.dj, fun a ha => ?_⟩
  · have q := r.sl i s e
    cases s with
    | unset => trivial
    | sh d => exact q
    | own l =>
      obtain ⟨p, ys, e1, e2, e3, e4⟩ := q
      have np := ho i p (by rw [e]; rfl) e1
      exact ⟨p, ys, e1, by rw [upd_ne np]; exact e2, e3, e4⟩
    | ownD ks l =>
      obtain ⟨p, ys, e1, e2, e3, e4⟩ := q
      have np := ho i p (by rw [e]; rfl) e1
      exact ⟨p, ys, e1, by rw [upd_ne np]; exact e2, e3, e4⟩
    | self ks l =>
      obtain ⟨p, dx, ys, e1, e2, e3, e4⟩ := q
      have np := ho i p (by rw [e]; rfl) e1
      exact ⟨p, dx, ys, e1, by rw [upd_ne np]; exact e2, e3, e4⟩
    | exc er =>
      obtain ⟨e1, ⟨e2, e3, e4⟩, e5⟩ := q
      refine ⟨e1, ⟨e2, e3, ?_⟩, e5⟩
      rcases e4 with e4 | ⟨dd, ys, d1, d2, d3⟩
      · exact .inl e4
      · have nd : dd ≠ D := fun z => by
          rw [z, hD] at d2
          cases d2
        exact .inr ⟨dd, ys, d1, by rw [upd_ne nd]; exact d2, d3⟩
  · by_cases e : a = D
    · exact ⟨o, by rw [e, upd_same]⟩
    · rw [upd_ne e]
      exact r.zo a ha
/-- in the midst of a comprehension, its list at D -/
structure LcI (w : Wc) (B : Bs) (A0 : List Addr) (M0 H0 : Hp) (σ : L2.St) (ds : DEnv) (D : Addr) (A : List Addr) (M H : Hp) (g : Gl) (acc : List Dat) : Prop where
  rel : Rel w B A M H σ ds g
  gr : Grow [] A0 A M0 M H0 H
  at_ : ∃ xs, H D = some (.lst xs) ∧ RpA w.G A M xs acc
  mD : M D = none
  nD : D ∉ A
theorem LcI.grow {acc : List Dat} (x : LcI w B A0 M0 H0 σ ds D A M H g acc) (h : Grow [] A A1 M M1 H H1) (gl : GlOk w.G A1 M1 H1 g1) : LcI w B A0 M0 H0 σ ds D A1 M1 H1 g1 acc := by
  obtain ⟨xs, hD, r⟩ := x.at_
  refine ⟨x.rel.grow h gl, x.gr.trans h x.rel.gl (fun _ z => nomatch z), ⟨xs, h.keep D _ hD x.nD (fun z => nomatch z), r.grow h⟩, ?_, h.notA hD x.nD⟩
  cases e : M1 D with
  | none => rfl
  | some u =>
    rcases h.mnew D u e with z | z
    · rw [x.mD] at z
      cases z
    · rw [hD] at z
      cases z
theorem LcI.push {acc : List Dat} {xs : List V} {y : V} {d : Dat} (x : LcI w B A0 M0 H0 σ ds D A M H g acc) (hB : B.H D = none) (h0 : H0 D = none) (ho : ∀ (j : Nat) (p : Addr), isOwn ds[j]? = true → σ[j]? = some (some (.ref p)) → p ≠ D) (hD : H D = some (.lst xs)) (ry : Rp w.G A M y d) :
    LcI w B A0 M0 H0 σ ds D A M (upd H D (.lst (xs ++ [y]))) g (acc ++ [d]) := by
  obtain ⟨xs', hD', r⟩ := x.at_
  rw [hD] at hD'
  cases hD'
  exact ⟨x.rel.updH hB x.mD x.nD hD ho, x.gr.updH h0 x.mD, ⟨xs ++ [y], upd_same, r.append (.cons ry .nil)⟩, x.mD, x.nD⟩
theorem noer_post {α β : Type} {r : Rs α} {k : α → Gl → Rs β} {Q : β → Gl → Prop} {E E' : Er → Gl → Prop} (h : (r.noer.bind k).Post Q E) : r.Post (fun a g => (k a g).Post Q E) E' := by
  cases r with
  | no => exact h
  | ok a g => exact h
  | er e g => exact h.elim
end
section
variable {X : Cx} {w : Wc} {elt tg iter : Expr} {ifs : List Expr} {scope : Scope} {own : List (Str × Nat)} {pos : Pos} {fi : DA} {tgg : TG} {tf : Dat → DEnv → Option DEnv} {js : List Nat} {tt : TT} {ft : DT} {fe : DE}
theorem lc_go {vs : List Nat} {σ : L2.St} {H0 : Hp} {Q : VK} (ht : GOk w.still tgg tf js) (hjs : ∀ j ∈ js, j ∈ vs) (hT : ∀ σ H Q, cD w.still ft σ H Q → tt σ H Q) (h : fD w (dLc fi vs tf ft fe) σ H0 Q) : tLc (iD w fi) tgg tt (tD w.still fe) vs σ H0 Q := by
  obtain ⟨B, A0, M0, ds, g0, rel0, p0⟩ := h
  refine ⟨B, A0, M0, ds, g0, rel0, (Rs.post_bind p0).imp (fun l g1 p1 J A1 M1 H1 gr gl it D hD => ?_) fun _ _ z => z⟩
  by_cases hl : l.length ≤ few
  · rw [if_pos hl] at p1
    have rel1 := rel0.grow gr gl
    have h0D : H0 D = none := gr.back (fun a ha => gl.there a (by obtain ⟨C, ea, _⟩ := id gr.aex; rw [ea]; exact List.mem_append_left _ ha)) (fun _ z => nomatch z) hD
    have hB : B.H D = none := rel0.gr.back (fun a ha => rel0.gl.there a (by obtain ⟨C, ea, _⟩ := id rel0.gr.aex; rw [ea]; exact List.mem_append_left _ ha)) rel0.zo h0D
    have ho : ∀ (j : Nat) (p : Addr), isOwn ds[j]? = true → σ[j]? = some (some (.ref p)) → p ≠ D := fun j p o e => by
      obtain ⟨q, u, e1, e2, _⟩ := own_ref rel1 o
      rw [e] at e1
      cases e1
      exact ne_of_none e2 hD
    have m1 : M1 D = none := new_notM gr.wd hD
    have n1 : D ∉ A1 := new_notA gl hD
    have start : LcI w B A0 M0 H0 σ ds D A1 M1 (upd H1 D (.lst [])) g1 [] := by
      have gn := Grow.newH (o := .lst []) gr.wd hD
      exact ⟨rel1.grow gn (gl.newH hD), gr.trans gn gl (fun _ z => nomatch z), ⟨[], upd_same, .nil⟩, m1, n1⟩
    refine ⟨fun i m H => ∃ A M g acc, LcI w B A0 M0 H0 σ ds D A M H g acc ∧ Inc A1 A M1 M ∧ acc.length ≤ i ∧ m = l.length - i ∧ (lcGo tf ft fe (dwipe ds vs) (l.drop i) g).Post (fun r g' => QF w.G A0 M0 H0 Q (acc ++ r) g') (EE w A0 M0 H0 σ),
      ⟨l.length, A1, M1, g1, [], start, Inc.refl A1 M1, Nat.le_refl 0, by omega, p1⟩, fun i m H ⟨A, M, g, acc, x, inc, ha, em, p⟩ => ?_⟩
    obtain ⟨k1, k2⟩ := it i A M H g inc x.rel.wd x.rel.gl
    cases e : l.drop i with
    | nil =>
      rw [e] at p
      have p' : QF w.G A0 M0 H0 Q (acc ++ []) g := p
      rw [List.append_nil] at p'
      obtain ⟨xs, hx, r⟩ := x.at_
      exact .inl ⟨k2 (List.drop_eq_nil_iff.mp e), p' D xs A M H x.gr x.rel.gl h0D hx x.mD x.nD r⟩
    | cons d r =>
      rw [e] at p
      obtain ⟨e1, e2⟩ := drop_cons e
      obtain ⟨k3, k4⟩ := k1 d e1
      have hlt : i < l.length := (List.getElem?_eq_some_iff.mp e1).1
      refine .inr ⟨k3, fun H' => ∃ A M g acc, LcI w B A0 M0 H0 σ ds D A M H' g acc ∧ Inc A1 A M1 M ∧ acc.length ≤ i + 1 ∧ (lcGo tf ft fe (dwipe ds vs) (l.drop (i + 1)) g).Post (fun r g' => QF w.G A0 M0 H0 Q (acc ++ r) g') (EE w A0 M0 H0 σ),
        fun H' ⟨A', M', g', acc', h1, h2, h3, h4⟩ => ⟨l.length - (i + 1), by omega, A', M', g', acc', h1, h2, h3, rfl, h4⟩, fun u H' hy => ?_⟩
      obtain ⟨M', gr', gl', rx⟩ := k4 u H' hy
      have x' := x.grow gr' gl'
      have inc' := inc.trans gr'.inc
      unfold lcGo at p
      cases et : tf d (dwipe ds vs) with
      | none => rw [et] at p; exact p.elim
      | some ds' =>
        rw [et] at p
        refine ht B A M' H' (L2.wipe σ vs) (dwipe ds vs) ds' g u d _ (x'.rel.wipe vs).still rx et fun σ2 rel2 hw => ⟨(hw vs hjs).trans (wipe_wipe σ vs), ?_⟩
        refine hT σ2 H' _ ⟨B, A, M', ds', g, rel2, (noer_post p).imp (fun b g2 p2 A3 M3 H3 gr3 gl3 => ?_) fun _ _ z => z⟩
        have x3 := x'.grow gr3 gl3
        have inc3 := inc'.trans gr3.inc
        cases b with
        | false =>
          refine ⟨A3, M3, g2, acc, x3, inc3, by omega, ?_⟩
          rw [e2]
          exact p2
        | true =>
          refine ⟨B, A3, M3, ds', g2, rel2.grow gr3 gl3, (noer_post p2).imp (fun y g3 p3 v A4 M4 H4 gr4 gl4 ry => ?_) fun _ _ z => z⟩
          have x4 := x3.grow gr4 gl4
          obtain ⟨xs, hx, rxs⟩ := x4.at_
          refine ⟨xs, hx, ?_, A4, M4, g3, acc ++ [y], x4.push hB h0D ho hx ry, inc3.trans gr4.inc, by rw [List.length_append]; simp; omega, ?_⟩
          · have e5 := rxs.length
            have hs : few ≤ sizeLine := few_line (Nat.le_refl _)
            omega
          · rw [e2]
            exact (Rs.post_bind p3).imp (fun r g4 p4 => by rw [List.append_assoc]; exact p4) fun _ _ z => z
  · rw [if_neg hl] at p1
    exact p1.elim
theorem f_lc (hc : X.calm = true) (hN : X.N.Nodup) (hi : ID X w tg iter fi) (ok : BlkOk X.N X.env.scope scope own)
    (hg : ∀ (s : Shared) (H : Hp) (C : Addr) (cl : List (Str × Addr)) (fp : List Addr), PG (X.blk s H scope (compEnvC scope cl C X.env) fp) tg tgg) (ht : ∀ (s : Shared) (H : Hp) (C : Addr) (cl : List (Str × Addr)) (fp : List Addr), PTs (X.blk s H scope (compEnvC scope cl C X.env) fp) ifs tt)
    (he : ∀ (s : Shared) (H : Hp) (C : Addr) (cl : List (Str × Addr)) (fp : List Addr), KD (X.blk s H scope (compEnvC scope cl C X.env) fp) w.still elt fe) (hgo : GOk w.still tgg tf js) (hjs : ∀ j ∈ js, j ∈ own.map (·.2)) (hT : ∀ σ H Q, cD w.still ft σ H Q → tt σ H Q) (hs : ∀ x, foldedSetIterable iter X.env x = pure x) :
    FD X w (.ListComp elt [⟨tg, iter, ifs, 0⟩] scope pos) (dLc fi (own.map (·.2)) tf ft fe) := pe_imp (pe_lc hc hN hi ok hg ht he hs) fun σ H Q h => lc_go hgo hjs hT h
/-- y = [..] -/
theorem setLc_go {i : Nat} {vs : List Nat} {D : Ends} {σ : L2.St} {H : Hp} (ht : GOk w.still tgg tf js) (hjs : ∀ j ∈ js, j ∈ vs) (hT : ∀ σ H Q, cD w.still ft σ H Q → tt σ H Q) (h : sD w (dOwn i (dLc fi vs tf ft fe)) D σ H) : tAsg (tLc (iD w fi) tgg tt (tD w.still fe) vs) (gName i) D σ H := by
  have q := own_go h
  exact lc_go ht hjs hT q
theorem setLcK_go {i : Nat} {vs : List Nat} {D : Ends} {σ : L2.St} {H : Hp} (ht : GOk w.still tgg tf js) (hjs : ∀ j ∈ js, j ∈ vs) (hT : ∀ σ H Q, cD w.still ft σ H Q → tt σ H Q) (h : sD w (dAsg i (dFz (dLc fi vs tf ft fe))) D σ H) : tAsg (tLc (iD w fi) tgg tt (tD w.still fe) vs) (gName i) D σ H := by
  have q := asg_go h
  exact lc_go ht hjs hT (fz_go q)
def tfT : DT := fun _ g => .ok true g
theorem t_yes {w : Wc} : ∀ σ H Q, cD w tfT σ H Q → tYes σ H Q := fun σ H Q ⟨B, A, M, ds, g, rel, p⟩ => p A M H rel.wd.refl rel.gl
end
end DL

/-! DL, part 10: built-in functions and types that are called. -/
namespace DL
open PySem L2

def R1ok (G : Gm) (r : List V → Hp → VK → Prop) (o : Gl → List Dat → Option Dat) : Prop := ∀ (A : List Addr) (M H : Hp) (g : Gl) (vs : List V) (l : List Dat) (z : Dat) (Q : VK), Wd A M H → GlOk G A M H g → RbA G A M H vs l → o g l = some z → QE G A M H Q z g → r vs H Q
def R1F (G : Gm) (r : List V → Hp → VK → Prop) (o : Gl → List Dat → Option (List Dat)) : Prop := ∀ (A : List Addr) (M H : Hp) (g : Gl) (vs : List V) (l : List Dat) (z : List Dat) (Q : VK), Wd A M H → GlOk G A M H g → RbA G A M H vs l → o g l = some z → QF G A M H Q z g → r vs H Q
def dCB {α : Type} (o : Gl → List Dat → Option α) (fa : DA) : DEnv → Gl → Rs α := fun ds g => (fa ds g).bind fun l g => Rs.opt (o g l) g
def cor (r r' : List V → Hp → VK → Prop) : List V → Hp → VK → Prop := fun xs H Q => r xs H Q ∨ r' xs H Q
theorem CallR.or {X : Cx} {f : Value} {r r' : List V → Hp → VK → Prop} (h : CallR X f r) (h' : CallR X f r') : CallR X f (cor r r') := fun pins s σ H xs us Q I rv q => q.elim (h pins s σ H xs us Q I rv) (h' pins s σ H xs us Q I rv)
section
variable {X : Cx} {w : Wc} {e : Expr} {es : List Expr} {fa : DA} {p pos : Pos} {x : Str} {r : List V → Hp → VK → Prop}
theorem cb_go {o : Gl → List Dat → Option Dat} {σ : L2.St} {H : Hp} {Q : VK} (hr : R1ok w.G r o) (h : tD w (dCB o fa) σ H Q) : tCB r (abD w fa) σ H Q := by
  obtain ⟨B, A, M, ds, g, rel, p⟩ := h
  refine ⟨B, A, M, ds, g, rel, (Rs.post_bind p).imp (fun l g1 p1 vs A1 M1 H1 gr gl rv => ?_) fun _ _ z => z⟩
  obtain ⟨z, ez, qz⟩ := post_opt p1
  exact hr A1 M1 H1 g1 vs l z Q gr.wd gl rv ez (QE.on qz gr gl)
theorem cbF_go {o : Gl → List Dat → Option (List Dat)} {σ : L2.St} {H : Hp} {Q : VK} (hr : R1F w.G r o) (h : fD w (dCB o fa) σ H Q) : tCB r (abD w fa) σ H Q := by
  obtain ⟨B, A, M, ds, g, rel, p⟩ := h
  refine ⟨B, A, M, ds, g, rel, (Rs.post_bind p).imp (fun l g1 p1 vs A1 M1 H1 gr gl rv => ?_) fun _ _ z => z⟩
  obtain ⟨z, ez, qz⟩ := post_opt p1
  exact hr A1 M1 H1 g1 vs l z Q gr.wd gl rv ez (QF.on qz gr gl)
theorem k_callB {o : Gl → List Dat → Option Dat} {id : String} (hc : CallR X (.builtin id) r) (hr : R1ok w.G r o) (hg : L2.Gl X x) (hm : X.mg x = none) (hv : bootBuiltins x = some (.builtin id)) (ha : ABD X w (e :: es) fa) (hn : x ≠ "__name__") (hdb : (x == ("__debug__" : Str)) = false)
    (he : starEach (e :: es) X.env = (false, eval e X.env) :: starEach es X.env) (hpl : (backTo pos (starEach es X.env)).any (·.1) = false) : KD X w (.Call (.Name x p) (e :: es) [] pos) (dCB o fa) :=
  pe_imp (pe_callB hc hg hm hv ha hn hdb he hpl) fun σ H Q h => cb_go hr h
theorem k_callT {o : Gl → List Dat → Option Dat} {T : String} (hc : CallR X (.type T) r) (hr : R1ok w.G r o) (hg : L2.Gl X x) (hm : X.mg x = none) (hv : bootBuiltins x = some (.type T)) (ha : ABD X w (e :: es) fa) (hn : x ≠ "__name__") (hdb : (x == ("__debug__" : Str)) = false)
    (he : starEach (e :: es) X.env = (false, eval e X.env) :: starEach es X.env) (hpl : (backTo pos (starEach es X.env)).any (·.1) = false) : KD X w (.Call (.Name x p) (e :: es) [] pos) (dCB o fa) :=
  pe_imp (pe_callTy hc hg hm hv ha hn hdb he hpl) fun σ H Q h => cb_go hr h
theorem f_callT {o : Gl → List Dat → Option (List Dat)} {T : String} (hc : CallR X (.type T) r) (hr : R1F w.G r o) (hg : L2.Gl X x) (hm : X.mg x = none) (hv : bootBuiltins x = some (.type T)) (ha : ABD X w (e :: es) fa) (hn : x ≠ "__name__") (hdb : (x == ("__debug__" : Str)) = false)
    (he : starEach (e :: es) X.env = (false, eval e X.env) :: starEach es X.env) (hpl : (backTo pos (starEach es X.env)).any (·.1) = false) : FD X w (.Call (.Name x p) (e :: es) [] pos) (dCB o fa) :=
  pe_imp (pe_callTy hc hg hm hv ha hn hdb he hpl) fun σ H Q h => cbF_go hr h
/-! ### len -/
def oLen (g : Gl) : List Dat → Option Dat
  | [.tup l] => some (.int l.length)
  | [.scr l] => some (.int l.length)
  | [.str z] => if z.length ≤ few then some (.int z.length) else none
  | [d] => match lview g d with
    | some l => some (.int l.length)
    | none => none
  | _ => none
abbrev rLen' (K : PySem.W.Frag) : List V → Hp → VK → Prop := fun xs H Q => ∃ x n, xs = [x] ∧ LenV K x H n ∧ Q (.int n) H
theorem r_len {G : Gm} : R1ok G (rLen' G.K) oLen := fun A M H g vs l z Q wd gl rv eo q => by
  unfold oLen at eo
  split at eo
  · rename_i l
    cases eo
    cases rv with
    | cons r0 r =>
      cases r
      obtain ⟨a, xs, rfl, hx, r⟩ := Rb.tup r0 wd
      exact ⟨_, xs.length, rfl, .inr ⟨xs, hx, rfl⟩, by rw [r.length]; exact q _ A M H wd.refl gl (.int _)⟩
  · rename_i l
    cases eo
    cases rv with
    | cons r0 r =>
      cases r
      obtain ⟨a, rfl, hx⟩ := Rb.scr r0 wd
      exact ⟨_, l.length, rfl, .inl ⟨_, hx, by rw [List.length_map]⟩, q _ A M H wd.refl gl (.int _)⟩
  · rename_i z
    split at eo
    · rename_i hz
      cases eo
      cases rv with
      | cons r0 r =>
        cases r
        have e := Rb.str r0
        subst e
        exact ⟨_, z.length, rfl, ⟨few_line hz, rfl⟩, q _ A M H wd.refl gl (.int _)⟩
    · cases eo
  · rename_i d _ _ _
    split at eo
    · rename_i l hl
      cases eo
      cases rv with
      | cons r0 r =>
        cases r
        obtain ⟨a, xs, rfl, hx, r⟩ := Rb.lview r0 wd gl hl
        exact ⟨_, xs.length, rfl, .inl ⟨xs, SqL.of hx, rfl⟩, by rw [r.length]; exact q _ A M H wd.refl gl (.int _)⟩
    · cases eo
  · cases eo
/-! ### numbers -/
def oAbs (_ : Gl) : List Dat → Option Dat
  | [.int i] => some (.int (if i < 0 then -i else i))
  | _ => none
theorem r_abs {G : Gm} : R1ok G (fun xs H Q => ∃ i, xs = [.int i] ∧ Q (.int (if i < 0 then -i else i)) H) oAbs := fun A M H g vs l z Q wd gl rv eo q => by
  unfold oAbs at eo
  split at eo
  · rename_i i
    cases eo
    cases rv with
    | cons r0 r =>
      cases r
      have e := Rb.int r0
      subst e
      exact ⟨i, rfl, q _ A M H wd.refl gl (.int _)⟩
  · cases eo
def oInt (_ : Gl) : List Dat → Option Dat
  | [.int i] => some (.int i)
  | [.bl b] => some (.int (if b then 1 else 0))
  | _ => none
theorem r_intc {G : Gm} : R1ok G (fun xs H Q => (∃ i, xs = [.int i] ∧ Q (.int i) H) ∨ ∃ k, xs = [.bl k] ∧ Q (.int (if k then 1 else 0)) H) oInt := fun A M H g vs l z Q wd gl rv eo q => by
  unfold oInt at eo
  split at eo
  · rename_i i
    cases eo
    cases rv with
    | cons r0 r =>
      cases r
      have e := Rb.int r0
      subst e
      exact .inl ⟨i, rfl, q _ A M H wd.refl gl (.int _)⟩
  · rename_i i
    cases eo
    cases rv with
    | cons r0 r =>
      cases r
      have e := Rb.bl r0
      subst e
      exact .inr ⟨i, rfl, q _ A M H wd.refl gl (.int _)⟩
  · cases eo
/-- the ints of a list -/
def intsD : List Dat → Option (List Int)
  | [] => some []
  | .int i :: l => match intsD l with
    | some r => some (i :: r)
    | none => none
  | _ :: _ => none
theorem RpA.intsD {G : Gm} {A : List Addr} {M : Hp} : ∀ {vs : List V} {l : List Dat} {ns : List Int}, RpA G A M vs l → DL.intsD l = some ns → vs = ns.map V.int
  | _, _, _, .nil, e => by cases e; rfl
  | _, .int i :: l, ns, .cons r0 r, e => by
    unfold DL.intsD at e
    cases el : DL.intsD l with
    | none => rw [el] at e; cases e
    | some ms =>
      rw [el] at e
      cases e
      cases r0
      rw [RpA.intsD r el]
      rfl
  | _, .non :: _, _, .cons _ _, e => by cases e
  | _, .bl _ :: _, _, .cons _ _, e => by cases e
  | _, .str _ :: _, _, .cons _ _, e => by cases e
  | _, .tup _ :: _, _, .cons _ _, e => by cases e
  | _, .lst _ :: _, _, .cons _ _, e => by cases e
  | _, .dct _ _ :: _, _, .cons _ _, e => by cases e
  | _, .rul _ _ _ :: _, _, .cons _ _, e => by cases e
  | _, .scr _ :: _, _, .cons _ _, e => by cases e
  | _, .mref _ :: _, _, .cons _ _, e => by cases e
def oSum (_ : Gl) : List Dat → Option Dat
  | [.lst l] => match intsD l with
    | some ns => some (.int ns.sum)
    | none => none
  | _ => none
theorem r_sum {G : Gm} : R1ok G (rSum G.K) oSum := fun A M H g vs l z Q wd gl rv eo q => by
  unfold oSum at eo
  split at eo
  · rename_i l
    split at eo
    · rename_i ns hn
      cases eo
      cases rv with
      | cons r0 r =>
        cases r
        obtain ⟨a, xs, rfl, hx, _, r⟩ := Rb.lst r0 wd
        have e := r.intsD hn
        subst e
        exact ⟨a, ns, rfl, SqL.of hx, q _ A M H wd.refl gl (.int _)⟩
    · cases eo
  · cases eo
def maxL : Int → List Int → Int
  | m, [] => m
  | m, i :: l => maxL (if i > m then i else m) l
def minL : Int → List Int → Int
  | m, [] => m
  | m, i :: l => minL (if i < m then i else m) l
theorem maxL_le : ∀ (l : List Int) (m k : Int), m ≤ k → (∀ y ∈ l, y ≤ k) → maxL m l ≤ k
  | [], m, k, h, _ => h
  | i :: l, m, k, h, hl => by
    unfold maxL
    refine maxL_le l _ k ?_ fun y hy => hl y (List.mem_cons_of_mem _ hy)
    have := hl i List.mem_cons_self
    split <;> omega
theorem maxL_ge : ∀ (l : List Int) (m : Int), m ≤ maxL m l ∧ ∀ y ∈ l, y ≤ maxL m l
  | [], m => ⟨Int.le_refl m, fun _ h => nomatch h⟩
  | i :: l, m => by
    unfold maxL
    obtain ⟨h1, h2⟩ := maxL_ge l (if i > m then i else m)
    refine ⟨?_, fun y hy => ?_⟩
    · exact Int.le_trans (by split <;> omega) h1
    · rcases List.mem_cons.mp hy with e | e
      · subst e
        exact Int.le_trans (by split <;> omega) h1
      · exact h2 y e
theorem minL_ge : ∀ (l : List Int) (m k : Int), k ≤ m → (∀ y ∈ l, k ≤ y) → k ≤ minL m l
  | [], m, k, h, _ => h
  | i :: l, m, k, h, hl => by
    unfold minL
    refine minL_ge l _ k ?_ fun y hy => hl y (List.mem_cons_of_mem _ hy)
    have := hl i List.mem_cons_self
    split <;> omega
theorem minL_le : ∀ (l : List Int) (m : Int), minL m l ≤ m ∧ ∀ y ∈ l, minL m l ≤ y
  | [], m => ⟨Int.le_refl m, fun _ h => nomatch h⟩
  | i :: l, m => by
    unfold minL
    obtain ⟨h1, h2⟩ := minL_le l (if i < m then i else m)
    refine ⟨?_, fun y hy => ?_⟩
    · exact Int.le_trans h1 (by split <;> omega)
    · rcases List.mem_cons.mp hy with e | e
      · subst e
        exact Int.le_trans h1 (by split <;> omega)
      · exact h2 y e
def oMax (_ : Gl) : List Dat → Option Dat
  | [.lst l] => match intsD l with
    | some (i :: ns) => some (.int (maxL i ns))
    | _ => none
  | [.int i, .int j] => some (.int (if j > i then j else i))
  | _ => none
def oMin (_ : Gl) : List Dat → Option Dat
  | [.lst l] => match intsD l with
    | some (i :: ns) => some (.int (minL i ns))
    | _ => none
  | [.int i, .int j] => some (.int (if j < i then j else i))
  | _ => none
theorem r_max {G : Gm} : R1ok G (cor (rMax G.K) (fun xs H Q => ∃ i j, xs = [.int i, .int j] ∧ Q (.int (if j > i then j else i)) H)) oMax := fun A M H g vs l z Q wd gl rv eo q => by
  unfold oMax at eo
  split at eo
  · rename_i l
    split at eo
    · rename_i i ns hn
      cases eo
      cases rv with
      | cons r0 r =>
        cases r
        obtain ⟨a, xs, rfl, hx, _, r⟩ := Rb.lst r0 wd
        have e := r.intsD hn
        subst e
        refine .inl ⟨a, i :: ns, rfl, SqL.of hx, Nat.succ_pos _, fun m hm hle => ?_⟩
        have e : m = maxL i ns := by
          obtain ⟨h1, h2⟩ := maxL_ge ns i
          have h3 := maxL_le ns i m (hle i List.mem_cons_self) fun y hy => hle y (List.mem_cons_of_mem _ hy)
          rcases List.mem_cons.mp hm with e | e
          · subst e; omega
          · have := h2 m e; omega
        rw [e]
        exact q _ A M H wd.refl gl (.int _)
    · cases eo
  · rename_i i j
    cases eo
    cases rv with
    | cons r0 r =>
      cases r with
      | cons r1 r =>
        cases r
        have e := Rb.int r0
        subst e
        have e := Rb.int r1
        subst e
        exact .inr ⟨i, j, rfl, q _ A M H wd.refl gl (.int _)⟩
  · cases eo
theorem r_min {G : Gm} : R1ok G (cor (rMin G.K) (fun xs H Q => ∃ i j, xs = [.int i, .int j] ∧ Q (.int (if j < i then j else i)) H)) oMin := fun A M H g vs l z Q wd gl rv eo q => by
  unfold oMin at eo
  split at eo
  · rename_i l
    split at eo
    · rename_i i ns hn
      cases eo
      cases rv with
      | cons r0 r =>
        cases r
        obtain ⟨a, xs, rfl, hx, _, r⟩ := Rb.lst r0 wd
        have e := r.intsD hn
        subst e
        refine .inl ⟨a, i :: ns, rfl, SqL.of hx, Nat.succ_pos _, fun m hm hle => ?_⟩
        have e : m = minL i ns := by
          obtain ⟨h1, h2⟩ := minL_le ns i
          have h3 := minL_ge ns i m (hle i List.mem_cons_self) fun y hy => hle y (List.mem_cons_of_mem _ hy)
          rcases List.mem_cons.mp hm with e | e
          · subst e; omega
          · have := h2 m e; omega
        rw [e]
        exact q _ A M H wd.refl gl (.int _)
    · cases eo
  · rename_i i j
    cases eo
    cases rv with
    | cons r0 r =>
      cases r with
      | cons r1 r =>
        cases r
        have e := Rb.int r0
        subst e
        have e := Rb.int r1
        subst e
        exact .inr ⟨i, j, rfl, q _ A M H wd.refl gl (.int _)⟩
  · cases eo
theorem call_maxA (hc : X.calm = true) : CallR X (.builtin "max") (cor (rMax X.K) (fun xs H Q => ∃ i j, xs = [.int i, .int j] ∧ Q (.int (if j > i then j else i)) H)) := CallR.or (cr_max hc) (call_max2 hc)
theorem call_minA (hc : X.calm = true) : CallR X (.builtin "min") (cor (rMin X.K) (fun xs H Q => ∃ i j, xs = [.int i, .int j] ∧ Q (.int (if j < i then j else i)) H)) := CallR.or (cr_min hc) (call_min2 hc)
/-! ### list(..), tuple(..) -/
def oList (g : Gl) : List Dat → Option (List Dat)
  | [.tup l] => some l
  | [d] => lview g d
  | _ => none
theorem r_list {G : Gm} : R1F G (fun xs H Q => ∃ p ys, xs = [.ref p] ∧ (SqL G.K H p ys ∨ SqT G.K H p ys) ∧ ∀ l, H l = none → Q (.ref l) (upd H l (.lst ys))) oList := fun A M H g vs l z Q wd gl rv eo q => by
  unfold oList at eo
  split at eo
  · rename_i l
    cases eo
    cases rv with
    | cons r0 r =>
      cases r
      obtain ⟨a, xs, rfl, hx, r⟩ := Rb.tup r0 wd
      exact ⟨a, xs, rfl, .inr hx, fun p hp => q.at wd gl hp r⟩
  · rename_i d _
    cases rv with
    | cons r0 r =>
      cases r
      obtain ⟨a, xs, rfl, hx, r⟩ := Rb.lview r0 wd gl eo
      exact ⟨a, xs, rfl, .inl (SqL.of hx), fun p hp => q.at wd gl hp r⟩
  · cases eo
def oTuple (g : Gl) : List Dat → Option Dat
  | [.tup l] => some (.tup l)
  | [d] => match lview g d with
    | some l => some (.tup l)
    | none => none
  | _ => none
theorem r_tuple {G : Gm} : R1ok G (fun xs H Q => ∃ p ys, xs = [.ref p] ∧ ((SqL G.K H p ys ∧ ∀ l, H l = none → Q (.ref l) (upd H l (.tup ys))) ∨ (SqT G.K H p ys ∧ Q (.ref p) H))) oTuple := fun A M H g vs l z Q wd gl rv eo q => by
  unfold oTuple at eo
  split at eo
  · rename_i l
    cases eo
    cases rv with
    | cons r0 r =>
      cases r
      cases r0 with
      | fz r0 =>
        obtain ⟨a, xs, rfl, hx, r⟩ := Rb.tup (.fz r0) wd
        exact ⟨a, xs, rfl, .inr ⟨hx, q _ A M H wd.refl gl r0⟩⟩
  · rename_i d _
    split at eo
    · rename_i l hl
      cases eo
      cases rv with
      | cons r0 r =>
        cases r
        obtain ⟨a, xs, rfl, hx, r⟩ := Rb.lview r0 wd gl hl
        exact ⟨a, xs, rfl, .inl ⟨SqL.of hx, fun p hp => QE.atT q wd gl hp r⟩⟩
    · cases eo
  · cases eo
/-! ### isinstance(x, T), T a built-in type -/
def tyN : Dat → Option String
  | .non => some "NoneType"
  | .bl _ => some "bool"
  | .int _ => some "int"
  | .str _ => some "str"
  | .tup _ => some "tuple"
  | .lst _ => some "list"
  | .dct _ _ => some "dict"
  | _ => none
theorem Rb.ty {G : Gm} {A : List Addr} {M H : Hp} {v : V} {d : Dat} {t : String} (wd : Wd A M H) (r : Rb G A M H v d) (h : tyN d = some t) : TyX G.K H v (.type t) := by
  cases r with
  | own e _ _ => cases h; exact .base (.lst e)
  | ownD e _ _ _ => cases h; exact .base (.dK e)
  | fz r =>
    cases r with
    | non => cases h; exact .base .non
    | bl b => cases h; exact .base (.bl b)
    | int b => cases h; exact .base (.int b)
    | str b => cases h; exact .base (.str b)
    | tup e _ =>
      cases h
      rcases same_t wd.mh e with (e | ⟨o, e⟩) | ⟨o, its, n, e, c, _⟩
      · exact .base (.tup e)
      · exact .fTuple e
      · exact .kTuple e c
    | lst e _ => cases h; exact .base (.lst (wd.mh _ _ e))
    | dct e _ _ => cases h; exact .base (.dK (wd.mh _ _ e))
    | _ => cases h
def oIsi (T : String) (d : Dat) : Option Dat := match tyN d with
  | some t => match kitB t T with
    | some b => some (.bl b)
    | none => none
  | none => none
theorem k_isi {a : Expr} {fe : DE} {T : String} {pT : Pos} {y : Str} (hK : X.K = w.G.K) (hg : L2.Gl X "isinstance") (hm : X.mg "isinstance" = none) (ha : BD X w a fe) (hT : PE X (.Name y pT) (tC (.ty T))) (hv : bootBuiltins "isinstance" = some (.builtin "isinstance"))
    (h1 : starEach [a, .Name y pT] X.env = (false, eval a X.env) :: starEach [.Name y pT] X.env) (h2 : starEach [.Name y pT] X.env = (false, eval (.Name y pT) X.env) :: starEach [] X.env) (h3 : (backTo pos (starEach [.Name y pT] X.env)).any (·.1) = false) :
    KD X w (.Call (.Name "isinstance" p) [a, .Name y pT] [] pos) (d1 (oIsi T) fe) :=
  pe_imp (pe_callB call_isi hg hm hv (pa_cons ha (pa_cons hT pa_nil h2) h1) (by decide) (by decide) h1 h3) fun σ H Q ⟨B, A, M, ds, g, rel, p⟩ => ⟨B, A, M, ds, g, rel, (Rs.post_bind p).imp (fun d g1 p1 v A1 M1 H1 gr gl r => by
    obtain ⟨z, ez, qz⟩ := post_opt p1
    unfold oIsi at ez
    split at ez
    · rename_i t ht
      split at ez
      · rename_i b hb
        cases ez
        refine ⟨v, .ty T, .type t, .type T, b, rfl, .ty T, ?_, kit_ty hb, qz (.bl b) A1 M1 H1 gr gl (.bl b)⟩
        rw [hK]
        exact r.ty gr.wd ht
      · cases ez
    · cases ez) fun _ _ z => z⟩
end
end DL

/-! DL, part 11: the program's errors: a base class over ValueError, classes under it whose __init__ calls the base's and stores its arguments. -/
namespace DL
open PySem L2

/-- the base class, as its __init__ is called through it -/
structure BaseX (K : PySem.W.Frag) (mg : Str → Option Value) (y : Str) (S : Addr) : Prop where
  g : mg y = some (.ref S)
  ga : PySem.W.specialIn K (.ref S) "__getattribute__" = some (some (.builtin "type.__getattribute__"))
  rd : PySem.W.readsIn K S (.type "type") = true
  at_ : PySem.W.findCls K (.ref S) (.type "type") "__init__" = some (.val (.builtin "ValueError.__init__"))
section
variable {X : Cx} {e : Expr} {es : List Expr} {ta : TA} {p1 p2 pos : Pos} {y : Str} {S : Addr}
theorem pe_seinit {pl : Sem Bool} (T : BaseX X.K X.mg y S) (hg : L2.Gl X y) (ha : PA X (e :: es) ta) (hdb : (y == ("__debug__" : Str)) = false)
    (hc : eval (.Call (.Attribute (.Name y p1) "__init__" p2) (e :: es) [] pos) X.env = (do
      let recv ← eval (.Name y p1) X.env
      standAt p2.atName
      let (f, first) ← holding [recv] (getMethod recv "__init__" pl)
      callWith pos f first (backTo pos (starEach (e :: es) X.env)) (backToKw pos (keywordEach [] X.env))))
    (he : starEach (e :: es) X.env = (false, eval e X.env) :: starEach es X.env) (hpl : (backTo pos (starEach es X.env)).any (·.1) = false) :
    PE X (.Call (.Attribute (.Name y p1) "__init__" p2) (e :: es) [] pos) (tVeI X.K ta) := by
  constructor
  intro pins s σ H Q I h
  apply PySem.W.methodCall_KW (ld_glob I hg T.g ?_ hdb) hc
  apply PySem.W.method_cls I.kIn T.ga
  apply PySem.W.cls_value I.kIn T.rd T.at_ (by decide +kernel)
  change wpAny _ _ (callWith pos (Value.builtin "ValueError.__init__") [] (backTo pos (starEach (e :: es) X.env)) []) _ _ _
  apply PyProof.Rows.callWith_method1 ?_ he hpl
  apply thn (ha.run pos pins _ σ H _ (I.tok _) h)
  rintro us s1 ⟨vs, H1, I1, r1, a, C, ws, rfl, hl, O, ea, q⟩
  cases r1 with
  | @cons _ u0 _ ur ra rw' =>
    obtain rfl : u0 = Value.ref a := ra
    apply oinit_ok O I1 ea (by rw [← Paired.length rw', sizeLine_eq]; omega)
    intro s' J
    exact ⟨.non, H1, J, rfl, q⟩
end
/-- what the top has written of an error's class -/
structure ErrC (K : PySem.W.Frag) (mg : Str → Option Value) (x : Str) (C fI : Addr) : Prop where
  g : mg x = some (.ref C)
  ox : OexC K C
  iC : PySem.W.findIn K (.ref C) "__init__" = some (some (.ref fI))
  tI : PySem.W.typeIn K (.ref fI) = some (.type "function")

/-- the promises of __init__ with no field, one, two -/
def spI0 (K : PySem.W.Frag) (C : Addr) : Sp := fun vs H Q _ => ∃ a, vs = [.ref a] ∧ OexC K C ∧ H a = some (exo a C none) ∧ Q .non H
def spI1 (K : PySem.W.Frag) (C : Addr) (f : Str) : Sp := fun vs H Q _ => ∃ a v, vs = [.ref a, v] ∧ OexC K C ∧ PySem.W.findIn K (.ref C) f = some none ∧ H a = some (exo a C none) ∧
  ∀ d, H d = none → d ≠ a → Q .non (upd (upd H d (exd d [(f, v)])) a (exo a C (some d)))
def spI2 (K : PySem.W.Frag) (C : Addr) (f1 f2 : Str) : Sp := fun vs H Q _ => ∃ a v u, vs = [.ref a, v, u] ∧ OexC K C ∧ PySem.W.findIn K (.ref C) f1 = some none ∧ PySem.W.findIn K (.ref C) f2 = some none ∧ H a = some (exo a C none) ∧
  ∀ d, H d = none → d ≠ a → Q .non (upd (upd (upd H d (exd d [(f1, v)])) a (exo a C (some d))) d (exd d [(f2, u), (f1, v)]))
section
variable {X : Cx} {σ : L2.St} {H : Hp} {D : Ends} {C : Addr} {z f1 f2 : Str}
def tI0 (K : PySem.W.Frag) (z : Str) : TS := tDrop (tVeI K (tCons (tVar 0) (tCons (tC (.str z)) tNil)))
theorem tI0_go {K : PySem.W.Frag} {vs : List V} {Q : VK} {E : XK} (h : spI0 K C vs H Q E) : tI0 K z { nx := fun _ H' => Q .non H', rt := Q } (L2.start ["self"] vs) H := by
  obtain ⟨a, rfl, O, ea, q⟩ := h
  exact ⟨.ref a, rfl, a, C, [.str z], rfl, by show 1 ≤ 1000; decide, O, ea, q⟩
def tI1 (K : PySem.W.Frag) (z f : Str) : TS := tSeq (tI0 K z) (tOst K f (tVar 0) (tVar 1))
theorem tI1_go {K : PySem.W.Frag} {vs : List V} {Q : VK} {E : XK} {x : Str} (h : spI1 K C f1 vs H Q E) : tI1 K z f1 { nx := fun _ H' => Q .non H', rt := Q } (L2.start ["self", x] vs) H := by
  obtain ⟨a, v, rfl, O, hno, ea, q⟩ := h
  exact ⟨.ref a, rfl, a, C, [.str z], rfl, by show 1 ≤ 1000; decide, O, ea, v, rfl, .ref a, rfl, a, C, rfl, O, hno, .inl ⟨ea, fun d hd hn => q d hd hn⟩⟩
def tI2 (K : PySem.W.Frag) (z f1 f2 : Str) : TS := tSeq (tI0 K z) (tSeq (tOst K f1 (tVar 0) (tVar 1)) (tOst K f2 (tVar 0) (tVar 2)))
theorem tI2_go {K : PySem.W.Frag} {vs : List V} {Q : VK} {E : XK} {x y : Str} (h : spI2 K C f1 f2 vs H Q E) : tI2 K z f1 f2 { nx := fun _ H' => Q .non H', rt := Q } (L2.start ["self", x, y] vs) H := by
  obtain ⟨a, v, u, rfl, O, hno, hno2, ea, q⟩ := h
  refine ⟨.ref a, rfl, a, C, [.str z], rfl, by show 1 ≤ 1000; decide, O, ea, v, rfl, .ref a, rfl, a, C, rfl, O, hno, .inl ⟨ea, fun d hd hn => ?_⟩⟩
  exact ⟨u, rfl, .ref a, rfl, a, C, rfl, O, hno2, .inr ⟨d, [(f1, v)], upd_same, by rw [upd_ne hn]; exact upd_same, by show 1 ≤ 900; decide, q d hd hn⟩⟩
end

/-! ### C(): no field, no dict -/
def tMkZ (C : Addr) (sp : Sp) : L2.St → Hp → XK → Prop := fun σ H Q => ∀ a, H a = none → sp [.ref a] (upd H a (exo a C none)) (fun v H2 => v = .non ∧ H2 a = some (exo a C none) ∧ Q (.ref C) none (del H2 a)) (fun _ _ _ => False)
section
variable {X : Cx} {p pos : Pos}
theorem land0 {pins : List (Addr × Obj)} {σ : L2.St} {H1 H2 : Hp} {hp hp2 h2 : Heap} {g1 g2 : Array GenState} {d1 d2 : Drawn} {t1 t2 : Nat} {os1 os2 : OsState} {a C : Addr} (I1 : Inv X pins σ H1 ⟨hp, g1, d1, t1, os1⟩)
    (ha : hp.objs.size ≤ a) (k : ∀ b o, hp.get? b = some o → hp2.get? b = some o) (un : Un (frs X.stack) [] (upd H1 a (exo a C none)) H2 hp2 h2) (hok : HOk X.prog X.w H2 h2) (ho : os2 = os1) (hb : PyProof.Rows.AllBare g2) (ea : H2 a = some (exo a C none)) :
    ∃ (t0 : Addr) (G : Heap), Inv X pins σ (del H2 a) ⟨G, g2, d2, t2, os2⟩ ∧ (∀ b o, G.get? b = some o → h2.get? b = some o) ∧ G.get? a = none ∧
      h2.get? a = some ({ cls := .ref C, dict := none, data := .fields #[.ref t0, .none, .none, .none, .bool false, .none] } : Obj) := by
  obtain ⟨t0, hoe⟩ := exo_at hok ea
  obtain ⟨G, gkeep, gdrop⟩ := restrict h2 fun b => decide (b ≠ a)
  have gk : ∀ {b : Addr}, b ≠ a → G.get? b = h2.get? b := fun {b} hb => gkeep b (decide_eq_true hb)
  have ge : G.get? a = none := gdrop a (by simp)
  have hn : H1 a = none := I1.hok.fresh ha
  have ne : ∀ {b : Addr} {o : Obj}, hp.get? b = some o → b ≠ a := fun {b o} z => Nat.ne_of_lt (Nat.lt_of_lt_of_le (Heap.lt_size z) ha)
  have fr : ∀ {b : Addr} {o : Obj}, hp.get? b = some o → H1 b = none → upd H1 a (exo a C none) b = none := fun {b o} z n => (upd_ne (ne z)).trans n
  have U : Un (frs X.stack) [] H1 (del H2 a) hp G := by
    constructor
    · exact fun b o z n hf hx => (gk (ne z)).trans (un.keep b o (k b o z) (fr z n) hf hx)
    · intro b o z n hf hx
      obtain ⟨sl, e⟩ := un.slot b o (k b o z) (fr z n) hf hx
      exact ⟨sl, (gk (ne z)).trans e⟩
    · exact fun b o z n hx => (del_ne (ne z)).trans (un.free b o (k b o z) (fr z n) hx)
    · intro b o z hx
      obtain ⟨o', e⟩ := un.there b o (k b o z) hx
      exact ⟨o', (gk (ne z)).trans e⟩
    · exact fun b xs z => (del_ne (ne_of_none z hn)).trans (un.tups b xs ((upd_ne (ne_of_none z hn)).trans z))
    · exact fun b o v z => (del_ne (ne_of_none z hn)).trans (un.frzs b o v ((upd_ne (ne_of_none z hn)).trans z))
    · intro b ps z
      obtain ⟨more, e⟩ := un.tbls b ps ((upd_ne (ne_of_none z hn)).trans z)
      exact ⟨more, (del_ne (ne_of_none z hn)).trans e⟩
  have ok : HOk X.prog X.w (del H2 a) G := by
    intro b o z
    by_cases hba : b = a
    · rw [hba, del_same] at z
      cases z
    · rw [del_ne hba] at z
      have own : ∀ {c : Addr}, H2 c = some (.own b) → c ≠ a := fun {c} hc => at_ne ea hc exo_own
      refine (hok b o z).stay (fun c v hc y => (gk ?_).trans y) (fun c hc => (del_ne (own hc)).trans hc) fun c xs hc => (del_ne (at_ne ea hc exo_tup)).trans hc
      rcases hc with rfl | hc
      · exact hba
      · exact own hc
  refine ⟨t0, G, I1.call' (ch := []) ho U ok hb (fun b z => absurd z (by simp)), fun b o z => ?_, ge, hoe⟩
  by_cases hba : b = a
  · rw [hba, ge] at z
    cases z
  · exact (gk hba).symm.trans z
theorem pmk_oex0 {CX : CXT} {x : Str} {C fI : Addr} {k : Nat} {fd : FuncData} {ps : List Str} {sp : Sp} (T : OexC X.K C) (iC : PySem.W.findIn X.K (.ref C) "__init__" = some (some (.ref fI))) (tI : PySem.W.typeIn X.K (.ref fI) = some (.type "function"))
    (F1 : FnOk X.prog X.w X.K X.mg X.base CX k fI fd ps sp) (hr : Room (k + 1) X.A) (hb : Binds X.K fd ps []) (hx : Passes CX X (fun _ _ _ => False)) (hg : L2.Gl X x) (hm : X.mg x = some (.ref C)) (hdb : (x == ("__debug__" : Str)) = false) :
    PMk X (.Call (.Name x p) [] [] pos) (tMkZ C sp) := by
  intro pins s σ H Q I h
  obtain ⟨nm, q, N, bs, bm, sn, sub, ab, col, dd, k0, k1, k2, k3, k5, hC, hbm⟩ := T.cls
  apply PySem.wpAny_Call_Name_kw (ld_glob I hg hm ?_ hdb)
  apply PySem.W.callWith_K0 I.kIn T.kC
  change wpAny _ _ (call (.ref C) []) _ _ _
  obtain ⟨hp, g, dr, tk, os⟩ := s
  have big : hp.objs.size ≤ hp.objs.size + 1 := Nat.le_succ _
  have hn : H (hp.objs.size + 1) = none := I.hok.fresh big
  have hq := h (hp.objs.size + 1) hn
  have old : ∀ b o, hp.get? b = some o → ((hp.push (PySem.W.kdv_tup [])).push (PySem.HandSPX.excO C hp.objs.size)).get? b = some o := fun b o e => Heap.get?_push_of_some _ (Heap.get?_push_of_some _ e)
  have new : ((hp.push (PySem.W.kdv_tup [])).push (PySem.HandSPX.excO C hp.objs.size)).get? (hp.objs.size + 1) = some (PySem.HandSPX.excO C hp.objs.size) := by heap_get
  have I2 : Inv X pins σ (upd H (hp.objs.size + 1) (exo (hp.objs.size + 1) C none)) ⟨(hp.push (PySem.W.kdv_tup [])).push (PySem.HandSPX.excO C hp.objs.size), g, dr, tk, os⟩ := I.laid (t' := tk) (a := hp.objs.size + 1) (o := exo (hp.objs.size + 1) C none) (h' := (hp.push (PySem.W.kdv_tup [])).push (PySem.HandSPX.excO C hp.objs.size)) old big (exo_ok new)
  have rv : Vals [V.ref (hp.objs.size + 1)] [Value.ref (hp.objs.size + 1)] := .cons rfl .nil
  have hl : ([Value.ref (hp.objs.size + 1)] ++ ([] : List Value)).length = ps.length := by
    have e := F1.len _ _ _ _ hq
    simpa using e
  have bd := hb _ [Value.ref (hp.objs.size + 1)] I2.kIn hl
  rw [List.append_nil] at bd
  refine wpAny_call (PySem.HandSPX.call_own F.excBase_ValueError (fun Y => PySem.HandSPX.refsVE_contains Y bm hbm) (I.kIn _ _ hC) (PySem.W.looks_findIn I.kIn iC) (fun self => PySem.W.bind_fn I.kIn self tI) (by rw [sizeLine_eq]; decide)
    (codeAny_mono (F1.run _ X.stack _ _ ⟨[Value.ref (hp.objs.size + 1)], []⟩ [Value.ref (hp.objs.size + 1)] _ _ (fun _ _ _ => False) (hr.make C [] []) (I2.env0.make C [] []) bd rv hq) ?_))
  intro r s' hq'
  cases r with
  | error er => exact hx pins σ _ _ er s' I2 hq'
  | ok fl =>
    cases fl with
    | ret u =>
      obtain ⟨v, H2, os2, bare2, un2, hok2, rv2, ev, ea, q2⟩ := hq'
      subst ev
      obtain ⟨h2, g2, d2, t2, os'⟩ := s'
      obtain ⟨t0, G, J, kG, ge, hoe⟩ := land0 (d2 := d2) (t2 := t2) I big old un2 hok2 os2 bare2 ea
      exact ⟨rv2, _, _, _, ⟨G, g2, d2, t2, os'⟩, _, .ref C, none, rfl, J, kG, ge, hoe, ⟨rfl, rfl⟩, rfl, rfl, del_same, rfl, bare2, raises_own T.exC T.tyC, q2⟩
    | next => exact False.elim hq'
    | brk => exact False.elim hq'
    | cont => exact False.elim hq'
end
end DL

/-! DL, part 12: raise, try. -/
namespace DL
open PySem L2

/-! ### try: several clauses, with a name or without -/
structure Hd where
  c : Value
  i : Option Nat
  ts : Addr → Value → Option Addr → TS
def endsOf (i : Option Nat) (D : Ends) : Ends := match i with
  | none => D
  | some i => { nx := fun τ G => D.nx (τ.set i none) G, rt := D.rt, bk := fun τ G => D.bk (τ.set i none) G, ct := fun τ G => D.ct (τ.set i none) G }
def slotOf (i : Option Nat) (a : Addr) (τ : L2.St) : L2.St := match i with
  | none => τ
  | some i => τ.set i (some (.ref a))
def wAny (K : PySem.W.Frag) (Wout : WX) (D : Ends) : List Hd → WX
  | [] => Wout
  | h :: r => fun cls d τ G => ∃ b, PySem.W.exmOne K cls h.c = some b ∧ (b = true → ∀ a, G a = none → h.ts a cls d (endsOf h.i D) (slotOf h.i a τ) G) ∧ (b = false → wAny K Wout D r cls d τ G)
inductive HdOk (X : Cx) : List ExceptHandler → List Hd → Prop
  | nil : HdOk X [] []
  | bare {x : Str} {c : Value} {ts : Addr → Value → Option Addr → TS} {b₀ : Stmt} {su : List Stmt} {np p' : Pos} {r : List ExceptHandler} {l : List Hd} : Names X x c →
      (∀ (a : Addr) (oe : Obj) (cls : Value) (d : Option Addr) (pn : List (Addr × Obj)), Zc cls d oe → (∃ vs, oe.data = .fields vs) → PSs (X.suite a ((a, oe) :: pn)) (b₀ :: su) (ts a cls d)) → HdOk X r l →
      HdOk X (.ExceptHandler (some (.Name x np)) none (b₀ :: su) p' :: r) (⟨c, none, ts⟩ :: l)
  | named {x n : Str} {i : Nat} {c : Value} {ts : Addr → Value → Option Addr → TS} {b₀ : Stmt} {su : List Stmt} {np p' : Pos} {r : List ExceptHandler} {l : List Hd} : Names X x c → X.N[i]? = some n → X.env.kindOf n = some .local →
      (∀ (a : Addr) (oe : Obj) (cls : Value) (d : Option Addr) (pn : List (Addr × Obj)), Zc cls d oe → (∃ vs, oe.data = .fields vs) → PSs (X.suite a ((a, oe) :: pn)) (b₀ :: su) (ts a cls d)) → HdOk X r l →
      HdOk X (.ExceptHandler (some (.Name x np)) (some n) (b₀ :: su) p' :: r) (⟨c, some i, ts⟩ :: l)
section
variable {X : Cx} {body : List Stmt} {h₀ : ExceptHandler} {hds : List ExceptHandler} {l : List Hd} {pos : Pos} {tb : WX → TS} {Wout : WX}
theorem ps_try_any (hstk : X.stack = X.env :: X.outer) (hfr0 : X.env.frame = some X.env.locals) (hN : X.N.Nodup) (tk : Takes X Wout)
    (hb : ∀ (W : WX) (pn : List (Addr × Obj)) (xe : Value → Shared → Prop), Takes (X.tr pn xe) W → PassesOwn (model X.prog X.w) X.A X.env xe → PSs (X.tr pn xe) body (tb W)) (hh : HdOk X (h₀ :: hds) l) :
    PS X (.Try body (h₀ :: hds) [] [] pos) (fun D σ H => tb (wAny X.K Wout D l) D σ H) := by
  constructor
  intro pins s σ H D I h
  have ok := I.ok
  have hfr : X.A.frames = some (X.env :: X.outer) := ok.frames.trans (congrArg some hstk)
  apply PySem.wpAny_Try_except
  apply wpAny_mono ((hb (wAny X.K Wout D l) (X.pn ++ pins) (fun e s₁ => wpAny (model X.prog X.w) X.A (noteFrame e X.env) (fun _ s₂ => wpAny (model X.prog X.w) X.A (setFlight e none) (fun _ s₃ => wpAny (model X.prog X.w) X.A (handleBy e X.env (h₀ :: hds)) (SP X pins D) X.xe s₃) X.xe s₂) X.xe s₁) ?caught PassesOwn.looking).run [] s σ H D (I.toTry _) h) ?thru (fun e s1 he => he)
  case thru =>
    intro f s1 hsp
    cases f with
    | next =>
      obtain ⟨τ, G, J, q⟩ := hsp
      exact wpAny_execs_nil ⟨τ, G, J.ofTry ok, q⟩
    | brk =>
      obtain ⟨τ, G, J, q⟩ := hsp
      exact ⟨τ, G, J.ofTry ok, q⟩
    | cont =>
      obtain ⟨τ, G, J, q⟩ := hsp
      exact ⟨τ, G, J.ofTry ok, q⟩
    | ret u =>
      obtain ⟨v, τ, G, J, r, q⟩ := hsp
      exact ⟨v, τ, G, J.ofTry ok, r, q⟩
  case caught =>
    rintro u s1 ⟨a, Bs, sI, pins', τ, G, cls, d, rfl, J', nb, up, sky, na, os, ag, want⟩
    have J : Inv X pins τ G sI := J'.ofTry ok
    have sky1 : Sky Bs (X.env :: X.outer) a (Zc cls d) X.env.locals s1.heap := hstk ▸ sky
    change wpAny (model X.prog X.w) X.A (noteFrame (.ref a) X.env) _ _ _
    apply Sky.land Zc.steady hfr hfr0 sky1
    intro h3 fl3 up3
    have J3 : Inv X pins τ G { s1 with heap := h3 } := J.landed nb fl3.1 (up.trans up3) os ag
    obtain ⟨oe3, vs3, he3, hz3, hd3⟩ := fl3.there
    have nfr : a ∉ frs (X.env :: X.outer) := by
      intro hm
      obtain ⟨_, o', e', hnf⟩ := fl3.2.2.1.mem hm
      rw [he3] at e'
      cases e'
      exact hnf _ hd3
    have nL : a ≠ X.env.locals := by
      intro z
      apply nfr
      exact List.mem_filterMap.mpr ⟨X.env, List.mem_cons_self, by rw [hfr0, z]⟩
    have nF : a ∉ X.fs := by
      intro hm
      obtain ⟨e, he, q⟩ := List.mem_filterMap.mp hm
      exact nfr (List.mem_filterMap.mpr ⟨e, List.mem_cons_of_mem _ he, q⟩)
    have S3 := J3.suite he3 hd3 na nL nF
    have LT : PySem.W.Looks (model X.prog X.w) h3 (typeOf (.ref a)) cls := fun A Q E s k q => wpAny_typeOf_ref (k _ _ he3) (by rw [hz3.1]; exact q)
    have test : ∀ {x : Str} {c : Value} {np : Pos} {Q : Value → Shared → Prop} {E : Value → Shared → Prop}, Names X x c → Q c { s1 with heap := h3 } → wpAny (model X.prog X.w) (X.A.mark (some (.ref a))) (eval (.Name x np) X.env) Q E { s1 with heap := h3 } := by
      rintro x c np Q E ⟨hg, hdbg, hm | ⟨hm, hv, hnn⟩⟩ q
      · exact ld_glob (X := X.suite a ((a, oe3) :: (X.pn ++ pins))) S3 hg hm q hdbg
      · exact ld_blt (X := X.suite a ((a, oe3) :: (X.pn ++ pins))) S3 hg hm hv q hnn hdbg
    have go : ∀ {r : List ExceptHandler} {l' : List Hd}, HdOk X r l' → wAny X.K Wout D l' cls d τ G → wpAny (model X.prog X.w) X.A (handleBy (.ref a) X.env r) (SP X pins D) X.xe { s1 with heap := h3 } := by
      intro r l' hk
      induction hk with
      | nil =>
        intro wish
        apply wpAny_handleBy_nil
        obtain ⟨_, _, _, oe, vs, T, oT, ts', he, hz, hd, h1, hr⟩ := id fl3
        unfold PySem.passOn
        apply wpAny_bind (wpAny_field he hd h1 ?_)
        rw [if_neg (show ¬ ((Value.ref T == Value.none) = true) by simp)]
        have fin : wpAny (model X.prog X.w) X.A (setFlight (.ref a) X.env.frame) (fun _ s4 => wpAny (model X.prog X.w) X.A (throw (.ref a) : Sem Flow) (SP X pins D) X.xe s4) X.xe { s1 with heap := h3 } := by
          rw [hfr0]
          apply HandSPX.setFlight_upZ fl3
          intro h4 hh4 up4
          exact wpAny_throw (tk _ _ ⟨a, Bs, sI, pins, τ, G, cls, d, rfl, J, nb, (up.trans up3).trans up4, .inr (.inr (by rw [hstk]; exact hh4)), na, os, ag, wish⟩)
        first
          | exact wpAny_bind fin
          | exact wpAny_bind (wpAny_pure (wpAny_bind fin))
      | @bare x c ts b₀ su np p' r l2 hc hsu rr ih =>
        rintro ⟨b, hb1, hyes, hno⟩
        refine wpAny_handleBy_cons (codeAny_handlers_test ?_) (fun q => nomatch q)
        refine test hc ((PySem.W.exm_one (M := model X.prog X.w) (J3.kIn) LT hb1).here ?_)
        cases b with
        | false => exact ih (hno rfl)
        | true =>
          apply codeAny_handlers_suite
          apply HandSPX.lands_againZ fl3
          intro h4 fl4 up4
          have J4 : Inv X pins τ G { s1 with heap := h4 } := J.landed nb fl4.1 ((up.trans up3).trans up4) os ag
          obtain ⟨oe4, vs4, he4, hz4, hd4⟩ := fl4.there
          apply wpAny_mono ((hsu a oe4 cls d (X.pn ++ pins) hz4 ⟨_, hd4⟩).run [] _ _ G _ (J4.suite he4 hd4 na nL nF) (hyes rfl a na)) ?_ (fun _ _ z => False.elim z)
          intro f s6 hsp
          cases f with
          | ret u =>
            obtain ⟨v, τ6, G6, S6, r6, q6⟩ := hsp
            exact ⟨v, τ6, G6, S6.unsuite ok, r6, q6⟩
          | next =>
            obtain ⟨τ6, G6, S6, q6⟩ := hsp
            exact ⟨τ6, G6, S6.unsuite ok, q6⟩
          | brk =>
            obtain ⟨τ6, G6, S6, q6⟩ := hsp
            exact ⟨τ6, G6, S6.unsuite ok, q6⟩
          | cont =>
            obtain ⟨τ6, G6, S6, q6⟩ := hsp
            exact ⟨τ6, G6, S6.unsuite ok, q6⟩
      | @named x n i c ts b₀ su np p' r l2 hc hi hln hsu rr ih =>
        rintro ⟨b, hb1, hyes, hno⟩
        refine wpAny_handleBy_cons (codeAny_handlers_test ?_) (fun q => nomatch q)
        refine test hc ((PySem.W.exm_one (M := model X.prog X.w) (J3.kIn) LT hb1).here ?_)
        cases b with
        | false => exact ih (hno rfl)
        | true =>
          apply codeAny_handlers_suite_as
          apply HandSPX.lands_againZ fl3
          intro h4 fl4 up4
          have J4 : Inv X pins τ G { s1 with heap := h4 } := J.landed nb fl4.1 ((up.trans up3).trans up4) os ag
          obtain ⟨oe4, vs4, he4, hz4, hd4⟩ := fl4.there
          apply store_ok (X := X.suite a ((a, oe4) :: (X.pn ++ pins))) (v := .ref a) (J4.suite he4 hd4 na nL nF) hN hi (.inl hln) rfl ?_ (.inr hln)
          intro s5 S5
          apply wpAny_mono ((hsu a oe4 cls d (X.pn ++ pins) hz4 ⟨_, hd4⟩).run [] s5 _ G _ S5 (hyes rfl a na)) ?_ (fun _ _ z => False.elim z)
          intro f s6 hsp
          have fin : ∀ {τ6 : L2.St} {G6 : Hp} {Q : Shared → Prop}, Inv (X.suite a ((a, oe4) :: (X.pn ++ pins))) [] τ6 G6 s6 → (∀ s7, Inv X pins (τ6.set i none) G6 s7 → Q s7) → wpAny (model X.prog X.w) X.A (do bindName X.env n .none; unbindBehindTheSuite X.env n p') (fun _ s7 => Q s7) X.xe s6 :=
            fun {τ6 G6 Q} S6 hq => gone_ok (S6.unsuite ok) hN hi hln hq
          cases f with
          | ret u =>
            obtain ⟨v, τ6, G6, S6, r6, q6⟩ := hsp
            exact fin S6 fun s7 J7 => ⟨v, _, _, J7, r6, q6⟩
          | next =>
            obtain ⟨τ6, G6, S6, q6⟩ := hsp
            exact fin S6 fun s7 J7 => ⟨_, _, J7, q6⟩
          | brk =>
            obtain ⟨τ6, G6, S6, q6⟩ := hsp
            exact fin S6 fun s7 J7 => ⟨_, _, J7, q6⟩
          | cont =>
            obtain ⟨τ6, G6, S6, q6⟩ := hsp
            exact fin S6 fun s7 J7 => ⟨_, _, J7, q6⟩
    exact go hh want
end
end DL

/-! DL, part 13: raise and try by functions. -/
namespace DL
open PySem L2

structure Er0 (P : Program) (w : World) (mg : Str → Option Value) (base : Heap) (G : Gm) (k : Nat) (c : Nat) (x : Str) : Prop where
  ok : ∃ (fI : Addr) (fd : FuncData) (ps : List Str), ErrC G.K mg x (G.eC c) fI ∧ FnOk P w G.K mg base (L2.CX P w) k fI fd ps (spI0 G.K (G.eC c)) ∧ Binds G.K fd ps []
structure Er1 (P : Program) (w : World) (mg : Str → Option Value) (base : Heap) (G : Gm) (k : Nat) (c : Nat) (x f : Str) : Prop where
  ok : ∃ (fI : Addr) (fd : FuncData) (ps : List Str), ErrC G.K mg x (G.eC c) fI ∧ FnOk P w G.K mg base (L2.CX P w) k fI fd ps (spI1 G.K (G.eC c) f) ∧ Binds G.K fd ps []
  no : PySem.W.findIn G.K (.ref (G.eC c)) f = some none
structure Er2 (P : Program) (w : World) (mg : Str → Option Value) (base : Heap) (G : Gm) (k : Nat) (c : Nat) (x f1 f2 : Str) : Prop where
  ok : ∃ (fI : Addr) (fd : FuncData) (ps : List Str), ErrC G.K mg x (G.eC c) fI ∧ FnOk P w G.K mg base (L2.CX P w) k fI fd ps (spI2 G.K (G.eC c) f1 f2) ∧ Binds G.K fd ps []
  no1 : PySem.W.findIn G.K (.ref (G.eC c)) f1 = some none
  no2 : PySem.W.findIn G.K (.ref (G.eC c)) f2 = some none
def dRaise0 (c : Nat) : DS := fun _ g => .er ⟨c, [], []⟩ g
def dRaise1 (c : Nat) (f : Str) (fa : DA) : DS := fun ds g => (fa ds g).bind fun l g => match l with
  | [a] => .er ⟨c, [f], [a]⟩ g
  | _ => .no
def dRaise2 (c : Nat) (f1 f2 : Str) (fa : DA) : DS := fun ds g => (fa ds g).bind fun l g => match l with
  | [a, b] => .er ⟨c, [f2, f1], [b, a]⟩ g
  | _ => .no
theorem heap_raise {H : Hp} {a d : Addr} {o1 o2 o3 o4 : HO} (ha : H a = none) (hn : d ≠ a) : upd (del (upd (upd (upd H a o1) d o2) a o3) a) d o4 = upd H d o4 := by
  funext x
  by_cases e1 : x = d
  · subst e1
    rw [upd_same, upd_same]
  · rw [upd_ne e1, upd_ne e1]
    by_cases e2 : x = a
    · subst e2
      rw [del_same, ha]
    · rw [del_ne e2, upd_ne e2, upd_ne e1, upd_ne e2]
theorem heap_raise2 {H : Hp} {a d : Addr} {o1 o2 o3 o4 o5 : HO} (ha : H a = none) (hn : d ≠ a) : upd (del (upd (upd (upd (upd H a o1) d o2) a o3) d o5) a) d o4 = upd H d o4 := by
  funext x
  by_cases e1 : x = d
  · subst e1
    rw [upd_same, upd_same]
  · rw [upd_ne e1, upd_ne e1]
    by_cases e2 : x = a
    · subst e2
      rw [del_same, ha]
    · rw [del_ne e2, upd_ne e1, upd_ne e2, upd_ne e1, upd_ne e2]
theorem heap_raise0 {H : Hp} {a : Addr} {o1 : HO} (ha : H a = none) : del (upd H a o1) a = H := by
  funext x
  by_cases e2 : x = a
  · subst e2
    rw [del_same, ha]
  · rw [del_ne e2, upd_ne e2]
section
variable {X : Cx} {w : Wc} {c k j : Nat} {x f1 f2 : Str} {p pos pos2 : Pos} {a b : Expr} {fa : DA}
theorem s_raise0 (T : Er0 X.prog X.w X.mg X.base w.G k c x) (hK : X.K = w.G.K) (hr : Room j X.A) (hj : k + 1 ≤ j) (hc : X.calm = true) (tk : Takes X w.W) (hg : L2.Gl X x) (hdb : (x == ("__debug__" : Str)) = false) :
    SD X w (.Raise (some (.Call (.Name x p) [] [] pos)) none pos2) (dRaise0 c) := by
  obtain ⟨fI, fd, ps, E, F1, hb⟩ := T.ok
  rw [← hK] at E F1 hb
  refine ps_imp (ps_raise hc tk (pmk_oex0 E.ox E.iC E.tI F1 (hr.mono hj) hb passL hg E.g hdb)) fun D σ H ⟨B, A, M, ds, g, rel, q⟩ => ?_
  intro a ha
  refine ⟨a, rfl, E.ox, upd_same, rfl, upd_same, ?_⟩
  rw [heap_raise0 ha]
  exact q _ none A M H σ rel.gr rel.gl ⟨rfl, rfl, .inl rfl⟩
theorem s_raise1 (T : Er1 X.prog X.w X.mg X.base w.G k c x f1) (hK : X.K = w.G.K) (hr : Room j X.A) (hj : k + 1 ≤ j) (hc : X.calm = true) (tk : Takes X w.W) (hg : L2.Gl X x) (ha : AD X w [a] fa) (hdb : (x == ("__debug__" : Str)) = false)
    (he : starEach [a] X.env = (false, eval a X.env) :: starEach [] X.env) (hpl : (backTo pos (starEach [] X.env)).any (·.1) = false) : SD X w (.Raise (some (.Call (.Name x p) [a] [] pos)) none pos2) (dRaise1 c f1 fa) := by
  obtain ⟨fI, fd, ps, E, F1, hb⟩ := T.ok
  have hno := T.no
  rw [← hK] at E F1 hb hno
  refine ps_imp (ps_raise hc tk (pmk_oex E.ox E.iC E.tI F1 (hr.mono hj) hb .nil passL hg E.g ha hdb he hpl)) fun D σ H ⟨B, A, M, ds, g, rel, q⟩ => ⟨B, A, M, ds, g, rel, (Rs.post_bind q).imp (fun l g1 q1 vs A1 M1 H1 gr gl r => ?_) fun e g z => rel.es z⟩
  cases r with
  | nil => exact q1.elim
  | @cons v _ dv _ rv r =>
    cases r with
    | cons _ _ => exact q1.elim
    | nil =>
      refine ⟨by show 1 ≤ 1000; decide, fun y hy => ⟨y, v, rfl, E.ox, hno, upd_same, fun d hd hn => ?_⟩⟩
      have hd1 : H1 d = none := by rw [upd_ne hn] at hd; exact hd
      refine ⟨rfl, d, [(f1, v)], upd_same, (upd_ne hn).trans upd_same, hd1, ?_⟩
      rw [heap_raise hy hn]
      have gn := Grow.newH (o := .xd [(f1, v)]) gr.wd hd1
      exact q1 _ (some d) A1 M1 _ σ ((rel.gr.trans gr rel.gl rel.zo).trans gn gl (rel.zoG gr gl)) (gl.newH hd1) ⟨rfl, rfl, .inr ⟨d, [v], rfl, upd_same, .cons rv .nil⟩⟩
theorem s_raise2 (T : Er2 X.prog X.w X.mg X.base w.G k c x f1 f2) (hK : X.K = w.G.K) (hr : Room j X.A) (hj : k + 1 ≤ j) (hc : X.calm = true) (tk : Takes X w.W) (hg : L2.Gl X x) (ha : AD X w [a, b] fa) (hdb : (x == ("__debug__" : Str)) = false)
    (he : starEach [a, b] X.env = (false, eval a X.env) :: starEach [b] X.env) (hpl : (backTo pos (starEach [b] X.env)).any (·.1) = false) : SD X w (.Raise (some (.Call (.Name x p) [a, b] [] pos)) none pos2) (dRaise2 c f1 f2 fa) := by
  obtain ⟨fI, fd, ps, E, F1, hb⟩ := T.ok
  have hno := T.no1
  have hno2 := T.no2
  rw [← hK] at E F1 hb hno hno2
  refine ps_imp (ps_raise hc tk (pmk_oex E.ox E.iC E.tI F1 (hr.mono hj) hb .nil passL hg E.g ha hdb he hpl)) fun D σ H ⟨B, A, M, ds, g, rel, q⟩ => ⟨B, A, M, ds, g, rel, (Rs.post_bind q).imp (fun l g1 q1 vs A1 M1 H1 gr gl r => ?_) fun e g z => rel.es z⟩
  cases r with
  | nil => exact q1.elim
  | @cons v _ dv _ rv r =>
    cases r with
    | nil => exact q1.elim
    | @cons u _ du _ ru r =>
      cases r with
      | cons _ _ => exact q1.elim
      | nil =>
        refine ⟨by show 2 ≤ 1000; decide, fun y hy => ⟨y, v, u, rfl, E.ox, hno, hno2, upd_same, fun d hd hn => ?_⟩⟩
        have hd1 : H1 d = none := by rw [upd_ne hn] at hd; exact hd
        refine ⟨rfl, d, [(f2, u), (f1, v)], (upd_ne hn.symm).trans upd_same, upd_same, hd1, ?_⟩
        rw [heap_raise2 hy hn]
        have gn := Grow.newH (o := .xd [(f2, u), (f1, v)]) gr.wd hd1
        exact q1 _ (some d) A1 M1 _ σ ((rel.gr.trans gr rel.gl rel.zo).trans gn gl (rel.zoG gr gl)) (gl.newH hd1) ⟨rfl, rfl, .inr ⟨d, [u, v], rfl, upd_same, .cons ru (.cons rv .nil)⟩⟩
end

/-! ### a body that stores nothing -/
abbrev DX := DEnv → Gl → Rs Unit
def xD (w : Wc) (f : DX) : TS := fun D σ H => ∃ B A M ds g, Rel w B A M H σ ds g ∧ (f ds g).Post (fun _ g' => ∀ A' M' H', Grow [] A A' M M' H H' → GlOk w.G A' M' H' g' → D.nx σ H') (EE w A M H σ)
abbrev XD (X : Cx) (w : Wc) (st : Stmt) (f : DX) : Prop := PS X st (xD w f)
abbrev XsD (X : Cx) (w : Wc) (st : List Stmt) (f : DX) : Prop := PSs X st (xD w f)
def dX (f : DE) : DX := fun ds g => (f ds g).bind fun _ g => .ok () g
section
variable {X : Cx} {w : Wc} {e c : Expr} {fe : DE} {ft : DT} {a b : List Stmt} {f1 f2 : DX} {pos : Pos} {st : Stmt}
theorem x_expr (he : KD X w e fe) (hs : swapsWith e none pos.line X.env = pure false) : XD X w (.Expr e pos) (dX fe) :=
  ps_imp (ps_expr he hs) fun D σ H ⟨B, A, M, ds, g, rel, p⟩ => ⟨B, A, M, ds, g, rel, (Rs.post_bind p).imp (fun d g1 p1 v A1 M1 H1 gr gl r => p1 A1 M1 H1 gr gl) fun e g z => z⟩
theorem x_if (hc : TD X w c ft) (ha : XsD X w a f1) (hb : XsD X w b f2) : XD X w (.If c a b pos) (dIf ft f1 f2) :=
  ps_imp (ps_if hc ha hb) fun D σ H ⟨B, A, M, ds, g, rel, p⟩ => ⟨B, A, M, ds, g, rel, (Rs.post_bind p).imp (fun c g1 p1 A1 M1 H1 gr gl => by
    cases c with
    | true => exact ⟨B, A1, M1, ds, g1, rel.grow gr gl, Rs.Post.imp p1 (fun _ _ q A' M' H' h1 h2 => q A' M' H' (gr.trans h1 gl (fun _ z => nomatch z)) h2) fun _ _ z => EE.on z gr gl⟩
    | false => exact ⟨B, A1, M1, ds, g1, rel.grow gr gl, Rs.Post.imp p1 (fun _ _ q A' M' H' h1 h2 => q A' M' H' (gr.trans h1 gl (fun _ z => nomatch z)) h2) fun _ _ z => EE.on z gr gl⟩) fun e g z => z⟩
theorem xs_one (h : XD X w st f1) : XsD X w [st] f1 := pss_one h
end

/-! ### clauses -/
def isExc : Slot → Bool
  | .exc _ => true
  | _ => false
def noExc (ds : DEnv) : Bool := ds.all fun s => !isExc s
abbrev Wc.at_ (w : Wc) (a : Addr) (cls : Value) (d : Option Addr) : Wc := { w with xa := a, xc := cls, xd := d, W := fun _ _ _ _ => False }
section
variable {w : Wc} {B : Bs} {A : List Addr} {M H : Hp} {σ : L2.St} {ds : DEnv} {g : Gl}
/-- where no slot holds an exception it is the same whose it is -/
theorem Rel.other {a b : Addr} {c c' : Value} {d d' : Option Addr} {W W' : WX} (r : Rel ⟨w.G, a, c, d, w.sC, W⟩ B A M H σ ds g) (h : noExc ds = true) : Rel ⟨w.G, b, c', d', w.sC, W'⟩ B A M H σ ds g := by
  refine ⟨r.gr, r.gl, r.len, fun i s e => ?_, r.dj, r.zo⟩
  have q := r.sl i s e
  have ns : isExc s = false := by
    unfold noExc at h
    rw [List.all_eq_true] at h
    have := h s (List.mem_of_getElem? e)
    simpa using this
  cases s with
  | exc e => cases ns
  | _ => exact q
theorem ErOk.notA {e : Er} {cls : Value} {d : Option Addr} (x : ErOk w.G A M H e cls d) (gl : GlOk w.G A M H g) : e.ks = [] ∨ ∃ dd, d = some dd ∧ dd ∉ A := by
  rcases x.2.2 with h | ⟨dd, xs, h1, h2, _⟩
  · exact .inl h
  · refine .inr ⟨dd, h1, fun hm => ?_⟩
    obtain ⟨k, hk, e1⟩ := List.mem_iff_getElem.mp hm
    have e2 : A[k]? = some dd := List.getElem?_eq_some_iff.mpr ⟨hk, e1⟩
    have hg : k < g.length := by rw [← gl.len]; exact hk
    have q := gl.ob k dd _ e2 (List.getElem?_eq_some_iff.mpr ⟨hg, rfl⟩)
    revert q
    cases g[k] with
    | lst l =>
      rintro ⟨ys, h3, _⟩
      rw [h2] at h3
      cases h3
    | ins ks l =>
      rintro ⟨dx, ys, h3, _⟩
      rw [h2] at h3
      cases h3
end
/-- a clause: which classes it takes, where its name stands, what it does -/
structure Cl where
  m : Nat → Option Bool
  i : Option Nat
  f : DS
def exSlot (i : Option Nat) (e : Er) (ds : DEnv) : DEnv := match i with
  | none => ds
  | some i => ds.set i (.exc e)
def unSlot (i : Option Nat) (ds : DEnv) : DEnv := match i with
  | none => ds
  | some i => ds.set i .unset
def outOf (i : Option Nat) : Out → Gl → Rs Out := fun o g => match o with
  | .nx ds => if noExc (unSlot i ds) = true then .ok (.nx (unSlot i ds)) g else .no
  | .rt d => .ok (.rt d) g
  | _ => .no
def dHds : List Cl → Er → DS
  | [], e => fun _ g => .er e g
  | h :: r, e => fun ds g => match h.m e.c with
    | some true => (h.f (exSlot h.i e ds) g).noer.bind (outOf h.i)
    | some false => dHds r e ds g
    | none => .no
def dTry (f : DX) (hs : List Cl) : DS := fun ds g => if noExc ds = true then (match f ds g with
  | .no => .no
  | .ok _ g => .ok (.nx ds) g
  | .er e g => dHds hs e ds g) else .no
/-- clauses and what they do -/
inductive ClOk (X : Cx) (w : Wc) : List Hd → List Cl → Prop
  | nil : ClOk X w [] []
  | cons {h : Hd} {k : Cl} {l : List Hd} {r : List Cl} : h.i = k.i → (∀ i b, k.m i = some b → PySem.W.exmOne w.G.K (.ref (w.G.eC i)) h.c = some b) → (∀ a cls d, h.ts a cls d = sD (w.at_ a cls d) k.f) → ClOk X w l r → ClOk X w (h :: l) (k :: r)
section
variable {X : Cx} {w : Wc}
theorem hds_go {B : Bs} {A0 A : List Addr} {M0 M H : Hp} {σ : L2.St} {ds : DEnv} {g : Gl} {D : Ends} {e : Er} {cls : Value} {d : Option Addr} (hK : X.K = w.G.K) (ne : noExc ds = true) (rel : Rel w B A M H σ ds g) (inc : Inc A0 A M0 M) (er : ErOk w.G A M H e cls d) :
    ∀ {l : List Hd} {r : List Cl}, ClOk X w l r → (dHds r e ds g).Post (QS w B A0 M0 D) (ES w B) → wAny X.K w.W D l cls d σ H := by
  intro l r hk
  induction hk with
  | nil => exact fun p => p cls d A M H σ rel.gr rel.gl er
  | @cons h k l r ei hm hts hr ih =>
    intro p
    unfold dHds at p
    cases em : k.m e.c with
    | none => rw [em] at p; exact p.elim
    | some b =>
      rw [em] at p
      refine ⟨b, ?_, fun hb a ha => ?_, fun hb => ?_⟩
      · rw [hK, er.1]
        exact hm _ _ em
      · subst hb
        rw [hts a cls d, ei]
        have r0 : Rel (w.at_ a cls d) B A M H σ ds g := Rel.other (w := w) rel ne
        have r1 : Rel (w.at_ a cls d) B A M H (slotOf k.i a σ) (exSlot k.i e ds) g := by
          unfold slotOf exSlot
          cases k.i with
          | none => exact r0
          | some i => exact r0.set ⟨rfl, er, er.notA rel.gl⟩ fun z => nomatch z
        refine ⟨B, A, M, exSlot k.i e ds, g, r1, (noer_post p).imp (fun o g1 p1 => ?_) fun _ _ z => z⟩
        cases o with
        | rt dd =>
          intro v A' M' H' h1 h2 h3
          unfold endsOf
          cases k.i with
          | none => exact p1 v A' M' H' h1 h2 h3
          | some i => exact p1 v A' M' H' h1 h2 h3
        | bk _ => exact p1.elim
        | ct _ => exact p1.elim
        | nx ds2 =>
          intro A' M' H' τ r2 inc2
          have p2 : (if noExc (unSlot k.i ds2) = true then Rs.ok (Out.nx (unSlot k.i ds2)) g1 else .no).Post (QS w B A0 M0 D) (ES w B) := p1
          by_cases hx : noExc (unSlot k.i ds2) = true
          · rw [if_pos hx] at p2
            revert p2 hx
            unfold endsOf unSlot
            cases k.i with
            | none => exact fun p2 hx => p2 A' M' H' τ (Rel.other (w := w) r2 hx) (inc.trans inc2)
            | some i => exact fun p2 hx => p2 A' M' H' _ (Rel.other (w := w) r2.unset hx) (inc.trans inc2)
          · rw [if_neg hx] at p2
            exact p2.elim
      · subst hb
        exact ih p
theorem s_try {body : List Stmt} {h₀ : ExceptHandler} {hds : List ExceptHandler} {l : List Hd} {r : List Cl} {f : DX} {pos : Pos} (hK : X.K = w.G.K) (hstk : X.stack = X.env :: X.outer) (hfr0 : X.env.frame = some X.env.locals) (hN : X.N.Nodup) (tk : Takes X w.W)
    (hb : ∀ (W : WX) (pn : List (Addr × Obj)) (xe : Value → Shared → Prop), Takes (X.tr pn xe) W → PassesOwn (model X.prog X.w) X.A X.env xe → XsD (X.tr pn xe) { w with W := W } body f) (hh : HdOk X (h₀ :: hds) l) (hc : ClOk X w l r) :
    SD X w (.Try body (h₀ :: hds) [] [] pos) (dTry f r) :=
  ps_imp (ps_try_any hstk hfr0 hN tk hb hh) fun D σ H ⟨B, A, M, ds, g, rel, p⟩ => by
    unfold dTry at p
    by_cases ne : noExc ds = true
    · rw [if_pos ne] at p
      refine ⟨B, A, M, ds, g, ⟨rel.gr, rel.gl, rel.len, rel.sl, rel.dj, rel.zo⟩, ?_⟩
      cases q : f ds g with
      | no => rw [q] at p; exact p.elim
      | ok u g1 =>
        rw [q] at p
        exact fun A' M' H' gr gl => p A' M' H' σ (rel.grow gr gl) gr.inc
      | er e g1 =>
        rw [q] at p
        exact fun cls dd A' M' H' gr gl er => hds_go hK ne (rel.grow gr gl) gr.inc er hc p
    · rw [if_neg ne] at p
      exact p.elim
/-- e.f, e the exception at hand -/
def dXf (i c : Nat) (f : Str) : DE := fun ds g => match ds[i]? with
  | some (.exc e) => if e.c = c then Rs.opt ((e.ks.zip e.vs).lookup f) g else .no
  | _ => .no
theorem lookup_zip {G : Gm} {A : List Addr} {M : Hp} {f : Str} {d : Dat} : ∀ {ks : List Str} {xs : List V} {l : List Dat}, RpA G A M xs l → (ks.zip l).lookup f = some d → ∃ v, (ks.zip xs).lookup f = some v ∧ Rp G A M v d
  | [], xs, l, _, h => by cases h
  | k :: ks, _, _, .nil, h => by cases h
  | k :: ks, x :: xs, y :: l, .cons r0 r, h => by
    rw [List.zip_cons_cons, List.lookup_cons] at h
    rw [List.zip_cons_cons, List.lookup_cons]
    cases e : f == k with
    | true =>
      rw [e] at h
      cases h
      exact ⟨x, rfl, r0⟩
    | false =>
      rw [e] at h
      exact lookup_zip r h
theorem k_xf {a : Addr} {oe : Obj} {cls : Value} {d : Option Addr} {pn : List (Addr × Obj)} {e : Expr} {i c : Nat} {f : Str} {pos : Pos} (hK : X.K = w.G.K) (T : XfC w.G.K (w.G.eC c)) (hno : PySem.W.findIn w.G.K (.ref (w.G.eC c)) f = some none) (hz : Zc cls d oe) (hf : ∃ vs, oe.data = .fields vs)
    (he : PE (X.suite a ((a, oe) :: pn)) e (tVar i)) (hb : attributeBase e f X.env (eval e X.env) = eval e X.env) : KD (X.suite a ((a, oe) :: pn)) (w.at_ a cls d) (.Attribute e f pos) (dXf i c f) := by
  rw [← hK] at T hno
  refine pe_imp (pe_xf T hno hz hf he hb) fun σ H Q ⟨B, A, M, ds, g, rel, p⟩ => ?_
  unfold dXf at p
  cases q : ds[i]? with
  | none => rw [q] at p; exact p.elim
  | some s =>
    rw [q] at p
    cases s with
    | exc e =>
      have p2 : (if e.c = c then Rs.opt ((e.ks.zip e.vs).lookup f) g else .no).Post (QE w.G A M H Q) (EE (w.at_ a cls d) A M H σ) := p
      by_cases ec : e.c = c
      · rw [if_pos ec] at p2
        obtain ⟨z, ez, qz⟩ := post_opt p2
        obtain ⟨e1, e2, e3⟩ := rel.sl i _ q
        rcases e2.2.2 with h0 | ⟨dd, xs, h1, h2, h3⟩
        · rw [h0] at ez
          cases ez
        · obtain ⟨v, hv, rv⟩ := lookup_zip h3 ez
          have hcls : cls = .ref (w.G.eC c) := by rw [← ec]; exact e2.1
          exact ⟨.ref a, e1, rfl, hcls, dd, _, v, h1, h2, hv, qz v A M H rel.wd.refl rel.gl rv⟩
      · rw [if_neg ec] at p2
        exact p2.elim
    | _ => exact p.elim
end
end DL

/-! DL, part 14: stores into what is one's own or shared; dicts by texts. -/
namespace DL
open PySem L2

section
variable {w : Wc} {B : Bs} {A : List Addr} {M H : Hp} {σ : L2.St} {ds : DEnv} {g : Gl}
theorem own_obj {j : Nat} (r : Rel w B A M H σ ds g) (h : isOwn ds[j]? = true) : ∃ p o, σ[j]? = some (some (.ref p)) ∧ H p = some o ∧ (∀ fs, o ≠ .xd fs) ∧ M p = none ∧ p ∉ A ∧ (B.H p = none ∨ p ∈ B.Z) := by
  cases e : ds[j]? with
  | none => rw [e] at h; cases h
  | some s =>
    have q := r.sl j s e
    rw [e] at h
    cases s with
    | own l => obtain ⟨p, xs, e1, e2, _, m⟩ := q; exact ⟨p, _, e1, e2, (fun _ z => nomatch z), m.1, m.2.1, .inl m.2.2⟩
    | ownD ks l => obtain ⟨p, xs, e1, e2, _, _, m⟩ := q; exact ⟨p, _, e1, e2, (fun _ z => nomatch z), m.1, m.2.1, .inl m.2.2⟩
    | self ks l => obtain ⟨p, dx, xs, e1, e2, _, _, m⟩ := q; exact ⟨p, _, e1, e2, (fun _ z => nomatch z), m.1, m.2.1, .inr m.2.2⟩
    | _ => cases h
/-- one's own thing in slot i is changed -/
theorem Rel.mut {i : Nat} {p : Addr} {o : HO} {s' : Slot} (r : Rel w B A M H σ ds g) (hi : isOwn ds[i]? = true) (e : σ[i]? = some (some (.ref p))) (hs : SlotOk w B A M (upd H p o) (some (some (.ref p))) s') (ho : isOwn (some s') = true) : Rel w B A M (upd H p o) σ (ds.set i s') g := by
  obtain ⟨p', o', e1, e2, nx, m, na, mb⟩ := own_obj r hi
  rw [e] at e1
  cases e1
  have il : i < ds.length := by
    cases q : ds[i]? with
    | none => rw [q] at hi; cases hi
    | some s => exact (List.getElem?_eq_some_iff.mp q).1
  refine ⟨⟨fun a u h1 h2 h3 => ?_, r.gr.mex, fun a u h1 => ?_, r.gr.mnew, r.gr.aex, r.gr.mA⟩, r.gl.stay (Same.refl M) fun a ha => upd_ne fun z => na (by rw [← z]; exact ha), by rw [List.length_set]; exact r.len, fun j s es => ?_, fun j k q hjk o1 o2 q1 q2 => ?_, fun a ha => ?_⟩
  · have ne : a ≠ p := fun z => by
      subst z
      rcases mb with z | z
      · rw [h1] at z
        cases z
      · exact h3 z
    rw [upd_ne ne]
    exact r.gr.keep a u h1 h2 h3
  · rw [upd_ne (ne_of_none h1 m)]
    exact r.gr.mh a u h1
  · by_cases hj : i = j
    · subst hj
      rw [List.getElem?_set_self il] at es
      cases es
      rw [e]
      exact hs
    · rw [List.getElem?_set_ne hj] at es
      have q := r.sl j s es
      have np : ∀ q', isOwn ds[j]? = true → σ[j]? = some (some (.ref q')) → q' ≠ p := fun q' oj ej z => r.dj i j p hj hi oj e (by rw [ej, z])
      cases s with
      | unset => trivial
      | sh d => exact q
      | own l =>
        obtain ⟨q', ys, e3, e4, e5⟩ := q
        exact ⟨q', ys, e3, (upd_ne (np q' (by rw [es]; rfl) e3)).trans e4, e5⟩
      | ownD ks l =>
        obtain ⟨q', ys, e3, e4, e5⟩ := q
        exact ⟨q', ys, e3, (upd_ne (np q' (by rw [es]; rfl) e3)).trans e4, e5⟩
      | self ks l =>
        obtain ⟨q', dx, ys, e3, e4, e5⟩ := q
        exact ⟨q', dx, ys, e3, (upd_ne (np q' (by rw [es]; rfl) e3)).trans e4, e5⟩
      | exc er =>
        obtain ⟨e3, ⟨e4, e5, e6⟩, e7⟩ := q
        refine ⟨e3, ⟨e4, e5, ?_⟩, e7⟩
        rcases e6 with e6 | ⟨dd, ys, d1, d2, d3⟩
        · exact .inl e6
        · have nd : dd ≠ p := fun z => by
            rw [z, e2] at d2
            exact nx _ (Option.some.inj d2)
          exact .inr ⟨dd, ys, d1, (upd_ne nd).trans d2, d3⟩
  · have own : ∀ j : Nat, isOwn (ds.set i s')[j]? = true → isOwn ds[j]? = true := fun j h => by
      by_cases hj : i = j
      · subst hj
        exact hi
      · rw [List.getElem?_set_ne hj] at h
        exact h
    exact r.dj j k q hjk (own j o1) (own k o2) q1 q2
  · by_cases z : a = p
    · exact ⟨o, by rw [z, upd_same]⟩
    · rw [upd_ne z]
      exact r.zo a ha
/-- a shared thing is changed -/
theorem Rel.setG {k : Nat} {a : Addr} {o : HO} {go : GObj} (r : Rel w B A M H σ ds g) (ha : A[k]? = some a) (hg : k < g.length) (hx : ∀ fs, H a ≠ some (.xd fs)) (h : GoOk w.G A M (upd H a o) a go) : Rel w B A M (upd H a o) σ ds (g.set k go) := by
  have am : a ∈ A := List.mem_of_getElem? ha
  have ma : M a = none := r.gr.mA a am
  obtain ⟨C, eC, hC⟩ := id r.gr.aex
  refine ⟨⟨fun b u h1 h2 h3 => ?_, r.gr.mex, fun b u h1 => ?_, r.gr.mnew, r.gr.aex, r.gr.mA⟩, ⟨by rw [List.length_set]; exact r.gl.len, r.gl.nd, fun j b o' h1 h2 => ?_⟩, r.len, fun j s es => ?_, r.dj, fun b hb => ?_⟩
  · have ne : b ≠ a := fun z => by
      subst z
      rw [eC] at am
      rcases List.mem_append.mp am with z | z
      · exact h2 z
      · have := hC b z
        rw [h1] at this
        cases this
    rw [upd_ne ne]
    exact r.gr.keep b u h1 h2 h3
  · rw [upd_ne (ne_of_none h1 ma)]
    exact r.gr.mh b u h1
  · by_cases hj : k = j
    · subst hj
      rw [List.getElem?_set_self hg] at h2
      cases h2
      rw [ha] at h1
      cases h1
      exact h
    · rw [List.getElem?_set_ne hj] at h2
      have ne : b ≠ a := fun z => by
        subst z
        obtain ⟨i1, q1⟩ := List.getElem?_eq_some_iff.mp ha
        obtain ⟨i2, q2⟩ := List.getElem?_eq_some_iff.mp h1
        exact hj ((List.getElem_inj r.gl.nd).mp (q1.trans q2.symm))
      exact (r.gl.ob j b o' h1 h2).grow (fun _ _ z => z) (Same.refl M) (upd_ne ne)
  · have q := r.sl j s es
    have np : ∀ q' : Addr, q' ∉ A → q' ≠ a := fun q' h z => h (by rw [z]; exact am)
    cases s with
    | unset => trivial
    | sh d => exact q
    | own l =>
      obtain ⟨q', ys, e3, e4, e5, e6⟩ := q
      exact ⟨q', ys, e3, (upd_ne (np q' e6.2.1)).trans e4, e5, e6⟩
    | ownD ks l =>
      obtain ⟨q', ys, e3, e4, e5, e6, e7⟩ := q
      exact ⟨q', ys, e3, (upd_ne (np q' e7.2.1)).trans e4, e5, e6, e7⟩
    | self ks l =>
      obtain ⟨q', dx, ys, e3, e4, e5, e6, e7⟩ := q
      exact ⟨q', dx, ys, e3, (upd_ne (np q' e7.2.1)).trans e4, e5, e6, e7⟩
    | exc er =>
      obtain ⟨e3, ⟨e4, e5, e6⟩, e7⟩ := q
      refine ⟨e3, ⟨e4, e5, ?_⟩, e7⟩
      rcases e6 with e6 | ⟨dd, ys, d1, d2, d3⟩
      · exact .inl e6
      · have nd : dd ≠ a := fun z => hx _ (by rw [← z]; exact d2)
        exact .inr ⟨dd, ys, d1, (upd_ne nd).trans d2, d3⟩
  · by_cases z : b = a
    · exact ⟨o, by rw [z, upd_same]⟩
    · rw [upd_ne z]
      exact r.zo b hb
end

/-! ### x.append(e), x[i] = e, x one's own -/
def dApp (i : Nat) (fr : DA) : DS := fun ds g => match ds[i]? with
  | some (.own l) => (fr ds g).bind fun xs g => match xs with
    | [d] => if l.length < few then .ok (.nx (ds.set i (.own (l ++ [d])))) g else .no
    | _ => .no
  | _ => .no
section
variable {X : Cx} {w : Wc} {e : Expr} {fr : DA} {fe fi fo : DE} {pos pos' : Pos}
theorem s_append {i : Nat} (h : PE X e (tBM X.K "list" rAppend (tVar i) (aD w fr))) (hs : swapsWith e none pos.line X.env = pure false) : SD X w (.Expr e pos) (dApp i fr) :=
  ps_imp (ps_expr h hs) fun D σ H ⟨B, A, M, ds, g, rel, p⟩ => by
    unfold dApp at p
    split at p
    · rename_i l hd
      obtain ⟨q, xs, e1, e2, e3, m⟩ := rel.sl i _ hd
      refine ⟨.ref q, e1, .inl ⟨rfl, xs, SqL.of e2⟩, B, A, M, ds, g, rel, (Rs.post_bind p).imp (fun l1 g1 p1 vs A1 M1 H1 gr gl r => ?_) fun e g z => rel.es z⟩
      cases r with
      | nil => exact p1.elim
      | @cons v _ d _ rv r =>
        cases r with
        | cons _ _ => exact p1.elim
        | nil =>
          have p2 : (if l.length < few then Rs.ok (Out.nx (ds.set i (.own (l ++ [d])))) g1 else .no).Post (QS w B A M D) (ES w B) := p1
          by_cases hl : l.length < few
          · rw [if_pos hl] at p2
            have rel1 := rel.grow gr gl
            have e2' := gr.keep q _ e2 m.2.1 (fun z => nomatch z)
            refine ⟨q, xs, v, rfl, rfl, e2', Nat.lt_of_lt_of_le (by rw [e3.length]; exact hl) (few_line (Nat.le_refl _)), ?_⟩
            refine p2 A1 M1 _ σ (rel1.mut (by rw [hd]; rfl) e1 ⟨q, xs ++ [v], rfl, upd_same, (e3.grow gr).append (.cons rv .nil), m.grow e2 gr⟩ rfl) gr.inc
          · rw [if_neg hl] at p2
            exact p2.elim
    · exact p.elim
def setAtD (l : List Dat) (d : Dat) : Dat → Option (List Dat)
  | .int n => match ixN l.length n with
    | some j => some (l.set j d)
    | none => none
  | _ => none
theorem setAtD_some {l l' : List Dat} {d k : Dat} (h : setAtD l d k = some l') : ∃ n j, k = .int n ∧ ixN l.length n = some j ∧ l' = l.set j d := by
  unfold setAtD at h
  split at h
  · rename_i n
    split at h
    · rename_i j e
      cases h
      exact ⟨n, j, rfl, e, rfl⟩
    · cases h
  · cases h
def dSetO (i : Nat) (fe fi : DE) : DS := fun ds g => match ds[i]? with
  | some (.own l) => (fe ds g).bind fun d g => (fi ds g).bind fun k g => (Rs.opt (setAtD l d k) g).bind fun l' g => .ok (.nx (ds.set i (.own l'))) g
  | _ => .no
theorem setO_go {i : Nat} {D : Ends} {σ : L2.St} {H : Hp} (h : sD w (dSetO i fe fi) D σ H) : tAsg (tD w fe) (gSub (tVar i) (tD w fi) rSetL) D σ H := by
  obtain ⟨B, A, M, ds, g, rel, p⟩ := h
  unfold dSetO at p
  split at p
  · rename_i l hd
    refine ⟨B, A, M, ds, g, rel, (Rs.post_bind p).imp (fun d g1 p1 v A1 M1 H1 gr gl rv => ?_) fun e g z => rel.es z⟩
    have rel1 := rel.grow gr gl
    obtain ⟨q, xs, e1, e2, e3, m⟩ := rel1.sl i _ hd
    refine ⟨.ref q, e1, B, A1, M1, ds, g1, rel1, (Rs.post_bind p1).imp (fun k g2 p2 u A2 M2 H2 gr2 gl2 ru => ?_) fun e g z => rel1.es z⟩
    have rel2 := rel1.grow gr2 gl2
    have e2' := gr2.keep q _ e2 m.2.1 (fun z => nomatch z)
    obtain ⟨l', el, p3⟩ := post_opt (Rs.post_bind p2)
    obtain ⟨n, j, rfl, ej, rfl⟩ := setAtD_some el
    cases ru
    exact ⟨q, xs, n, j, rfl, rfl, e2', by rw [e3.length]; exact ej, p3 A2 M2 _ σ (rel2.mut (by rw [hd]; rfl) e1 ⟨q, xs.set j v, rfl, upd_same, (e3.grow gr2).set (rv.grow gr2) j, m.grow e2 gr2⟩ rfl) (gr.inc.trans gr2.inc)⟩
  · exact p.elim
/-- x[i] = e, x shared -/
def msetD (g : Gl) (o d k : Dat) : Option Gl := match o with
  | .mref m => match g[m]? with
    | some (.lst l) => match setAtD l d k with
      | some l' => some (g.set m (.lst l'))
      | none => none
    | _ => none
  | _ => none
theorem msetD_some {g g' : Gl} {o d k : Dat} (h : msetD g o d k = some g') : ∃ m l l', o = .mref m ∧ g[m]? = some (.lst l) ∧ setAtD l d k = some l' ∧ g' = g.set m (.lst l') := by
  unfold msetD at h
  split at h
  · rename_i m
    split at h
    · rename_i l hg
      cases e : setAtD l d k with
      | none => rw [e] at h; cases h
      | some l' => rw [e] at h; cases h; exact ⟨m, l, l', rfl, hg, e, rfl⟩
    · cases h
  · cases h
def dSetM (fe fo fi : DE) : DS := fun ds g => (fe ds g).bind fun d g => (fo ds g).bind fun o g => (fi ds g).bind fun k g => (Rs.opt (msetD g o d k) g).bind fun g' _ => .ok (.nx ds) g'
theorem setM_go {D : Ends} {σ : L2.St} {H : Hp} (h : sD w (dSetM fe fo fi) D σ H) : tAsg (tD w fe) (gSub (bD w fo) (tD w fi) rSetL) D σ H := by
  obtain ⟨B, A, M, ds, g, rel, p⟩ := h
  refine ⟨B, A, M, ds, g, rel, (Rs.post_bind p).imp (fun d g1 p1 v A1 M1 H1 gr gl rv => ?_) fun e g z => rel.es z⟩
  have rel1 := rel.grow gr gl
  refine ⟨B, A1, M1, ds, g1, rel1, (Rs.post_bind p1).imp (fun o g2 p2 y A2 M2 H2 gr2 gl2 ry => ?_) fun e g z => rel1.es z⟩
  have rel2 := rel1.grow gr2 gl2
  refine ⟨B, A2, M2, ds, g2, rel2, (Rs.post_bind p2).imp (fun k g3 p3 u A3 M3 H3 gr3 gl3 ru => ?_) fun e g z => rel2.es z⟩
  have rel3 := rel2.grow gr3 gl3
  obtain ⟨g', eg, p4⟩ := post_opt (Rs.post_bind p3)
  obtain ⟨m, l, l', rfl, hg, el, rfl⟩ := msetD_some eg
  obtain ⟨n, j, rfl, ej, rfl⟩ := setAtD_some el
  cases ru
  obtain ⟨a, rfl, ha⟩ := (ry.grow gr3).mref
  obtain ⟨xs, hx, rx⟩ := rel3.gl.ob m a _ ha hg
  exact ⟨a, xs, n, j, rfl, rfl, hx, by rw [rx.length]; exact ej, p4 A3 M3 _ σ (rel3.setG ha (List.getElem?_eq_some_iff.mp hg).1 (fun fs z => by rw [hx] at z; cases z) ⟨_, upd_same, rx.set ((rv.grow gr2).grow gr3) j⟩) ((gr.inc.trans gr2.inc).trans gr3.inc)⟩
end

/-! ### dicts by texts -/
def dArgs : List DE → DA
  | [] => dNil
  | f :: r => dCons f (dArgs r)
def QD (G : Gm) (A : List Addr) (M H : Hp) (Q : VK) (ks : List Str) : List Dat → Gl → Prop := fun l g' => ∀ p xs A' M' H', Grow [] A A' M M' H H' → GlOk G A' M' H' g' → H p = none → H' p = some (.dK ((ks.map Sum.inr).zip xs)) → ks.length = xs.length → M' p = none → p ∉ A' → RpA G A' M' xs l → Q (.ref p) H'
def ddD (w : Wc) (ks : List Str) (f : DA) : TE := fun σ H Q => ∃ B A M ds g, Rel w B A M H σ ds g ∧ (f ds g).Post (QD w.G A M H Q ks) (EE w A M H σ)
/-- a new dict -/
abbrev DD (X : Cx) (w : Wc) (e : Expr) (ks : List Str) (f : DA) : Prop := PE X e (ddD w ks f)
section
variable {X : Cx} {w : Wc}
theorem valV_none {xs : List V} : ∀ {ks : List Str} {k : Str}, k ∉ ks → valV ((ks.map (Sum.inr : Str → Key)).zip xs) (Sum.inr k) = none := by
  induction xs with
  | nil => intro ks k _; rw [List.zip_nil_right]; rfl
  | cons x xs ih =>
    intro ks k h
    cases ks with
    | nil => rfl
    | cons c ks =>
      rw [List.map_cons, List.zip_cons_cons, valV_neg (fun z => h (by rw [← Sum.inr.inj z]; exact List.mem_cons_self))]
      exact ih fun z => h (List.mem_cons_of_mem _ z)
theorem zip_snoc {α β : Type} : ∀ {a : List α} {b : List β} {x : α} {y : β}, a.length = b.length → (a ++ [x]).zip (b ++ [y]) = a.zip b ++ [(x, y)]
  | [], [], _, _, _ => rfl
  | a :: as, b :: bs, x, y, h => by
    rw [List.cons_append, List.cons_append, List.zip_cons_cons, List.zip_cons_cons, zip_snoc (Nat.succ.inj h), List.cons_append]
theorem merge_new : ∀ (k2 : List Str) (ys : List V) (k1 : List Str) (xs : List V), k1.length = xs.length → k2.length = ys.length → (k1 ++ k2).Nodup →
    mergeK ((k1.map (Sum.inr : Str → Key)).zip xs) ((k2.map Sum.inr).zip ys) = ((k1 ++ k2).map Sum.inr).zip (xs ++ ys)
  | [], [], k1, xs, _, _, _ => by rw [List.append_nil, List.append_nil]; rfl
  | k :: k2, y :: ys, k1, xs, h1, h2, nd => by
    have nk : k ∉ k1 := fun z => by
      rw [List.nodup_append] at nd
      exact nd.2.2 k z k List.mem_cons_self rfl
    have e1 : putK ((k1.map (Sum.inr : Str → Key)).zip xs) (Sum.inr k) y = ((k1 ++ [k]).map Sum.inr).zip (xs ++ [y]) := by
      rw [putK_new y (valV_none nk), List.map_append, List.map_cons, List.map_nil, zip_snoc (by rw [List.length_map]; exact h1)]
    show mergeK (putK ((k1.map (Sum.inr : Str → Key)).zip xs) (Sum.inr k) y) ((k2.map Sum.inr).zip ys) = _
    rw [e1, merge_new k2 ys (k1 ++ [k]) (xs ++ [y]) (by simp [h1]) (Nat.succ.inj h2) (by rw [List.append_assoc]; exact nd), List.append_assoc, List.append_assoc]
    rfl
theorem pairs_go {fs : List DE} : ∀ {ks : List Str} {σ : L2.St} {H : Hp} {R : List (V × V) → Hp → Prop}, ks.length = fs.length →
    (∃ B A M ds g, Rel w B A M H σ ds g ∧ (dArgs fs ds g).Post (fun l g' => ∀ vs A' M' H', vs.length = fs.length → Grow [] A A' M M' H H' → GlOk w.G A' M' H' g' → RpA w.G A' M' vs l → R ((ks.map V.str).zip vs) H') (EE w A M H σ)) →
    tPairs ((ks.zip fs).map fun p => (tC (.str p.1), tD w p.2)) σ H R := by
  induction fs with
  | nil =>
    intro ks σ H R hl h
    obtain ⟨B, A, M, ds, g, rel, p⟩ := h
    cases ks with
    | nil => exact p [] A M H rfl rel.wd.refl rel.gl .nil
    | cons _ _ => cases hl
  | cons f fs ih =>
    intro ks σ H R hl h
    obtain ⟨B, A, M, ds, g, rel, p⟩ := h
    cases ks with
    | nil => cases hl
    | cons k ks =>
      refine ⟨B, A, M, ds, g, rel, (Rs.post_bind p).imp (fun d g1 p1 v A1 M1 H1 gr gl rv => ?_) fun _ _ z => z⟩
      refine ih (Nat.succ.inj hl) ⟨B, A1, M1, ds, g1, rel.grow gr gl, (Rs.post_bind p1).imp (fun l g2 p2 vs A2 M2 H2 hv gr2 gl2 r2 => ?_) fun e g z => EE.on z gr gl⟩
      exact p2 (v :: vs) A2 M2 H2 (congrArg Nat.succ hv) (gr.trans gr2 gl (fun _ z => nomatch z)) gl2 (.cons (rv.grow gr2) r2)
theorem map_key {ks : List Str} {vs : List V} : ((ks.map V.str).zip vs) = (((ks.map (Sum.inr : Str → Key)).zip vs).map fun kv => (kV kv.1, kv.2)) := by
  induction ks generalizing vs with
  | nil => rfl
  | cons k ks ih =>
    cases vs with
    | nil => rfl
    | cons v vs => rw [List.map_cons, List.map_cons, List.zip_cons_cons, List.zip_cons_cons, List.map_cons, ih]; rfl
theorem dd_disp {pos : Pos} {keys : List (Option Expr)} {values : List Expr} {ks : List Str} {fs : List DE} (h : PPs X pos keys values ((ks.zip fs).map fun p => (tC (.str p.1), tD w p.2))) (hl : ks.length = fs.length) (nd : ks.Nodup) (hk : ks.length ≤ 15)
    (hall : keys.all (·.isSome) = true) (hlk : keys.length = values.length) (h0 : keys ≠ []) (h15 : keys.length ≤ 15) : DD X w (.Dict keys values pos) ks (dArgs fs) :=
  pe_imp (pe_disp h hall hlk h0 h15) fun σ H Q ⟨B, A, M, ds, g, rel, p⟩ q hq => by
    have gn := Grow.newH (o := .dK []) rel.wd hq
    have gl1 := rel.gl.newH (o := .dK []) hq
    refine pairs_go hl ⟨B, A, M, ds, g, rel.grow gn gl1, p.imp (fun l g1 p1 vs A1 M1 H1 hv gr gl r => ?_) fun e g z => EE.on z gn gl1⟩
    have nA : q ∉ A := new_notA rel.gl hq
    have hq1 : H1 q = some (.dK []) := gr.keep q _ upd_same nA (fun z => nomatch z)
    have m1 : M1 q = none := by
      cases e : M1 q with
      | none => rfl
      | some u =>
        rcases gr.mnew q u e with z | z
        · rw [new_notM rel.wd hq] at z
          cases z
        · rw [upd_same] at z
          cases z
    have n1 : q ∉ A1 := gr.notA upd_same nA
    have el : ks.length = vs.length := hl.trans hv.symm
    have em : mergeK [] ((ks.map (Sum.inr : Str → Key)).zip vs) = (ks.map Sum.inr).zip vs := merge_new ks vs [] [] rfl el nd
    refine ⟨hq1, (ks.map Sum.inr).zip vs, map_key, by rw [List.length_zip, List.length_map]; omega, ?_⟩
    rw [em]
    refine p1 q vs A1 M1 _ (((gn.trans gr gl1 (fun _ z => nomatch z))).updH hq m1) (gl.stay (Same.refl M1) fun a ha => upd_ne fun z => n1 (by rw [← z]; exact ha)) hq upd_same el m1 n1 r
/-- x = {..} -/
def dOwnD (i : Nat) (ks : List Str) (f : DA) : DS := fun ds g => (f ds g).bind fun l g => .ok (.nx (ds.set i (.ownD ks l))) g
theorem ownD_go {i : Nat} {ks : List Str} {f : DA} {D : Ends} {σ : L2.St} {H : Hp} (h : sD w (dOwnD i ks f) D σ H) : tAsg (ddD w ks f) (gName i) D σ H := by
  obtain ⟨B, A, M, ds, g, rel, p⟩ := h
  refine ⟨B, A, M, ds, g, rel, (Rs.post_bind p).imp (fun l g1 p1 q xs A1 M1 H1 gr gl hn hp el mn na r => ?_) fun e g z => rel.es z⟩
  have bn : B.H q = none := by
    refine rel.gr.back (fun a ha => ?_) rel.zo hn
    obtain ⟨C, ea, _⟩ := id rel.gr.aex
    exact rel.gl.there a (by rw [ea]; exact List.mem_append_left _ ha)
  refine p1 A1 M1 H1 _ ((rel.grow gr gl).set ⟨q, xs, rfl, hp, el, r, mn, na, bn⟩ fun _ j q' e o2 e2 => ?_) gr.inc
  cases e
  obtain ⟨p', o, e3, e4, _⟩ := own_ref rel o2
  rw [e2] at e3
  cases e3
  rw [hn] at e4
  cases e4
theorem s_ownD {i : Nat} {x : Str} {pos pos' : Pos} {e : Expr} {ks : List Str} {f : DA} (hN : X.N.Nodup) (hi : X.N[i]? = some x) (hx : Loc X.env.scope x) (he : DD X w e ks f) (hs : swapsWith e (some (.Name x pos')) pos.line X.env = pure false) (hf : X.fn x = true ∨ X.env.scope.names.lookup x = some .local) :
    SD X w (.Assign [.Name x pos'] e pos) (dOwnD i ks f) := ps_imp (ps_set hN hi hx he hs hf) fun D σ H h => ownD_go h
/-- a dict that is kept -/
def dFzD (ks : List Str) (f : DA) : DE := fun ds g => (f ds g).bind fun l g => .ok (.dct ks l) g
theorem DD.k {e : Expr} {ks : List Str} {f : DA} (h : DD X w e ks f) : KD X w e (dFzD ks f) := pe_imp h fun σ H Q ⟨B, A, M, ds, g, r, p⟩ => ⟨B, A, M, ds, g, r, (Rs.post_bind p).imp (fun l g1 q p xs A' M' H' h gl n ep el mn na rp => by
    have hm : Same M' (upd M' p (.dK ((ks.map Sum.inr).zip xs))) := fun a u ha => by
      rw [upd_ne (ne_of_none ha mn)]
      exact ha
    refine q (.ref p) A' (upd M' p (.dK ((ks.map Sum.inr).zip xs))) H' ⟨h.keep, h.mex.trans hm, fun a u ha => ?_, fun a u ha => ?_, h.aex, fun a ha => ?_⟩ (gl.stay hm fun _ _ => rfl) (.dct upd_same el (rp.mono (fun _ _ z => z) hm))
    · by_cases e : a = p
      · subst e
        rw [upd_same] at ha
        rw [ep]
        exact ha
      · rw [upd_ne e] at ha
        exact h.mh a u ha
    · by_cases e : a = p
      · subst e
        exact .inr n
      · rw [upd_ne e] at ha
        exact h.mnew a u ha
    · have e : a ≠ p := fun e => na (by rw [← e]; exact ha)
      rw [upd_ne e]
      exact h.mA a ha) fun _ _ z => z⟩
/-- d[k], k a text -/
def oGet (d e : Dat) : Option Dat := match d, e with
  | .dct ks l, .str k => (ks.zip l).lookup k
  | _, _ => none
theorem valV_lookup {G : Gm} {A : List Addr} {M : Hp} {k : Str} {d : Dat} : ∀ {ks : List Str} {xs : List V} {l : List Dat}, RpA G A M xs l → (ks.zip l).lookup k = some d → ∃ v, valV ((ks.map (Sum.inr : Str → Key)).zip xs) (Sum.inr k) = some v ∧ Rp G A M v d
  | [], xs, l, _, h => by cases h
  | c :: ks, _, _, .nil, h => by cases h
  | c :: ks, x :: xs, y :: l, .cons r0 r, h => by
    rw [List.zip_cons_cons, List.lookup_cons] at h
    rw [List.map_cons, List.zip_cons_cons]
    cases e : k == c with
    | true =>
      rw [e] at h
      cases h
      exact ⟨x, valV_pos (by rw [beq_iff_eq.mp e]), r0⟩
    | false =>
      rw [e] at h
      rw [valV_neg (fun z => by rw [Sum.inr.inj z] at e; simp at e)]
      exact valV_lookup r h
theorem k_dget {o i : Expr} {fo fi : DE} {pos : Pos} (hu : X.A.units + 1 < cLine) (ho : BD X w o fo) (hi : BD X w i fi) (hs : NoSl i) : KD X w (.Subscript o i pos) (d2 oGet fo fi) :=
  pe_imp (pe_dget hu ho hi hs) fun σ H Q h => bin2 (r := fun x y H Q => ∃ a v, x = .ref a ∧ DGet H a y (some v) ∧ Q v H) (P := fun A M H => QE w.G A M H Q) h (fun _ _ _ _ _ _ _ _ _ q g l => QE.on q g l) fun A M H g x y d e z wd gl rx ry eo q => by
    unfold oGet at eo
    split at eo
    · rename_i ks l k
      obtain ⟨a, xs, rfl, ha, _, el, r⟩ := rx.dct wd
      obtain ⟨v, hv, rv⟩ := valV_lookup r eo
      have ey := ry.str
      subst ey
      refine ⟨a, v, rfl, ?_, q v A M H wd.refl gl rv⟩
      rw [← hv]
      exact DGet.k (k := Sum.inr k) ha
    · cases eo
/-- d[k] = e, d one's own -/
def putD (ks : List Str) (l : List Dat) (k : Str) (d : Dat) : List Str × List Dat := if k ∈ ks then (ks, (ks.zip l).map fun p => if p.1 = k then d else p.2) else (ks ++ [k], l ++ [d])
def dPutO (i : Nat) (k : Str) (fe : DE) : DS := fun ds g => match ds[i]? with
  | some (.ownD ks l) => if ks.length < 1000 then (fe ds g).bind fun d g => .ok (.nx (ds.set i (.ownD (putD ks l k d).1 (putD ks l k d).2))) g else .no
  | _ => .no
theorem any_key {xs : List V} : ∀ {ks : List Str} {k : Str}, ks.length = xs.length → (((ks.map (Sum.inr : Str → Key)).zip xs).any fun kv => decide (kv.1 = Sum.inr k)) = decide (k ∈ ks) := by
  induction xs with
  | nil =>
    intro ks k h
    cases ks with
    | nil => simp
    | cons _ _ => cases h
  | cons x xs ih =>
    intro ks k h
    cases ks with
    | nil => cases h
    | cons c ks =>
      rw [List.map_cons, List.zip_cons_cons, List.any_cons, ih (Nat.succ.inj h)]
      by_cases e : c = k
      · subst e
        simp
      · have e' : ¬ k = c := fun z => e z.symm
        simp [e, e']
theorem put_map {G : Gm} {A : List Addr} {M : Hp} {k : Str} {v : V} {d : Dat} (rv : Rp G A M v d) : ∀ {ks : List Str} {xs : List V} {l : List Dat}, ks.length = xs.length → RpA G A M xs l →
    ∃ ys, ((ks.map (Sum.inr : Str → Key)).zip xs).map (fun kv => if kv.1 = Sum.inr k then (kv.1, v) else kv) = (ks.map Sum.inr).zip ys ∧ ks.length = ys.length ∧ RpA G A M ys ((ks.zip l).map fun p => if p.1 = k then d else p.2)
  | [], [], _, _, .nil => ⟨[], rfl, rfl, .nil⟩
  | c :: ks, x :: xs, y :: l, h, .cons r0 r => by
    obtain ⟨ys, e1, e2, e3⟩ := put_map (k := k) rv (ks := ks) (Nat.succ.inj h) r
    by_cases e : c = k
    · subst e
      refine ⟨v :: ys, ?_, congrArg Nat.succ e2, ?_⟩
      · rw [List.map_cons, List.zip_cons_cons, List.map_cons, e1, if_pos rfl]
        rfl
      · rw [List.zip_cons_cons, List.map_cons, if_pos rfl]
        exact .cons rv e3
    · refine ⟨x :: ys, ?_, congrArg Nat.succ e2, ?_⟩
      · rw [List.map_cons, List.zip_cons_cons, List.map_cons, e1, if_neg (fun z => e (Sum.inr.inj z))]
        rfl
      · rw [List.zip_cons_cons, List.map_cons, if_neg e]
        exact .cons r0 e3
theorem s_dput {i : Nat} {k : Str} {j : Nat} {o value : Expr} {fe : DE} {pk pos pos' : Pos} (hu : X.A.units + 1 < cLine) (ho : PE X o (tVar i)) (hv : KD X w value fe) (hs : swapsWith value (some (.Subscript o (.Constant (.str k) j pk) pos')) pos.line X.env = pure false) :
    SD X w (.Assign [.Subscript o (.Constant (.str k) j pk) pos'] value pos) (dPutO i k fe) :=
  ps_imp (ps_dput hu ho pe_str hv hs) fun D σ H ⟨B, A, M, ds, g, rel, p⟩ => by
    unfold dPutO at p
    split at p
    · rename_i ks l hd
      by_cases hk : ks.length < 1000
      · rw [if_pos hk] at p
        refine ⟨B, A, M, ds, g, rel, (Rs.post_bind p).imp (fun d g1 p1 v A1 M1 H1 gr gl rv => ?_) fun e g z => rel.es z⟩
        have rel1 := rel.grow gr gl
        obtain ⟨q, xs, e1, e2, el, e3, m⟩ := rel1.sl i _ hd
        have hlen : (((ks.map (Sum.inr : Str → Key)).zip xs)).length < sizeLine := by
          rw [List.length_zip, List.length_map]
          have h1 : (1000 : Nat) < sizeLine := by rw [sizeLine_eq]; decide
          omega
        refine ⟨.ref q, e1, q, _, rfl, DPut.k (k := Sum.inr k) e2 hlen, ?_⟩
        have key : ∃ ys, putK ((ks.map (Sum.inr : Str → Key)).zip xs) (Sum.inr k) v = (((putD ks l k d).1).map Sum.inr).zip ys ∧ (putD ks l k d).1.length = ys.length ∧ RpA w.G A1 M1 ys (putD ks l k d).2 := by
          unfold putD
          by_cases hm : k ∈ ks
          · rw [if_pos hm]
            unfold putK
            rw [any_key el, if_pos (decide_eq_true hm)]
            exact put_map rv el e3
          · rw [if_neg hm, putK_new v (valV_none hm)]
            refine ⟨xs ++ [v], ?_, by simp [el], e3.append (.cons rv .nil)⟩
            rw [List.map_append, List.map_cons, List.map_nil, zip_snoc (by rw [List.length_map]; exact el)]
        obtain ⟨ys, k1, k2, k3⟩ := key
        rw [k1]
        exact p1 A1 M1 _ σ (rel1.mut (by rw [hd]; rfl) e1 ⟨q, ys, rfl, upd_same, k2, k3, m⟩ rfl) gr.inc
      · rw [if_neg hk] at p
        exact p.elim
    · exact p.elim
end
end DL

/-! DL, part 15: objects in the making; rules made by a call. -/
namespace DL
open PySem L2

theorem putF_last {f : Str} {v : V} {xs : List V} : ∀ {ks : List Str}, f ∉ ks → ks.length = xs.length → putF f v (ks.zip xs) = (ks ++ [f]).zip (xs ++ [v]) := by
  induction xs with
  | nil =>
    intro ks h e
    cases ks with
    | nil => rfl
    | cons _ _ => cases e
  | cons x xs ih =>
    intro ks h e
    cases ks with
    | nil => cases e
    | cons k ks =>
      show (if k = f then (k, v) :: ks.zip xs else (k, x) :: putF f v (ks.zip xs)) = _
      rw [if_neg (fun z => h (by rw [z]; exact List.mem_cons_self)), ih (fun z => h (List.mem_cons_of_mem _ z)) (Nat.succ.inj e)]
      rfl
def dFld (i : Nat) (f : Str) (fe : DE) : DS := fun ds g => match ds[i]? with
  | some (.self ks l) => if f ∉ ks ∧ ks.length < 900 then (fe ds g).bind fun d g => .ok (.nx (ds.set i (.self (ks ++ [f]) (l ++ [d])))) g else .no
  | _ => .no
section
variable {X : Cx} {w : Wc}
theorem s_fld {i : Nat} {f : Str} {o value : Expr} {fe : DE} {pos pos' : Pos} (c : Cls X.K w.sC) (hn : NoAttr X.K w.sC f) (ho : PE X o (tVar i)) (hv : KD X w value fe) (hs : swapsWith value (some (.Attribute o f pos')) pos.line X.env = pure false) :
    SD X w (.Assign [.Attribute o f pos'] value pos) (dFld i f fe) :=
  ps_imp (ps_fld ho hv hs) fun D σ H ⟨B, A, M, ds, g, rel, p⟩ => by
    unfold dFld at p
    split at p
    · rename_i ks l hd
      by_cases hk : f ∉ ks ∧ ks.length < 900
      · rw [if_pos hk] at p
        refine ⟨B, A, M, ds, g, rel, (Rs.post_bind p).imp (fun d g1 p1 v A1 M1 H1 gr gl rv => ?_) fun e g z => rel.es z⟩
        have rel1 := rel.grow gr gl
        obtain ⟨q, dx, xs, e1, e2, el, e3, m⟩ := rel1.sl i _ hd
        have e4 := putF_last (v := v) hk.1 el
        refine ⟨.ref q, e1, q, w.sC, dx, ks.zip xs, rfl, e2, c, hn, by rw [List.length_zip]; omega, ?_⟩
        rw [e4]
        exact p1 A1 M1 _ σ (rel1.mut (by rw [hd]; rfl) e1 ⟨q, dx, xs ++ [v], rfl, upd_same, by simp [el], e3.append (.cons rv .nil), m⟩ rfl) gr.inc
      · rw [if_neg hk] at p
        exact p.elim
    · exact p.elim
end
/-! ### __init__ -/
abbrev In := List Dat → Gl → Rs (List Str × List Dat)
def selfOf : Out → Option (List Str × List Dat)
  | .nx ds => match ds[0]? with
    | some (Slot.self ks l) => some (ks, l)
    | _ => none
  | _ => none
def mkI (n m : Nat) (body : DS) : In := fun l g => if l.length = n then (body (Slot.self [] [] :: (l.map Slot.sh ++ List.replicate (m - (n + 1)) Slot.unset)) g).bind (fun o g => Rs.opt (selfOf o) g) else .no
theorem mkI_len {n m : Nat} {body : DS} : ∀ l g, l.length ≠ n → mkI n m body l g = .no := fun l g h => if_neg h
def QN (G : Gm) (C : Addr) (A : List Addr) (M H : Hp) (x : Addr) (Q : VK) : List Str × List Dat → Gl → Prop := fun r g' => ∀ A' M' H' dx xs, Grow [x] A A' M M' H H' → GlOk G A' M' H' g' → H' x = some (.ins C dx (r.1.zip xs)) → r.1.length = xs.length → RpA G A' M' xs r.2 → M' x = none → x ∉ A' → Q .non H'
def EN (G : Gm) (A : List Addr) (M H : Hp) (x : Addr) (E : XK) : Er → Gl → Prop := fun e g' => ∀ cls dd A' M' H', Grow [x] A A' M M' H H' → GlOk G A' M' H' g' → ErOk G A' M' H' e cls dd → E cls dd H'
def spN (G : Gm) (C : Addr) (n : Nat) (F : In) : Sp := fun vs H Q E => vs.length = n + 1 ∧ ∃ x dx ws A M ds g, vs = .ref x :: ws ∧ H x = some (.ins C dx []) ∧ M x = none ∧ x ∉ A ∧ Wd A M H ∧ GlOk G A M H g ∧ RpA G A M ws ds ∧ (F ds g).Post (QN G C A M H x Q) (EN G A M H x E)
abbrev wcN (G : Gm) (C : Addr) (E : XK) : Wc := ⟨G, 0, .none, none, C, fun cls d _ H => E cls d H⟩
theorem rel_startN {w : Wc} {A : List Addr} {M H : Hp} {x dx : Addr} {ws : List V} {l : List Dat} {g : Gl} (N : List Str) (wd : Wd A M H) (gl : GlOk w.G A M H g) (r : RpA w.G A M ws l) (hx : H x = some (.ins w.sC dx [])) (mx : M x = none) (ax : x ∉ A) :
    Rel w ⟨[x], A, M, H⟩ A M H (L2.start N (.ref x :: ws)) (Slot.self [] [] :: (l.map Slot.sh ++ List.replicate (N.length - (l.length + 1)) Slot.unset)) g := by
  have hl := r.length
  refine ⟨⟨fun _ _ h _ _ => h, Same.refl M, wd.mh, fun _ _ h => .inl h, ⟨[], by simp, fun _ h => nomatch h⟩, wd.mA⟩, gl, ?_, fun i s e => ?_, fun i j p hij o1 o2 e1 e2 => ?_, fun a h => ?_⟩
  · unfold L2.start
    rw [List.length_append, List.length_map, List.length_replicate, List.length_cons, List.length_cons, List.length_append, List.length_map, List.length_replicate, hl]
    omega
  · unfold L2.start
    cases i with
    | zero =>
      cases e
      exact ⟨x, dx, [], rfl, hx, rfl, .nil, mx, ax, List.mem_singleton.mpr rfl⟩
    | succ i =>
      rw [List.getElem?_cons_succ] at e
      rw [List.map_cons, List.cons_append, List.getElem?_cons_succ]
      by_cases h : i < l.length
      · rw [List.getElem?_append_left (by rw [List.length_map]; exact h), List.getElem?_map] at e
        rw [List.getElem?_append_left (by rw [List.length_map, hl]; exact h), List.getElem?_map]
        cases el : l[i]? with
        | none => rw [el] at e; cases e
        | some d =>
          rw [el] at e
          cases e
          obtain ⟨v, e1, e2⟩ := r.get el
          rw [e1]
          exact ⟨v, rfl, e2⟩
      · rw [List.getElem?_append_right (by rw [List.length_map]; omega), List.getElem?_replicate] at e
        split at e
        · cases e
          trivial
        · cases e
  · cases i with
    | zero =>
      cases j with
      | zero => exact hij rfl
      | succ j =>
        rw [List.getElem?_cons_succ, isOwn_sh] at o2
        cases o2
    | succ i =>
      rw [List.getElem?_cons_succ, isOwn_sh] at o1
      cases o1
  · have e : a = x := List.mem_singleton.mp h
    rw [e]
    exact ⟨_, hx⟩
theorem init_ok {P : Program} {w : World} {mg : Str → Option Value} {base : Heap} {G : Gm} {C : Addr} {x qual : Str} {st : Stmt} {f : Addr} {fd : FuncData} {N ps : List Str} {k n m : Nat} {body : DS} (F : Fun G.K x qual st f fd) (S : FnScope N ps (defScope st)) (hN : N.length = m) (hP : ps.length = n + 1)
    (hb : ∀ (cdv : Value) (A : Around) (outer : List Env) (s : Shared) (H : Hp) (E : XK), Room k (A.deeper (PyProof.Rows.envOfC qual (defScope st) s.heap.objs.size f cdv)) →
      SsD (cxOf (L2.CX P w) P w G.K mg base N qual (defScope st) f cdv A outer s H E) (wcN G C E) (defBody st) body) :
    FnOk P w G.K mg base (L2.CX P w) (k + 1) f fd ps (spN G C n (mkI n m body)) := by
  refine F.okX S (fun vs H Q E h => h.1.trans hP.symm) fun cdv A outer s H vs Q E hr h => ?_
  obtain ⟨hl, y, dx, ws, A0, M, l, g, ev, hy, my, ay, wd, gl, r, p⟩ := h
  refine ⟨_, hb cdv A outer s H E hr, ?_⟩
  subst ev
  have hl' : l.length = n := by
    have := r.length
    rw [List.length_cons] at hl
    omega
  unfold mkI at p
  rw [if_pos hl'] at p
  have rs := rel_startN (w := wcN G C E) N wd gl r hy my ay
  rw [hN, hl'] at rs
  refine ⟨⟨[y], A0, M, H⟩, A0, M, _, g, rs, (Rs.post_bind p).imp (fun o g1 p1 => ?_) fun e g1 p1 cls dd A' M' H' σ' gr gl er => p1 cls dd A' M' H' gr gl er⟩
  obtain ⟨res, er, p2⟩ := post_opt p1
  unfold selfOf at er
  split at er
  · rename_i ds
    intro A' M' H' σ' r _
    split at er
    · rename_i ks l2 e
      cases er
      obtain ⟨q, dx', xs, e1, e2, el, e3, m⟩ := r.sl 0 _ e
      have eq : q = y := List.mem_singleton.mp m.2.2
      subst eq
      exact p2 A' M' H' dx' xs r.gr r.gl e2 el e3 m.1 m.2.1
    · cases er
  · cases er

/-! ### C(..) -/
section
variable {X : Cx} {CX : CXT} {k : Nat} {f C : Addr} {fd : FuncData} {ps : List Str} {sp : Sp} {E : L2.St → XK} {x : Str} {p pos : Pos} {e : Expr} {es : List Expr} {t : TA}
def tMakeS (C : Addr) (sp : Sp) (E : L2.St → XK) (t : TA) : TE := fun σ H Q => t σ H fun vs H1 => ∀ x dx, H1 x = none → H1 dx = none → dx ≠ x → sp (.ref x :: vs) (upd (upd H1 dx (.own x)) x (.ins C dx [])) (fun v H2 => v = .non ∧ Q (.ref x) H2) (E σ)
/-- a class with an __init__, called where what is raised is wished for at the slots -/
theorem pe_makeS (Mk' : Mk X.K C f) (F : FnOk X.prog X.w X.K X.mg X.base CX k f fd ps sp) (hr : Room (k + 1) X.A) (hg : L2.Gl X x) (hm : X.mg x = some (.ref C)) (hb : Binds X.K fd ps []) (hx : ∀ σ, PassesAt CX X σ (E σ))
    (ha : PA X (e :: es) t) (hdb : (x == ("__debug__" : Str)) = false) (he : starEach (e :: es) X.env = (false, eval e X.env) :: starEach es X.env) (hpl : (backTo pos (starEach es X.env)).any (·.1) = false) : PE X (.Call (.Name x p) (e :: es) [] pos) (tMakeS C sp E t) := by
  constructor
  intro pins s σ H Q I h
  apply PySem.wpAny_Call_Name_kw (ld_glob I hg hm ?_ hdb)
  refine PySem.W.callWith_K (h₀ := X.base) I.ok.mod.kin Mk'.kp (thn (ha.run pos pins s σ H _ I h) ?_) he hpl
  rintro us s1 ⟨vs, H1, I1, r, q⟩
  refine ⟨I1.kIn, ?_⟩
  change wpAny _ _ (call (.ref C) us) _ _ _
  have hq := q (s1.heap.objs.size + 1) s1.heap.objs.size (I1.hok.fresh (Nat.le_succ _)) (I1.hok.fresh (Nat.le_refl _)) (Nat.ne_of_lt (Nat.lt_succ_self _))
  have I2 := Inv.made (C := C) I1
  have r2 : Vals (V.ref (s1.heap.objs.size + 1) :: vs) (Value.ref (s1.heap.objs.size + 1) :: us) := .cons rfl r
  have hl : (Value.ref (s1.heap.objs.size + 1) :: us ++ []).length = ps.length := by
    rw [List.append_nil, ← r2.length]
    exact F.len _ _ _ _ hq
  have bd := hb _ (Value.ref (s1.heap.objs.size + 1) :: us) I2.kIn hl
  rw [List.append_nil] at bd
  refine wpAny_call (make_map (f := f) I1.kIn Mk'.makes Mk'.init (beq_iff_eq.mp Mk'.fn) (codeAny_mono (F.run _ X.stack _ _ ⟨Value.ref (s1.heap.objs.size + 1) :: us, []⟩ (Value.ref (s1.heap.objs.size + 1) :: us) _ _ (E σ) (hr.make C us []) (I2.env0.make C us []) bd r2 hq) ?_))
  intro res s' hq'
  cases res with
  | error er => exact hx σ pins _ _ er s' I2 hq'
  | ok fl =>
    cases fl with
    | next => exact False.elim hq'
    | brk => exact False.elim hq'
    | cont => exact False.elim hq'
    | ret u =>
      obtain ⟨v, H', I3, rv, ev, q3⟩ := I2.after hq'
      subst ev
      exact ⟨rv, ⟨V.ref (s1.heap.objs.size + 1), H', I3, rfl, q3⟩⟩
end
/-- the class of rules as it stands -/
structure CalR (P : Program) (w : World) (mg : Str → Option Value) (base : Heap) (G : Gm) (k : Nat) (x : Str) (n : Nat) (F : In) : Prop where
  ok : ∃ (f : Addr) (fd : FuncData) (ps : List Str), Mk G.K G.rC f ∧ FnOk P w G.K mg base (L2.CX P w) k f fd ps (spN G G.rC n F) ∧ mg x = some (.ref G.rC) ∧ Binds G.K fd ps []
  len : ∀ ds g, ds.length ≠ n → F ds g = .no
def rulOf : List Str × List Dat → Option Dat
  | (ks, [a, b, c]) => if ks = (["begun", "later", "part"] : List Str) then some (.rul a b c) else none
  | _ => none
def dRule (F : In) (fa : DA) : DE := fun ds g => (fa ds g).bind fun l g => (F l g).bind fun r g => Rs.opt (rulOf r) g
section
variable {X : Cx} {w : Wc} {e : Expr} {es : List Expr} {x : Str} {p pos : Pos} {k j n : Nat} {F : In} {fr : DA}
theorem made_grow {A A' : List Addr} {M M' H H' : Hp} {x dx : Addr} {C : Addr} {g : Gl} {G : Gm} (wd : Wd A M H) (gl : GlOk G A M H g) (hx : H x = none) (hd : H dx = none) (h : Grow [x] A A' M M' (upd (upd H dx (.own x)) x (.ins C dx [])) H') : Grow [] A A' M M' H H' := by
  have back : ∀ a, (upd (upd H dx (.own x)) x (.ins C dx [])) a = none → H a = none := fun a ha => by
    by_cases e : a = x
    · rw [e]; exact hx
    · rw [upd_ne e] at ha
      by_cases e2 : a = dx
      · rw [e2]; exact hd
      · rw [upd_ne e2] at ha
        exact ha
  refine ⟨fun a o e1 e2 _ => ?_, h.mex, h.mh, fun a o e1 => (h.mnew a o e1).imp id (back a), ?_, h.mA⟩
  · have n1 : a ≠ x := ne_of_none e1 hx
    refine h.keep a o ?_ e2 fun z => n1 (List.mem_singleton.mp z)
    rw [upd_ne n1, upd_ne (ne_of_none e1 hd)]
    exact e1
  · obtain ⟨B, e1, e2⟩ := h.aex
    exact ⟨B, e1, fun a ha => back a (e2 a ha)⟩
theorem k_rule (c : CalR X.prog X.w X.mg X.base w.G k x n F) (hK : X.K = w.G.K) (tk : Takes X w.W) (hr : Room j X.A) (hj : k + 1 ≤ j) (hg : L2.Gl X x) (ha : AD X w (e :: es) fr)
    (hdb : (x == ("__debug__" : Str)) = false) (he : starEach (e :: es) X.env = (false, eval e X.env) :: starEach es X.env) (hpl : (backTo pos (starEach es X.env)).any (·.1) = false) : KD X w (.Call (.Name x p) (e :: es) [] pos) (dRule F fr) := by
  obtain ⟨f, fd, ps, hM, hF, hm, hb⟩ := c.ok
  rw [← hK] at hF hb hM
  refine pe_imp (pe_makeS hM hF (hr.mono hj) hg hm hb (fun σ => passAt tk σ) ha hdb he hpl) fun σ H Q ⟨B, A, M, ds, g, rel, p⟩ => ⟨B, A, M, ds, g, rel, (Rs.post_bind p).imp (fun l g1 p1 vs A1 M1 H1 gr gl r => ?_) fun _ _ z => z⟩
  intro y dx hy hd hn
  have hl : l.length = n := by
    by_cases h : l.length = n
    · exact h
    · rw [c.len l g1 h] at p1
      exact p1.elim
  have w1 := gr.wd
  have gd := Grow.newH (o := .own y) w1 hd
  have gld := gl.newH (o := .own y) hd
  have hy1 : (upd H1 dx (.own y)) y = none := by rw [upd_ne hn.symm]; exact hy
  have gy := Grow.newH (o := .ins w.G.rC dx []) gd.wd hy1
  have gly := gld.newH (o := .ins w.G.rC dx []) hy1
  refine ⟨by rw [List.length_cons, r.length, hl], y, dx, vs, A1, M1, l, g1, rfl, upd_same, new_notM w1 hy, new_notA gl hy, gy.wd, gly, r, (Rs.post_bind p1).imp (fun res g2 p2 A2 M2 H2 dx' xs gr2 gl2 ex el rx my ay => ⟨rfl, ?_⟩) fun e g2 z cls dd A2 M2 H2 gr2 gl2 er => ?_⟩
  · obtain ⟨z, ez, qz⟩ := post_opt p2
    have gg := made_grow w1 gl hy hd gr2
    unfold rulOf at ez
    split at ez
    · rename_i ks a b c
      split at ez
      · rename_i hk
        cases ez
        cases rx with
        | @cons v1 _ _ _ r1 rx =>
          cases rx with
          | @cons v2 _ _ _ r2 rx =>
            cases rx with
            | @cons v3 _ _ _ r3 rx =>
              cases rx
              have hm : Same M2 (upd M2 y (.ins w.G.rC dx' (ks.zip [v1, v2, v3]))) := fun a u ha => by
                rw [upd_ne (ne_of_none ha my)]
                exact ha
              have g3 : Grow [] A1 A2 M1 (upd M2 y (.ins w.G.rC dx' (ks.zip [v1, v2, v3]))) H1 H2 := by
                refine ⟨gg.keep, gg.mex.trans hm, fun a u ha => ?_, fun a u ha => ?_, gg.aex, fun a ha => ?_⟩
                · by_cases e : a = y
                  · subst e
                    rw [upd_same] at ha
                    rw [ex]
                    exact ha
                  · rw [upd_ne e] at ha
                    exact gg.mh a u ha
                · by_cases e : a = y
                  · subst e
                    exact .inr hy
                  · rw [upd_ne e] at ha
                    exact gg.mnew a u ha
                · have e : a ≠ y := fun e => ay (by rw [← e]; exact ha)
                  rw [upd_ne e]
                  exact gg.mA a ha
              subst hk
              exact qz (.ref y) A2 _ H2 (gr.trans g3 gl (fun _ z => nomatch z)) (gl2.stay hm fun _ _ => rfl) (.rul upd_same (r1.mono (fun _ _ z => z) hm) (r2.mono (fun _ _ z => z) hm) (r3.mono (fun _ _ z => z) hm))
      · cases ez
    · cases ez
  · exact z cls dd A2 M2 H2 (gr.trans (made_grow w1 gl hy hd gr2) gl (fun _ z => nomatch z)) gl2 er
end
end DL

/-! DL, part 16: constants of the module, slices, parallel stores; what stands in every def's body. -/
namespace DL
open PySem L2

/-- a name of the module that holds data -/
structure Cst (G : Gm) (mg : Str → Option Value) (x : Str) (d : Dat) : Prop where
  ok : ∃ (v : V) (u : Value), mg x = some u ∧ RelV v u ∧ ∀ A M, Rp G A M v d
section
variable {X : Cx} {w : Wc} {pos : Pos} {x : Str}
theorem k_glob {d : Dat} (c : Cst w.G X.mg x d) (hg : L2.Gl X x) (hdb : (x == ("__debug__" : Str)) = false := by decide) : KD X w (.Name x pos) (dC d) := by
  obtain ⟨v, u, hm, r, hr⟩ := c.ok
  exact k_c (pe_glob hg hm r hdb) hr
end
theorem takesF {P : Program} {w : World} {K : PySem.W.Frag} {mg : Str → Option Value} {base : Heap} {N : List Str} {qual : Str} {sc : Scope} {f : Addr} {cd : Value} {A : Around} {outer : List Env} {s : Shared} {H : Hp} {E : XK} :
    Takes (cxOf (L2.CX P w) P w K mg base N qual sc f cd A outer s H E) (fun cls d _ H => E cls d H) := takes_of rfl rfl rfl rfl
theorem passF {P : Program} {w : World} {K : PySem.W.Frag} {mg : Str → Option Value} {base : Heap} {N : List Str} {qual : Str} {sc : Scope} {f : Addr} {cd : Value} {A : Around} {outer : List Env} {s : Shared} {H : Hp} {E : XK} :
    PassesOwn (model (cxOf (L2.CX P w) P w K mg base N qual sc f cd A outer s H E).prog (cxOf (L2.CX P w) P w K mg base N qual sc f cd A outer s H E).w) (cxOf (L2.CX P w) P w K mg base N qual sc f cd A outer s H E).A
      (cxOf (L2.CX P w) P w K mg base N qual sc f cd A outer s H E).env (cxOf (L2.CX P w) P w K mg base N qual sc f cd A outer s H E).xe := passes_of rfl
theorem takesN {X : Cx} : Takes X (fun _ _ _ _ => False) := takes_none5

/-! ### slices -/
def cutD (l : List Dat) (lo hi : Option Int) : List Dat := (l.drop (HT.sIx l.length 0 lo)).take (HT.sIx l.length l.length hi - HT.sIx l.length 0 lo)
theorem RpA.cut {G : Gm} {A : List Addr} {M : Hp} {xs : List V} {l : List Dat} (r : RpA G A M xs l) (lo hi : Option Int) : RpA G A M (cutV xs lo hi) (cutD l lo hi) := by
  unfold cutV cutD
  rw [r.length]
  exact (r.drop _).take _
abbrev DO := DEnv → Gl → Rs (Option Int)
def QO (G : Gm) (A : List Addr) (M H : Hp) (Q : Option Int → Hp → Prop) : Option Int → Gl → Prop := fun b g' => ∀ A' M' H', Grow [] A A' M M' H H' → GlOk G A' M' H' g' → Q b H'
def oD (w : Wc) (f : DO) : TO := fun σ H Q => ∃ B A M ds g, Rel w B A M H σ ds g ∧ (f ds g).Post (QO w.G A M H Q) (EE w A M H σ)
abbrev OD (X : Cx) (w : Wc) (e : Option Expr) (f : DO) : Prop := PO X e (oD w f)
def dNoP : DO := fun _ g => .ok none g
def dPart (f : DE) : DO := fun ds g => (f ds g).bind fun d g => match d with
  | .int i => .ok (some i) g
  | _ => .no
section
variable {X : Cx} {w : Wc} {e : Expr} {fe : DE} {fl fh : DO} {lo hi : Option Expr} {pos p2 : Pos}
theorem po_imp {e : Option Expr} {t t' : TO} (h : PO X e t) (hi : ∀ σ H Q, t' σ H Q → t σ H Q) : PO X e t' := ⟨fun pins s σ H Q I q => h.run pins s σ H Q I (hi σ H Q q)⟩
theorem o_none : OD X w none dNoP := po_imp po_none fun σ H Q ⟨B, A, M, ds, g, rel, p⟩ => p A M H rel.wd.refl rel.gl
theorem o_some (h : BD X w e fe) : OD X w (some e) (dPart fe) := po_imp (po_some h) fun σ H Q ⟨B, A, M, ds, g, rel, p⟩ => ⟨B, A, M, ds, g, rel, (Rs.post_bind p).imp (fun d g1 p1 v A1 M1 H1 gr gl r => by
  cases d with
  | int i => exact ⟨i, r.int, p1 A1 M1 H1 gr gl⟩
  | _ => exact p1.elim) fun _ _ z => z⟩
def dSl {α : Type} (o : Gl → Dat → Option Int → Option Int → Option α) (fe : DE) (fl fh : DO) : DEnv → Gl → Rs α := fun ds g => (fe ds g).bind fun d g => (fl ds g).bind fun l g => (fh ds g).bind fun u g => Rs.opt (o g d l u) g
theorem sl_go {α : Type} {o : Gl → Dat → Option Int → Option Int → Option α} {r : V → Option Int → Option Int → Hp → VK → Prop} {σ : L2.St} {H : Hp} {Q : VK} {P : List Addr → Hp → Hp → α → Gl → Prop}
    (h : ∃ B A M ds g, Rel w B A M H σ ds g ∧ (dSl o fe fl fh ds g).Post (P A M H) (EE w A M H σ))
    (hon : ∀ A M H A1 M1 H1 g1 z g, P A M H z g → Grow [] A A1 M M1 H H1 → GlOk w.G A1 M1 H1 g1 → P A1 M1 H1 z g)
    (k : ∀ A M H g x d l u z, Wd A M H → GlOk w.G A M H g → Rb w.G A M H x d → o g d l u = some z → P A M H z g → r x l u H Q) : tSl r (bD w fe) (oD w fl) (oD w fh) σ H Q := by
  obtain ⟨B, A, M, ds, g, rel, p⟩ := h
  refine ⟨B, A, M, ds, g, rel, (Rs.post_bind p).imp (fun d g1 p1 x A1 M1 H1 gr1 gl1 rx => ?_) fun _ _ z => z⟩
  have rel1 := rel.grow gr1 gl1
  refine ⟨B, A1, M1, ds, g1, rel1, (Rs.post_bind p1).imp (fun l g2 p2 A2 M2 H2 gr2 gl2 => ?_) fun e g z => EE.on z gr1 gl1⟩
  have gr12 := gr1.trans gr2 gl1 (fun _ h => nomatch h)
  refine ⟨B, A2, M2, ds, g2, rel1.grow gr2 gl2, (Rs.post_bind p2).imp (fun u g3 p3 A3 M3 H3 gr3 gl3 => ?_) fun e g z => EE.on z gr12 gl2⟩
  obtain ⟨z, ez, qz⟩ := post_opt p3
  exact k A3 M3 H3 g3 x d l u z gr3.wd gl3 ((rx.grow gr2).grow gr3) ez (hon _ _ _ _ _ _ _ _ _ qz (gr12.trans gr3 gl2 (fun _ h => nomatch h)) gl3)
def oSlL (g : Gl) (d : Dat) (lo hi : Option Int) : Option (List Dat) := match lview g d with
  | some l => some (cutD l lo hi)
  | none => none
theorem f_slice (hK : X.K = w.G.K) (he : BD X w e fe) (hl : OD X w lo fl) (hh : OD X w hi fh) : FD X w (.Subscript e (.Slice lo hi none p2) pos) (dSl oSlL fe fl fh) :=
  pe_imp (pe_slice sl_list he hl hh) fun σ H Q h => sl_go (P := fun A M H => QF w.G A M H Q) h (fun _ _ _ _ _ _ _ _ _ q g l => QF.on q g l) fun A M H g x d l u z wd gl rx ez q => by
    unfold oSlL at ez
    cases el : lview g d with
    | none => rw [el] at ez; cases ez
    | some l0 =>
      rw [el] at ez
      cases ez
      obtain ⟨a, xs, rfl, hx, r⟩ := rx.lview wd gl el
      exact ⟨a, xs, rfl, SqL.of hx, fun p hp => q.at wd gl hp (r.cut _ _)⟩
end

/-! ### two, three names at once -/
section
variable {X : Cx} {w : Wc} {a b c : Expr} {fe : DE} {ff fr : DA} {px py pz pt pos : Pos} {kt k2 : Nat} {pt2 : Pos} {i j k : Nat} {x y z : Str}
end
end DL

/-! DL, part 17: new shared lists. -/
namespace DL
open PySem L2

def dMk (f : DA) : DE := fun ds g => (f ds g).bind fun l g => .ok (.mref g.length) (g ++ [.lst l])
section
variable {G : Gm} {w : Wc} {A A' : List Addr} {M M' H H' : Hp} {g : Gl}
/-- a thing of one's own becomes a shared one -/
theorem Grow.share {p : Addr} (h : Grow [] A A' M M' H H') (n : H p = none) (mn : M' p = none) : Grow [] A (A' ++ [p]) M M' H H' := by
  obtain ⟨C, e, hC⟩ := id h.aex
  refine ⟨h.keep, h.mex, h.mh, h.mnew, ⟨C ++ [p], by rw [e, List.append_assoc], fun a ha => ?_⟩, fun a ha => ?_⟩
  · rcases List.mem_append.mp ha with q | q
    · exact hC a q
    · rw [List.mem_singleton.mp q]
      exact n
  · rcases List.mem_append.mp ha with q | q
    · exact h.mA a q
    · rw [List.mem_singleton.mp q]
      exact mn
theorem GlOk.share {p : Addr} {o : GObj} (gl : GlOk G A' M' H' g) (na : p ∉ A') (ok : GoOk G A' M' H' p o) : GlOk G (A' ++ [p]) M' H' (g ++ [o]) := by
  have hA : ∀ (k : Nat) (b : Addr), A'[k]? = some b → (A' ++ [p])[k]? = some b := fun k b h => by
    rw [List.getElem?_append_left (List.getElem?_eq_some_iff.mp h).1]
    exact h
  refine ⟨by rw [List.length_append, List.length_append, gl.len]; rfl, ?_, fun k a o' h1 h2 => ?_⟩
  · rw [List.nodup_append]
    refine ⟨gl.nd, List.nodup_cons.mpr ⟨(fun h => nomatch h), List.nodup_nil⟩, fun a ha b hb e => ?_⟩
    rw [List.mem_singleton.mp hb] at e
    exact na (by rw [← e]; exact ha)
  · by_cases hk : k < A'.length
    · rw [List.getElem?_append_left hk] at h1
      rw [List.getElem?_append_left (by rw [← gl.len]; exact hk)] at h2
      exact (gl.ob k a o' h1 h2).grow hA (Same.refl M') rfl
    · have e : k = A'.length := by
        have := (List.getElem?_eq_some_iff.mp h1).1
        rw [List.length_append] at this
        simp at this
        omega
      subst e
      rw [List.getElem?_append_right (Nat.le_refl _), Nat.sub_self] at h1
      rw [gl.len, List.getElem?_append_right (Nat.le_refl _), Nat.sub_self] at h2
      cases h1
      cases h2
      exact ok.grow hA (Same.refl M') rfl
end
section
variable {X : Cx} {w : Wc} {e : Expr} {ff : DA}
theorem FD.m (h : FD X w e ff) : KD X w e (dMk ff) := pe_imp h fun σ H Q ⟨B, A, M, ds, g, r, p⟩ => ⟨B, A, M, ds, g, r, (Rs.post_bind p).imp (fun l g1 q p xs A' M' H' h gl n ep mn na rp => by
  refine q (.ref p) (A' ++ [p]) M' H' (h.share n mn) (gl.share na ⟨xs, ep, rp⟩) (.mref ?_)
  rw [← gl.len, List.getElem?_append_right (Nat.le_refl _), Nat.sub_self]
  rfl) fun _ _ z => z⟩
end
end DL

/-! DL, part 18: what the top has written, the end. -/
namespace DL
open PySem L2 PyProof.Rows

def DefAt (K : PySem.W.Frag) (mg : Str → Option Value) (x : Str) (st : Stmt) (ps : List Str) : Prop := ∃ (f : Addr) (fd : FuncData), Fun K x x st f fd ∧ mg x = some (.ref f) ∧ Binds K fd ps []
section
variable {K : PySem.W.Frag} {mg : Str → Option Value} {h : Heap}
theorem def_at {x : Str} {st : Stmt} {ps : List Str} {f : Addr} {oc : Value} {od an : Option Addr} {osl : Array (Option Value)} {kV doc pm cdv ct : Value} (X : K.In h) (G : h.Ns mainGlobals mg) (a : PySem.W.nsIn K mainGlobals x = some (some (.ref f)))
    (l : K.lookup f = some ⟨oc, od, .func (PySem.W.fnOf x x (defArgs st) (defBody st) (defScope st) .none kV doc pm an cdv ct), osl⟩) (c : PySem.W.codeIn K cdv x = true) (k : PySem.W.keepIn K (.ref f) = true)
    (hb : ∀ (kV doc pm : Value) (an : Option Addr) (cdv ct : Value) (us : List Value), us.length = ps.length → bindArgs (PySem.W.fnOf x x (defArgs st) (defBody st) (defScope st) .none kV doc pm an cdv ct) ⟨us, []⟩ = pure (ps.zip us)) : DefAt K mg x st ps :=
  ⟨f, _, fun_mk l c k, PySem.W.mg_of X G a, (fun_mk l c k).binds hb⟩
/-- a method of a class -/
def MetAt (K : PySem.W.Frag) (C : Addr) (x qual : Str) (st : Stmt) (ps : List Str) : Prop := ∃ (f : Addr) (fd : FuncData), Fun K x qual st f fd ∧ Meth K C x f ∧ Binds K fd ps []
theorem met_at {C : Addr} {x qual : Str} {st : Stmt} {ps : List Str} {f : Addr} {oc : Value} {od an : Option Addr} {osl : Array (Option Value)} {kV doc pm cdv ct : Value} (a : PySem.W.findIn K (.ref C) x = some (some (.ref f))) (i : PySem.W.isFn K (.ref f) = true)
    (l : K.lookup f = some ⟨oc, od, .func (PySem.W.fnOf x qual (defArgs st) (defBody st) (defScope st) .none kV doc pm an cdv ct), osl⟩) (c : PySem.W.codeIn K cdv qual = true) (k : PySem.W.keepIn K (.ref f) = true)
    (hb : ∀ (kV doc pm : Value) (an : Option Addr) (cdv ct : Value) (us : List Value), us.length = ps.length → bindArgs (PySem.W.fnOf x qual (defArgs st) (defBody st) (defScope st) .none kV doc pm an cdv ct) ⟨us, []⟩ = pure (ps.zip us)) : MetAt K C x qual st ps :=
  ⟨f, _, fun_mk l c k, ⟨a, i, k⟩, (fun_mk l c k).binds hb⟩
/-- a class: its name, what lets one make it and read its fields -/
structure ClsAt (K : PySem.W.Frag) (mg : Str → Option Value) (x : Str) (C : Addr) : Prop where
  g : mg x = some (.ref C)
  c : Cls K C
  mks : PySem.W.makesIn K C = true
  kp : PySem.W.keepIn K (.ref C) = true
theorem cls_at {x : Str} {C : Addr} (X : K.In h) (G : h.Ns mainGlobals mg) (a : PySem.W.nsIn K mainGlobals x = some (some (.ref C))) (pg : PySem.W.plainGet K C Str.empty = true) (hd : PySem.W.hasDictIn K C = true) (po : PySem.W.plainOver K C = true)
    (sa : PySem.W.findIn K (.ref C) "__setattr__" = some (some (.builtin "object.__setattr__"))) (mk : PySem.W.makesIn K C = true) (kc : PySem.W.keepIn K (.ref C) = true) : ClsAt K mg x C := ⟨PySem.W.mg_of X G a, ⟨pg, hd, po, sa⟩, mk, kc⟩
/-- an error's class -/
structure ExcAt (K : PySem.W.Frag) (mg : Str → Option Value) (x : Str) (C : Addr) : Prop where
  g : mg x = some (.ref C)
  ox : OexC K C
  hd : PySem.W.hasDictIn K C = true
theorem exc_at {x q : Str} {C : Addr} {nm N bs bm sn sub ab col dd k0 k1 k2 k3 k5} (X : K.In h) (G : h.Ns mainGlobals mg) (a : PySem.W.nsIn K mainGlobals x = some (some (.ref C))) (l : K.lookup C = some (excClassObj nm q C N bs bm true sn sub ab col dd k0 k1 k2 k3 k5 "ValueError.__new__"))
    (r : PySem.HandSPX.refsVE bm = true) (sa : PySem.W.findIn K (.ref C) "__setattr__" = some (some (.builtin "object.__setattr__"))) (ex : PySem.W.subIn K (.ref C) (.type "BaseException") = some true) (ty : PySem.W.typeIn K (.ref C) = some (.type "type")) (kc : PySem.W.keepIn K (.ref C) = true) (ic : PySem.W.hasDictIn K C = true) : ExcAt K mg x C :=
  ⟨PySem.W.mg_of X G a, ⟨⟨nm, q, N, bs, bm, sn, sub, ab, col, dd, k0, k1, k2, k3, k5, l, r⟩, sa, ex, ty, kc⟩, ic⟩
theorem base_at {y : Str} {S : Addr} (X : K.In h) (G : h.Ns mainGlobals mg) (a : PySem.W.nsIn K mainGlobals y = some (some (.ref S))) (ga : PySem.W.specialIn K (.ref S) "__getattribute__" = some (some (.builtin "type.__getattribute__"))) (rd : PySem.W.readsIn K S (.type "type") = true)
    (at_ : PySem.W.findCls K (.ref S) (.type "type") "__init__" = some (.val (.builtin "ValueError.__init__"))) : BaseX K mg y S := ⟨PySem.W.mg_of X G a, ga, rd, at_⟩
end

/-! ### constants -/
def CstK (K : PySem.W.Frag) (mg : Str → Option Value) (x : Str) (d : Dat) : Prop := ∃ (v : V) (u : Value), mg x = some u ∧ RelV v u ∧ ∀ (G : Gm) (A : List Addr) (M : Hp), G.K = K → Rp G A M v d
theorem CstK.c {G : Gm} {mg : Str → Option Value} {x : Str} {d : Dat} (c : CstK G.K mg x d) : Cst G mg x d := by
  obtain ⟨v, u, h1, h2, h3⟩ := c
  exact ⟨v, u, h1, h2, fun A M => h3 G A M rfl⟩
section
variable {K : PySem.W.Frag} {mg : Str → Option Value} {h : Heap} {x : Str}
theorem cst_int {i : Int} {t : Nat} (X : K.In h) (G : h.Ns mainGlobals mg) (a : PySem.W.nsIn K mainGlobals x = some (some (.int i t))) : CstK K mg x (.int i) := ⟨.int i, _, PySem.W.mg_of X G a, ⟨t, rfl⟩, fun _ _ _ _ => .int i⟩
theorem cst_str {i : Str} {t : Nat} (X : K.In h) (G : h.Ns mainGlobals mg) (a : PySem.W.nsIn K mainGlobals x = some (some (.str i t))) : CstK K mg x (.str i) := ⟨.str i, _, PySem.W.mg_of X G a, ⟨t, rfl⟩, fun _ _ _ _ => .str i⟩
theorem tup_rp {a : Addr} {od : Option Addr} {its : Array Value} {n : Nat} {sl : Array (Option Value)} {xs : List V} {l : List Dat} (lk : K.lookup a = some ⟨.type "tuple", od, .seq its n, sl⟩) (hs : its.size ≤ sizeLine) (v : Vals xs its.toList) (r : ∀ (G : Gm) (A : List Addr) (M : Hp), G.K = K → RpA G A M xs l) :
    ∀ (G : Gm) (A : List Addr) (M : Hp), G.K = K → Rp G A M (.ref a) (.tup l) := fun G A M e => .tup (.inr ⟨_, its, n, by rw [e]; exact lk, rfl, rfl, hs, v⟩) (r G A M e)
theorem cst_ref {a : Addr} {d : Dat} (X : K.In h) (G : h.Ns mainGlobals mg) (e : PySem.W.nsIn K mainGlobals x = some (some (.ref a))) (r : ∀ (G : Gm) (A : List Addr) (M : Hp), G.K = K → Rp G A M (.ref a) d) : CstK K mg x d := ⟨.ref a, _, PySem.W.mg_of X G e, rfl, r⟩
theorem RpA.strs {G : Gm} {A : List Addr} {M : Hp} : ∀ (l : List Str), RpA G A M (l.map V.str) (l.map Dat.str)
  | [] => .nil
  | a :: l => .cons (.str a) (RpA.strs l)
theorem cst_ints {a : Addr} {od : Option Addr} {its : Array Value} {n : Nat} {sl : Array (Option Value)} (l : List Int) (X : K.In h) (G : h.Ns mainGlobals mg) (e : PySem.W.nsIn K mainGlobals x = some (some (.ref a))) (lk : K.lookup a = some ⟨.type "tuple", od, .seq its n, sl⟩) (hs : its.size ≤ sizeLine)
    (v : Vals (l.map V.int) its.toList) : CstK K mg x (.tup (l.map Dat.int)) := cst_ref X G e (tup_rp lk hs v fun _ _ _ _ => .ints l)
theorem cst_strs {a : Addr} {od : Option Addr} {its : Array Value} {n : Nat} {sl : Array (Option Value)} (l : List Str) (X : K.In h) (G : h.Ns mainGlobals mg) (e : PySem.W.nsIn K mainGlobals x = some (some (.ref a))) (lk : K.lookup a = some ⟨.type "tuple", od, .seq its n, sl⟩) (hs : its.size ≤ sizeLine)
    (v : Vals (l.map V.str) its.toList) : CstK K mg x (.tup (l.map Dat.str)) := cst_ref X G e (tup_rp lk hs v fun _ _ _ _ => .strs l)
end

/-! ### the law -/
def spLaw (K : PySem.W.Frag) : Sp := fun vs H Q _ => ∃ (a : Addr) (ns : List Int), vs = [.ref a] ∧ ns.length ≤ 63 ∧ (∀ z ∈ ns, Builtin.Int.intBits z ≤ 1048576) ∧ SqL K H a (ns.map V.int) ∧ ∀ H', Q (.bl true) H'
def Keeps (F : Fn) : Prop := ∀ ns : List Int, ns.length ≤ 63 → (∀ z ∈ ns, Builtin.Int.intBits z ≤ 1048576) → (F [.scr ns] []).Post (fun d _ => d = .bl true) (fun _ _ => False)
theorem law_fn {P : Program} {w : World} {mg : Str → Option Value} {base : Heap} {G : Gm} {k : Nat} {f : Addr} {fd : FuncData} {x : Str} {F : Fn} (h : FnOk P w G.K mg base (L2.CX P w) k f fd [x] (spF G 1 F)) (hF : Keeps F) : FnOk P w G.K mg base (L2.CX P w) k f fd [x] (spLaw G.K) :=
  h.imp fun vs H Q E ⟨a, ns, e, hl, hb, hS, q⟩ => by
    subst e
    refine ⟨rfl, [], H, [.scr ns], [], ⟨Same.refl H, fun a h => nomatch h⟩, ⟨rfl, List.nodup_nil, fun k a o h => by simp at h⟩, .cons (.scr hS) .nil, (hF ns hl hb).imp (fun d g e v A' M' H' _ _ r => ?_) fun _ _ z => z.elim⟩
    subst e
    cases r
    exact q H'
/-- the law's def: where it stands, how it is called -/
def LawAt (K : PySem.W.Frag) (fa : Addr) (st : Stmt) : Prop := ∃ fd : FuncData, Fun K "law" "law" st fa fd ∧ ∀ (s : Shared) (v : Value), BindsTo s fd ⟨[v], []⟩ [("_law_script", v)]
theorem law_at {K : PySem.W.Frag} {mg : Str → Option Value} {h : Heap} {st : Stmt} {fa f : Addr} {oc : Value} {od an : Option Addr} {osl : Array (Option Value)} {kV doc pm cdv ct : Value} (X : K.In h) (G : h.Ns mainGlobals mg) (hfa : mg "law" = some (.ref fa)) (a : PySem.W.nsIn K mainGlobals "law" = some (some (.ref f)))
    (l : K.lookup f = some ⟨oc, od, .func (PySem.W.fnOf "law" "law" (defArgs st) (defBody st) (defScope st) .none kV doc pm an cdv ct), osl⟩) (c : PySem.W.codeIn K cdv "law" = true) (k : PySem.W.keepIn K (.ref f) = true)
    (hb : ∀ (kV doc pm : Value) (an : Option Addr) (cdv ct : Value) (v : Value), bindArgs (PySem.W.fnOf "law" "law" (defArgs st) (defBody st) (defScope st) .none kV doc pm an cdv ct) ⟨[v], []⟩ = pure [(("_law_script" : Str), v)]) : LawAt K fa st := by
  have e := hfa.symm.trans (PySem.W.mg_of X G a)
  cases e
  exact ⟨_, fun_mk l c k, fun s v => .of_eq (hb _ _ _ _ _ _ v)⟩
theorem walk {l : PySem.W.OpenLaw} {q : Program} {loose : List Str} {XP : (Str → Option Value) → Heap → Prop} {YP : World → Heap → Prop} {d : DefRec} {K : Params → PySem.W.Frag} {k : Nat} (hr : Room k callerA) (hn : l.most = some 63) (hdf : d.params.defaults = [])
    (hY : ∀ (w : World) (h : Heap), YP w h → (K w.params).In h)
    (F : ∀ (w : World) (mg : Str → Option Value) (fa : Addr) (h : Heap), (K w.params).In h → h.Ns mainGlobals mg → mg d.name = some (.ref fa) →
      ∃ fd : FuncData, (∀ (s : Shared) (u : Value), BindsTo s fd ⟨[u], []⟩ [("_law_script", u)]) ∧ ∀ base : Heap, FnOk l.prog w (K w.params) mg base (L2.CX l.prog w) k fa fd ["_law_script"] (spLaw (K w.params))) :
    PySem.W.WalkO q loose XP YP l.row.toRowW d [] (fun f vs => PySem.call f vs) :=
  L2.walk_ofB (n := 63) (k := k) (x := "_law_script") (CX := fun w => L2.CX l.prog w) (sp := fun w => spLaw (K w.params)) hn (by decide) hdf hr hY (fun w mg fa h a b c => let ⟨fd, h1, h2⟩ := F w mg fa h a b c; ⟨fd, h1, fun base _ _ => h2 base⟩) (fun _ _ a ns hl hb _ hS => ⟨a, ns, rfl, hl, hb, hS, fun _ => rfl⟩)
    fun _ _ _ _ _ ⟨_, _, _, _, _, _, _, _, _, _, _, _, z⟩ => z
end DL

/-! DL, part 19: rows for working out what a def makes of given data. -/
namespace DL
open PySem L2

section
variable {α β : Type}
/-- a step behind another -/
def ks (r : Rs α) (f : α → Gl → Rs β) : Rs β := r.bind f
def kSeq (f2 : DS) (r : Rs Out) : Rs Out := r.bind fun o g => match o with
  | .nx ds' => f2 ds' g
  | o => .ok o g
def kAsg (i : Nat) (ds : DEnv) (r : Rs Dat) : Rs Out := r.bind fun d g => .ok (.nx (ds.set i (.sh d))) g
def kOwn (i : Nat) (ds : DEnv) (r : Rs (List Dat)) : Rs Out := r.bind fun d g => .ok (.nx (ds.set i (.own d))) g
def kOwnD (i : Nat) (ks : List Str) (ds : DEnv) (r : Rs (List Dat)) : Rs Out := r.bind fun d g => .ok (.nx (ds.set i (.ownD ks d))) g
def kDrop (ds : DEnv) (r : Rs Dat) : Rs Out := r.bind fun _ g => .ok (.nx ds) g
def kRet (r : Rs Dat) : Rs Out := r.bind fun d g => .ok (.rt d) g
def kRetO (s : Option Slot) (g : Gl) : Rs Out := match s with
  | some (.sh d) => .ok (.rt d) g
  | some (.own l) => .ok (.rt (.lst l)) g
  | some (.ownD ks l) => .ok (.rt (.dct ks l)) g
  | _ => .no
def kIf (a b : DEnv → Gl → Rs α) (ds : DEnv) (r : Rs Bool) : Rs α := r.bind fun c s => if c = true then a ds s else b ds s
def kPar (i j : Nat) (ds : DEnv) (r : Rs (List Dat)) : Rs Out := r.bind fun l g => match l with
  | [a, b] => .ok (.nx ((ds.set i (.sh a)).set j (.sh b))) g
  | _ => .no
def kPar3 (i j k : Nat) (ds : DEnv) (r : Rs (List Dat)) : Rs Out := r.bind fun l g => match l with
  | [a, b, c] => .ok (.nx (((ds.set i (.sh a)).set j (.sh b)).set k (.sh c))) g
  | _ => .no
def kParF (i j : Nat) (fe : DE) (ds : DEnv) (r : Rs (List Dat)) : Rs Out := r.bind fun l g => (fe ds g).bind fun d g => .ok (.nx ((ds.set i (.own l)).set j (.sh d))) g
def kParF2 (i j : Nat) (l : List Dat) (ds : DEnv) (r : Rs Dat) : Rs Out := r.bind fun d g => .ok (.nx ((ds.set i (.own l)).set j (.sh d))) g
def kParG (i j : Nat) (f : DA) (ds : DEnv) (r : Rs Dat) : Rs Out := r.bind fun d g => (f ds g).bind fun l g => .ok (.nx ((ds.set j (.own l)).set i (.sh d))) g
def kParG2 (i j : Nat) (d : Dat) (ds : DEnv) (r : Rs (List Dat)) : Rs Out := r.bind fun l g => .ok (.nx ((ds.set j (.own l)).set i (.sh d))) g
def kVar (s : Option Slot) (g : Gl) : Rs Dat := match s with
  | some (.sh d) => .ok d g
  | _ => .no
def kBor (s : Option Slot) (g : Gl) : Rs Dat := match s with
  | some (.sh d) => .ok d g
  | some (.own l) => .ok (.lst l) g
  | some (.ownD ks l) => .ok (.dct ks l) g
  | _ => .no
def k1 (o : Dat → Option α) (r : Rs Dat) : Rs α := r.bind fun x g => Rs.opt (o x) g
def k2 (o : Dat → Dat → Option α) (fb : DE) (ds : DEnv) (r : Rs Dat) : Rs α := r.bind fun x g => (fb ds g).bind fun y g => Rs.opt (o x y) g
def k2b (o : Dat → Option α) (r : Rs Dat) : Rs α := r.bind fun y g => Rs.opt (o y) g
def k3 (o o' : Dat → Dat → Option Bool) (fb fc : DE) (ds : DEnv) (r : Rs Dat) : Rs Bool := r.bind fun x g => (fb ds g).bind fun y g => (Rs.opt (o x y) g).bind fun k g => if k = true then (fc ds g).bind fun z g => Rs.opt (o' y z) g else .ok false g
def k3b (o o' : Dat → Dat → Option Bool) (x : Dat) (fc : DE) (ds : DEnv) (r : Rs Dat) : Rs Bool := r.bind fun y g => (Rs.opt (o x y) g).bind fun k g => if k = true then (fc ds g).bind fun z g => Rs.opt (o' y z) g else .ok false g
def k3c (o' : Dat → Dat → Option Bool) (y : Dat) (fc : DE) (ds : DEnv) (r : Rs Bool) : Rs Bool := r.bind fun k g => if k = true then (fc ds g).bind fun z g => Rs.opt (o' y z) g else .ok false g
def kB (r : Rs Bool) : Rs Dat := r.bind fun b g => .ok (.bl b) g
def kT (r : Rs Dat) : Rs Bool := r.bind fun d g => match d with
  | .bl b => .ok b g
  | _ => .no
def kAnd (h : DT) (ds : DEnv) (r : Rs Bool) : Rs Bool := r.bind fun c s => if c = true then h ds s else .ok false s
def kOr (h : DT) (ds : DEnv) (r : Rs Bool) : Rs Bool := r.bind fun c s => if c = true then .ok true s else h ds s
def kNot (r : Rs Bool) : Rs Bool := r.bind fun c s => .ok (!c) s
def kAndV (h : DE) (ds : DEnv) (r : Rs Dat) : Rs Dat := r.bind fun d s => match d with
  | .bl true => h ds s
  | .bl false => .ok (.bl false) s
  | _ => .no
def kOrV (h : DE) (ds : DEnv) (r : Rs Dat) : Rs Dat := r.bind fun d s => match d with
  | .bl true => .ok (.bl true) s
  | .bl false => h ds s
  | _ => .no
def kNotV (r : Rs Dat) : Rs Dat := r.bind fun d s => match d with
  | .bl b => .ok (.bl (!b)) s
  | _ => .no
def kCons (f : DA) (ds : DEnv) (r : Rs Dat) : Rs (List Dat) := r.bind fun d g => (f ds g).bind fun l g => .ok (d :: l) g
def kCons2 (d : Dat) (r : Rs (List Dat)) : Rs (List Dat) := r.bind fun l g => .ok (d :: l) g
def kTup (r : Rs (List Dat)) : Rs Dat := r.bind fun l g => if l.length ≤ few then .ok (.tup l) g else .no
def kLst (r : Rs (List Dat)) : Rs (List Dat) := r.bind fun l g => if l.length ≤ few then .ok l g else .no
def kFz (r : Rs (List Dat)) : Rs Dat := r.bind fun l g => .ok (.lst l) g
def kFzD (ks : List Str) (r : Rs (List Dat)) : Rs Dat := r.bind fun l g => .ok (.dct ks l) g
def kMk (r : Rs (List Dat)) : Rs Dat := r.bind fun l g => .ok (.mref g.length) (g ++ [.lst l])
def kIx (fb : DE) (ds : DEnv) (r : Rs Dat) : Rs Dat := r.bind fun x g => (fb ds g).bind fun y g => Rs.opt (oIx g x y) g
def kIx2 (x : Dat) (r : Rs Dat) : Rs Dat := r.bind fun y g => Rs.opt (oIx g x y) g
def kCall (F : Fn) (r : Rs (List Dat)) : Rs Dat := r.bind fun l g => F l g
def kRule (F : In) (r : Rs (List Dat)) : Rs Dat := r.bind fun l g => (F l g).bind fun r g => Rs.opt (rulOf r) g
def kRule2 (r : Rs (List Str × List Dat)) : Rs Dat := r.bind fun r g => Rs.opt (rulOf r) g
def kCB (o : Gl → List Dat → Option α) (r : Rs (List Dat)) : Rs α := r.bind fun l g => Rs.opt (o g l) g
def kOpA (o : List Dat → Option α) (r : Rs (List Dat)) : Rs α := r.bind fun l g => Rs.opt (o l) g
def kSq (r : Rs Dat) : Rs (List Dat) := r.bind fun d g => match d with
  | .lst l => .ok l g
  | .tup l => .ok l g
  | _ => .no
def kFor (tf : Dat → DEnv → Option DEnv) (b : DS) (ds : DEnv) (r : Rs (List Dat)) : Rs Out := r.bind fun l g => forGo tf b l ds g
def kLc (vs : List Nat) (tf : Dat → DEnv → Option DEnv) (ft : DT) (fe : DE) (ds : DEnv) (r : Rs (List Dat)) : Rs (List Dat) := r.bind fun l g => if l.length ≤ few then lcGo tf ft fe (dwipe ds vs) l g else .no
def kApp (i : Nat) (ds : DEnv) (l : List Dat) (r : Rs (List Dat)) : Rs Out := r.bind fun xs g => match xs with
  | [d] => if l.length < few then .ok (.nx (ds.set i (.own (l ++ [d])))) g else .no
  | _ => .no
def kAppS (i : Nat) (ds : DEnv) (s : Option Slot) (fr : DA) (g : Gl) : Rs Out := match s with
  | some (.own l) => kApp i ds l (fr ds g)
  | _ => .no
def kSetM (fo fi : DE) (ds : DEnv) (r : Rs Dat) : Rs Out := r.bind fun d g => (fo ds g).bind fun o g => (fi ds g).bind fun k g => (Rs.opt (msetD g o d k) g).bind fun g' _ => .ok (.nx ds) g'
def kSetM2 (d : Dat) (fi : DE) (ds : DEnv) (r : Rs Dat) : Rs Out := r.bind fun o g => (fi ds g).bind fun k g => (Rs.opt (msetD g o d k) g).bind fun g' _ => .ok (.nx ds) g'
def kSetM3 (d o : Dat) (ds : DEnv) (r : Rs Dat) : Rs Out := r.bind fun k g => (Rs.opt (msetD g o d k) g).bind fun g' _ => .ok (.nx ds) g'
def kSetG (ds : DEnv) (o : Option Gl) : Rs Out := match o with
  | some g => .ok (.nx ds) g
  | none => .no
def kSetO (i : Nat) (fi : DE) (ds : DEnv) (l : List Dat) (r : Rs Dat) : Rs Out := r.bind fun d g => (fi ds g).bind fun k g => (Rs.opt (setAtD l d k) g).bind fun l' g => .ok (.nx (ds.set i (.own l'))) g
def kSetO2 (i : Nat) (d : Dat) (ds : DEnv) (l : List Dat) (r : Rs Dat) : Rs Out := r.bind fun k g => (Rs.opt (setAtD l d k) g).bind fun l' g => .ok (.nx (ds.set i (.own l'))) g
def kSetO3 (i : Nat) (ds : DEnv) (r : Rs (List Dat)) : Rs Out := r.bind fun l' g => .ok (.nx (ds.set i (.own l'))) g
def kSetOS (i : Nat) (ds : DEnv) (s : Option Slot) (fe fi : DE) (g : Gl) : Rs Out := match s with
  | some (.own l) => kSetO i fi ds l (fe ds g)
  | _ => .no
def kPut (i : Nat) (ds : DEnv) (ks : List Str) (l : List Dat) (k : Str) (r : Rs Dat) : Rs Out := r.bind fun d g => .ok (.nx (ds.set i (.ownD (putD ks l k d).1 (putD ks l k d).2))) g
def kPutS (i : Nat) (ds : DEnv) (s : Option Slot) (k : Str) (fe : DE) (g : Gl) : Rs Out := match s with
  | some (.ownD ks l) => if ks.length < 1000 then kPut i ds ks l k (fe ds g) else .no
  | _ => .no
def kAsgT (tf : Dat → DEnv → Option DEnv) (ds : DEnv) (r : Rs Dat) : Rs Out := r.bind fun d g => match tf d ds with
  | some ds' => .ok (.nx ds') g
  | none => .no
def kRaise1 (c : Nat) (f : Str) (r : Rs (List Dat)) : Rs Out := r.bind fun l g => match l with
  | [a] => .er ⟨c, [f], [a]⟩ g
  | _ => .no
def kRaise2 (c : Nat) (f1 f2 : Str) (r : Rs (List Dat)) : Rs Out := r.bind fun l g => match l with
  | [a, b] => .er ⟨c, [f2, f1], [b, a]⟩ g
  | _ => .no
/-- the end of a def -/
def kF (r : Rs Out) : Rs Dat := r.bind fun o g => match o with
  | .nx _ => .ok .non g
  | .rt d => .ok d g
  | _ => .no
def kI (r : Rs Out) : Rs (List Str × List Dat) := r.bind fun o g => Rs.opt (selfOf o) g
def kFld (i : Nat) (f : Str) (ds : DEnv) (ks : List Str) (l : List Dat) (r : Rs Dat) : Rs Out := r.bind fun d g => .ok (.nx (ds.set i (.self (ks ++ [f]) (l ++ [d])))) g
def kForT (tf : Dat → DEnv → Option DEnv) (b : DS) (l : List Dat) (g : Gl) (o : Option DEnv) : Rs Out := match o with
  | some ds' => (b ds' g).bind (next (forGo tf b l))
  | none => .no
def kNext (tf : Dat → DEnv → Option DEnv) (b : DS) (l : List Dat) (r : Rs Out) : Rs Out := r.bind (next (forGo tf b l))
end
end DL

/-! DL, part 20: the same as one row of equations, for simp. -/
namespace DL
open PySem L2

theorem EV1 :
    (∀ (f1 f2 : DS) (ds : DEnv) (g : Gl), dSeq f1 f2 ds g = kSeq f2 (f1 ds g)) ∧ (∀ (ds : DEnv) (g : Gl), dSkip ds g = .ok (.nx ds) g) ∧ (∀ (i : Nat) (f : DE) (ds : DEnv) (g : Gl), dAsg i f ds g = kAsg i ds (f ds g)) ∧
    (∀ (i : Nat) (f : DA) (ds : DEnv) (g : Gl), dOwn i f ds g = kOwn i ds (f ds g)) ∧ (∀ (i : Nat) (ks : List Str) (f : DA) (ds : DEnv) (g : Gl), dOwnD i ks f ds g = kOwnD i ks ds (f ds g)) ∧ (∀ (f : DE) (ds : DEnv) (g : Gl), dDrop f ds g = kDrop ds (f ds g)) ∧
    (∀ (f : DE) (ds : DEnv) (g : Gl), dRet f ds g = kRet (f ds g)) ∧ (∀ (i : Nat) (ds : DEnv) (g : Gl), dRetO i ds g = kRetO ds[i]? g) ∧ (∀ (t : DT) (a b : DS) (ds : DEnv) (g : Gl), dIfS t a b ds g = kIf a b ds (t ds g)) ∧
    (∀ (α : Type) (t : DT) (a b : DEnv → Gl → Rs α) (ds : DEnv) (g : Gl), dIf t a b ds g = kIf a b ds (t ds g)) ∧ (∀ (i j : Nat) (f : DA) (ds : DEnv) (g : Gl), dPar i j f ds g = kPar i j ds (f ds g)) ∧ (∀ (i j k : Nat) (f : DA) (ds : DEnv) (g : Gl), dPar3 i j k f ds g = kPar3 i j k ds (f ds g)) ∧
    (∀ (i j : Nat) (f : DA) (fe : DE) (ds : DEnv) (g : Gl), dParF i j f fe ds g = kParF i j fe ds (f ds g)) ∧ (∀ (i j : Nat) (fe : DE) (f : DA) (ds : DEnv) (g : Gl), dParG i j fe f ds g = kParG i j f ds (fe ds g)) ∧
    (∀ (i : Nat) (ds : DEnv) (g : Gl), dVar i ds g = kVar ds[i]? g) ∧ (∀ (i : Nat) (ds : DEnv) (g : Gl), dBor i ds g = kBor ds[i]? g) ∧ (∀ (d : Dat) (ds : DEnv) (g : Gl), dC d ds g = .ok d g) ∧ (∀ (α : Type) (o : Dat → Option α) (f : DE) (ds : DEnv) (g : Gl), d1 o f ds g = k1 o (f ds g)) ∧
    (∀ (α : Type) (o : Dat → Dat → Option α) (f h : DE) (ds : DEnv) (g : Gl), d2 o f h ds g = k2 o h ds (f ds g)) ∧ (∀ (o o' : Dat → Dat → Option Bool) (fa fb fc : DE) (ds : DEnv) (g : Gl), d3 o o' fa fb fc ds g = k3 o o' fb fc ds (fa ds g)) ∧ (∀ (f : DT) (ds : DEnv) (g : Gl), dB f ds g = kB (f ds g)) ∧
    (∀ (f : DE) (ds : DEnv) (g : Gl), dT f ds g = kT (f ds g)) ∧ (∀ (f h : DT) (ds : DEnv) (g : Gl), dAnd f h ds g = kAnd h ds (f ds g)) ∧ (∀ (f h : DT) (ds : DEnv) (g : Gl), dOr f h ds g = kOr h ds (f ds g)) ∧ (∀ (f : DT) (ds : DEnv) (g : Gl), dNot f ds g = kNot (f ds g)) ∧
    (∀ (f h : DE) (ds : DEnv) (g : Gl), dAndV f h ds g = kAndV h ds (f ds g)) ∧ (∀ (f h : DE) (ds : DEnv) (g : Gl), dOrV f h ds g = kOrV h ds (f ds g)) ∧ (∀ (f : DE) (ds : DEnv) (g : Gl), dNotV f ds g = kNotV (f ds g)) ∧
    (∀ (ds : DEnv) (g : Gl), dNil ds g = .ok [] g) ∧ (∀ (f : DE) (r : DA) (ds : DEnv) (g : Gl), dCons f r ds g = kCons r ds (f ds g)) ∧ (∀ (ds : DEnv) (g : Gl), dArgs [] ds g = .ok [] g) ∧ (∀ (f : DE) (r : List DE) (ds : DEnv) (g : Gl), dArgs (f :: r) ds g = kCons (dArgs r) ds (f ds g)) ∧
    (∀ (f : DA) (ds : DEnv) (g : Gl), dTup f ds g = kTup (f ds g)) ∧ (∀ (f : DA) (ds : DEnv) (g : Gl), dLst f ds g = kLst (f ds g)) ∧ (∀ (f : DA) (ds : DEnv) (g : Gl), dFz f ds g = kFz (f ds g)) ∧ (∀ (f : DA) (ks : List Str) (ds : DEnv) (g : Gl), dFzD ks f ds g = kFzD ks (f ds g)) ∧
    (∀ (f : DA) (ds : DEnv) (g : Gl), dMk f ds g = kMk (f ds g)) ∧ (∀ (fa fb : DE) (ds : DEnv) (g : Gl), dIx fa fb ds g = kIx fb ds (fa ds g)) ∧ (∀ (F : Fn) (fa : DA) (ds : DEnv) (g : Gl), dCall F fa ds g = kCall F (fa ds g)) ∧ (∀ (F : In) (fa : DA) (ds : DEnv) (g : Gl), dRule F fa ds g = kRule F (fa ds g)) ∧
    (∀ (α : Type) (o : Gl → List Dat → Option α) (fa : DA) (ds : DEnv) (g : Gl), dCB o fa ds g = kCB o (fa ds g)) ∧ (∀ (α : Type) (o : List Dat → Option α) (fa : DA) (ds : DEnv) (g : Gl), dOpA o fa ds g = kOpA o (fa ds g)) ∧ (∀ (f : DE) (ds : DEnv) (g : Gl), dSq f ds g = kSq (f ds g)) ∧
    (∀ (f : DA) (tf : Dat → DEnv → Option DEnv) (b : DS) (ds : DEnv) (g : Gl), dFor f tf b ds g = kFor tf b ds (f ds g)) ∧ (∀ (f : DA) (vs : List Nat) (tf : Dat → DEnv → Option DEnv) (ft : DT) (fe : DE) (ds : DEnv) (g : Gl), dLc f vs tf ft fe ds g = kLc vs tf ft fe ds (f ds g)) ∧
    (∀ (fe fo fi : DE) (ds : DEnv) (g : Gl), dSetM fe fo fi ds g = kSetM fo fi ds (fe ds g)) ∧ (∀ (tf : Dat → DEnv → Option DEnv) (f : DE) (ds : DEnv) (g : Gl), dAsgT tf f ds g = kAsgT tf ds (f ds g)) ∧ (∀ (c : Nat) (ds : DEnv) (g : Gl), dRaise0 c ds g = .er ⟨c, [], []⟩ g) ∧
    (∀ (c : Nat) (f : Str) (fa : DA) (ds : DEnv) (g : Gl), dRaise1 c f fa ds g = kRaise1 c f (fa ds g)) ∧ (∀ (c : Nat) (f1 f2 : Str) (fa : DA) (ds : DEnv) (g : Gl), dRaise2 c f1 f2 fa ds g = kRaise2 c f1 f2 (fa ds g)) ∧ (∀ (ds : DEnv) (g : Gl), tfT ds g = .ok true g) := by
  refine ⟨?_, ?_, ?_, ?_, ?_, ?_, ?_, ?_, ?_, ?_, ?_, ?_, ?_, ?_, ?_, ?_, ?_, ?_, ?_, ?_, ?_, ?_, ?_, ?_, ?_, ?_, ?_, ?_, ?_, ?_, ?_, ?_, ?_, ?_, ?_, ?_, ?_, ?_, ?_, ?_, ?_, ?_, ?_, ?_, ?_, ?_, ?_, ?_, ?_, ?_, ?_⟩ <;> intros <;> rfl
theorem ev_app (i : Nat) (fr : DA) (ds : DEnv) (g : Gl) : dApp i fr ds g = kAppS i ds ds[i]? fr g := by
  unfold dApp kAppS kApp
  rfl
theorem ev_setO (i : Nat) (fe fi : DE) (ds : DEnv) (g : Gl) : dSetO i fe fi ds g = kSetOS i ds ds[i]? fe fi g := by
  unfold dSetO kSetOS kSetO
  rfl
theorem ev_put (i : Nat) (k : Str) (fe : DE) (ds : DEnv) (g : Gl) : dPutO i k fe ds g = kPutS i ds ds[i]? k fe g := by
  unfold dPutO kPutS kPut
  rfl
theorem bind_ite {α β : Type} (c : Prop) [Decidable c] (x y : Rs α) (f : α → Gl → Rs β) : (if c then x else y).bind f = if c then x.bind f else y.bind f := by
  split <;> rfl

theorem setG_ev (d o : Dat) (ds : DEnv) (k : Dat) (g : Gl) : kSetM3 d o ds (.ok k g) = kSetG ds (msetD g o d k) := by
  show (Rs.opt (msetD g o d k) g).bind _ = _
  cases msetD g o d k <;> rfl
theorem EV2 :
    (∀ (f2 : DS) (ds : DEnv) (g : Gl), kSeq f2 (.ok (.nx ds) g) = f2 ds g) ∧ (∀ (f2 : DS) (d : Dat) (g : Gl), kSeq f2 (.ok (.rt d) g) = .ok (.rt d) g) ∧ (∀ (i : Nat) (ds : DEnv) (d : Dat) (g : Gl), kAsg i ds (.ok d g) = .ok (.nx (ds.set i (.sh d))) g) ∧
    (∀ (i : Nat) (ds : DEnv) (d : List Dat) (g : Gl), kOwn i ds (.ok d g) = .ok (.nx (ds.set i (.own d))) g) ∧ (∀ (i : Nat) (ks : List Str) (ds : DEnv) (d : List Dat) (g : Gl), kOwnD i ks ds (.ok d g) = .ok (.nx (ds.set i (.ownD ks d))) g) ∧ (∀ (ds : DEnv) (d : Dat) (g : Gl), kDrop ds (.ok d g) = .ok (.nx ds) g) ∧
    (∀ (d : Dat) (g : Gl), kRet (.ok d g) = .ok (.rt d) g) ∧ (∀ (d : Dat) (g : Gl), kRetO (some (.sh d)) g = .ok (.rt d) g) ∧ (∀ (l : List Dat) (g : Gl), kRetO (some (.own l)) g = .ok (.rt (.lst l)) g) ∧ (∀ (ks : List Str) (l : List Dat) (g : Gl), kRetO (some (.ownD ks l)) g = .ok (.rt (.dct ks l)) g) ∧
    (∀ (α : Type) (a b : DEnv → Gl → Rs α) (ds : DEnv) (c : Bool) (g : Gl), kIf a b ds (.ok c g) = if c = true then a ds g else b ds g) ∧ (∀ (i j : Nat) (ds : DEnv) (a b : Dat) (g : Gl), kPar i j ds (.ok [a, b] g) = .ok (.nx ((ds.set i (.sh a)).set j (.sh b))) g) ∧
    (∀ (i j k : Nat) (ds : DEnv) (a b c : Dat) (g : Gl), kPar3 i j k ds (.ok [a, b, c] g) = .ok (.nx (((ds.set i (.sh a)).set j (.sh b)).set k (.sh c))) g) ∧ (∀ (i j : Nat) (fe : DE) (ds : DEnv) (l : List Dat) (g : Gl), kParF i j fe ds (.ok l g) = kParF2 i j l ds (fe ds g)) ∧
    (∀ (i j : Nat) (l : List Dat) (ds : DEnv) (d : Dat) (g : Gl), kParF2 i j l ds (.ok d g) = .ok (.nx ((ds.set i (.own l)).set j (.sh d))) g) ∧ (∀ (i j : Nat) (f : DA) (ds : DEnv) (d : Dat) (g : Gl), kParG i j f ds (.ok d g) = kParG2 i j d ds (f ds g)) ∧ (∀ (i j : Nat) (d : Dat) (ds : DEnv) (l : List Dat) (g : Gl), kParG2 i j d ds (.ok l g) = .ok (.nx ((ds.set j (.own l)).set i (.sh d))) g) ∧
    (∀ (d : Dat) (g : Gl), kVar (some (.sh d)) g = .ok d g) ∧ (∀ (d : Dat) (g : Gl), kBor (some (.sh d)) g = .ok d g) ∧ (∀ (l : List Dat) (g : Gl), kBor (some (.own l)) g = .ok (.lst l) g) ∧ (∀ (ks : List Str) (l : List Dat) (g : Gl), kBor (some (.ownD ks l)) g = .ok (.dct ks l) g) ∧
    (∀ (α : Type) (o : Dat → Option α) (d : Dat) (g : Gl), k1 o (.ok d g) = Rs.opt (o d) g) ∧ (∀ (α : Type) (o : Dat → Dat → Option α) (fb : DE) (ds : DEnv) (d : Dat) (g : Gl), k2 o fb ds (.ok d g) = k2b (o d) (fb ds g)) ∧ (∀ (α : Type) (o : Dat → Option α) (d : Dat) (g : Gl), k2b o (.ok d g) = Rs.opt (o d) g) ∧
    (∀ (o o' : Dat → Dat → Option Bool) (fb fc : DE) (ds : DEnv) (d : Dat) (g : Gl), k3 o o' fb fc ds (.ok d g) = k3b o o' d fc ds (fb ds g)) ∧ (∀ (o o' : Dat → Dat → Option Bool) (x : Dat) (fc : DE) (ds : DEnv) (d : Dat) (g : Gl), k3b o o' x fc ds (.ok d g) = k3c o' d fc ds (Rs.opt (o x d) g)) ∧
    (∀ (o' : Dat → Dat → Option Bool) (y : Dat) (fc : DE) (ds : DEnv) (c : Bool) (g : Gl), k3c o' y fc ds (.ok c g) = if c = true then k2b (o' y) (fc ds g) else .ok false g) ∧ (∀ (b : Bool) (g : Gl), kB (.ok b g) = .ok (.bl b) g) ∧ (∀ (b : Bool) (g : Gl), kT (.ok (.bl b) g) = .ok b g) ∧
    (∀ (h : DT) (ds : DEnv) (c : Bool) (g : Gl), kAnd h ds (.ok c g) = if c = true then h ds g else .ok false g) ∧ (∀ (h : DT) (ds : DEnv) (c : Bool) (g : Gl), kOr h ds (.ok c g) = if c = true then .ok true g else h ds g) ∧ (∀ (c : Bool) (g : Gl), kNot (.ok c g) = .ok (!c) g) ∧
    (∀ (h : DE) (ds : DEnv) (c : Bool) (g : Gl), kAndV h ds (.ok (.bl c) g) = if c = true then h ds g else .ok (.bl false) g) ∧ (∀ (h : DE) (ds : DEnv) (c : Bool) (g : Gl), kOrV h ds (.ok (.bl c) g) = if c = true then .ok (.bl true) g else h ds g) ∧ (∀ (c : Bool) (g : Gl), kNotV (.ok (.bl c) g) = .ok (.bl (!c)) g) ∧
    (∀ (r : DA) (ds : DEnv) (d : Dat) (g : Gl), kCons r ds (.ok d g) = kCons2 d (r ds g)) ∧ (∀ (d : Dat) (l : List Dat) (g : Gl), kCons2 d (.ok l g) = .ok (d :: l) g) ∧ (∀ (l : List Dat) (g : Gl), l.length ≤ few → kTup (.ok l g) = .ok (.tup l) g) ∧ (∀ (l : List Dat) (g : Gl), l.length ≤ few → kLst (.ok l g) = .ok l g) ∧
    (∀ (l : List Dat) (g : Gl), kFz (.ok l g) = .ok (.lst l) g) ∧ (∀ (ks : List Str) (l : List Dat) (g : Gl), kFzD ks (.ok l g) = .ok (.dct ks l) g) ∧ (∀ (l : List Dat) (g : Gl), kMk (.ok l g) = .ok (.mref g.length) (g ++ [.lst l])) ∧ (∀ (fb : DE) (ds : DEnv) (d : Dat) (g : Gl), kIx fb ds (.ok d g) = kIx2 d (fb ds g)) ∧
    (∀ (x d : Dat) (g : Gl), kIx2 x (.ok d g) = Rs.opt (oIx g x d) g) ∧ (∀ (F : Fn) (l : List Dat) (g : Gl), kCall F (.ok l g) = F l g) ∧ (∀ (F : In) (l : List Dat) (g : Gl), kRule F (.ok l g) = kRule2 (F l g)) ∧ (∀ (r : List Str × List Dat) (g : Gl), kRule2 (.ok r g) = Rs.opt (rulOf r) g) ∧
    (∀ (α : Type) (o : Gl → List Dat → Option α) (l : List Dat) (g : Gl), kCB o (.ok l g) = Rs.opt (o g l) g) ∧ (∀ (α : Type) (o : List Dat → Option α) (l : List Dat) (g : Gl), kOpA o (.ok l g) = Rs.opt (o l) g) ∧ (∀ (l : List Dat) (g : Gl), kSq (.ok (.lst l) g) = .ok l g) ∧ (∀ (l : List Dat) (g : Gl), kSq (.ok (.tup l) g) = .ok l g) ∧
    (∀ (tf : Dat → DEnv → Option DEnv) (b : DS) (ds : DEnv) (l : List Dat) (g : Gl), kFor tf b ds (.ok l g) = forGo tf b l ds g) ∧ (∀ (vs : List Nat) (tf : Dat → DEnv → Option DEnv) (ft : DT) (fe : DE) (ds : DEnv) (l : List Dat) (g : Gl), l.length ≤ few → kLc vs tf ft fe ds (.ok l g) = lcGo tf ft fe (dwipe ds vs) l g) ∧
    (∀ (i : Nat) (ds : DEnv) (l : List Dat) (d : Dat) (g : Gl), l.length < few → kApp i ds l (.ok [d] g) = .ok (.nx (ds.set i (.own (l ++ [d])))) g) ∧ (∀ (i : Nat) (ds : DEnv) (l : List Dat) (fr : DA) (g : Gl), kAppS i ds (some (.own l)) fr g = kApp i ds l (fr ds g)) ∧
    (∀ (fo fi : DE) (ds : DEnv) (d : Dat) (g : Gl), kSetM fo fi ds (.ok d g) = kSetM2 d fi ds (fo ds g)) ∧ (∀ (d : Dat) (fi : DE) (ds : DEnv) (o : Dat) (g : Gl), kSetM2 d fi ds (.ok o g) = kSetM3 d o ds (fi ds g)) ∧ (∀ (d o : Dat) (ds : DEnv) (k : Dat) (g : Gl), kSetM3 d o ds (.ok k g) = kSetG ds (msetD g o d k)) ∧
    (∀ (ds : DEnv) (g : Gl), kSetG ds (some g) = .ok (.nx ds) g) ∧ (∀ (i : Nat) (fi : DE) (ds : DEnv) (l : List Dat) (d : Dat) (g : Gl), kSetO i fi ds l (.ok d g) = kSetO2 i d ds l (fi ds g)) ∧ (∀ (i : Nat) (d : Dat) (ds : DEnv) (l : List Dat) (k : Dat) (g : Gl), kSetO2 i d ds l (.ok k g) = kSetO3 i ds (Rs.opt (setAtD l d k) g)) ∧
    (∀ (i : Nat) (ds : DEnv) (l : List Dat) (g : Gl), kSetO3 i ds (.ok l g) = .ok (.nx (ds.set i (.own l))) g) ∧ (∀ (i : Nat) (ds : DEnv) (l : List Dat) (fe fi : DE) (g : Gl), kSetOS i ds (some (.own l)) fe fi g = kSetO i fi ds l (fe ds g)) ∧
    (∀ (i : Nat) (ds : DEnv) (ks : List Str) (l : List Dat) (k : Str) (d : Dat) (g : Gl), kPut i ds ks l k (.ok d g) = .ok (.nx (ds.set i (.ownD (putD ks l k d).1 (putD ks l k d).2))) g) ∧ (∀ (i : Nat) (ds : DEnv) (ks : List Str) (l : List Dat) (k : Str) (fe : DE) (g : Gl), ks.length < 1000 → kPutS i ds (some (.ownD ks l)) k fe g = kPut i ds ks l k (fe ds g)) ∧
    (∀ (tf : Dat → DEnv → Option DEnv) (ds : DEnv) (d : Dat) (g : Gl), kAsgT tf ds (.ok d g) = (match tf d ds with
      | some ds' => .ok (.nx ds') g
      | none => .no)) ∧ (∀ (c : Nat) (f : Str) (a : Dat) (g : Gl), kRaise1 c f (.ok [a] g) = .er ⟨c, [f], [a]⟩ g) ∧ (∀ (c : Nat) (f1 f2 : Str) (a b : Dat) (g : Gl), kRaise2 c f1 f2 (.ok [a, b] g) = .er ⟨c, [f2, f1], [b, a]⟩ g) ∧ (∀ (ds : DEnv) (g : Gl), kF (.ok (.nx ds) g) = .ok .non g) ∧
    (∀ (d : Dat) (g : Gl), kF (.ok (.rt d) g) = .ok d g) ∧ (∀ (o : Out) (g : Gl), kI (.ok o g) = Rs.opt (selfOf o) g) ∧ (∀ (α : Type) (a : α) (g : Gl), Rs.opt (some a) g = .ok a g) := by
  refine ⟨?_, ?_, ?_, ?_, ?_, ?_, ?_, ?_, ?_, ?_, ?_, ?_, ?_, ?_, ?_, ?_, ?_, ?_, ?_, ?_, ?_, ?_, ?_, ?_, ?_, ?_, ?_, ?_, ?_, ?_, ?_, ?_, ?_, ?_, ?_, ?_, ?_, ?_, ?_, ?_, ?_, ?_, ?_, ?_, ?_, ?_, ?_, ?_, ?_, ?_, ?_, ?_, ?_, ?_, ?_, ?_, ?_, ?_, ?_, ?_, ?_, ?_, ?_, ?_, ?_, ?_, ?_, ?_, ?_, ?_, ?_, ?_⟩ <;> intros
  all_goals first | rfl | exact if_pos (by assumption) | (cases ‹Bool› <;> rfl) | exact setG_ev _ _ _ _ _
end DL

/-! DL, part 21: what the operators make of whole numbers, the slots of a def. -/
namespace DL
open PySem L2

theorem mkF_ev {n m : Nat} {body : DS} {l : List Dat} {g : Gl} (h : l.length = n) : mkF n m body l g = kF (body (l.map Slot.sh ++ List.replicate (m - n) Slot.unset) g) := if_pos h
theorem mkI_ev {n m : Nat} {body : DS} {l : List Dat} {g : Gl} (h : l.length = n) : mkI n m body l g = kI (body (Slot.self [] [] :: (l.map Slot.sh ++ List.replicate (m - (n + 1)) Slot.unset)) g) := if_pos h
theorem EV3 :
    (∀ (i j : Int), oAdd (.int i) (.int j) = some (.int (i + j))) ∧ (∀ (i j : Int), oSub (.int i) (.int j) = some (.int (i - j))) ∧ (∀ (i j : Int), mulOk i j = true → oMulI (.int i) (.int j) = some (.int (i * j))) ∧ (∀ (i j : Int), divOk i j = true → oDiv (.int i) (.int j) = some (.int (i / j))) ∧
    (∀ (i j : Int), 0 < j → oMod (.int i) (.int j) = some (.int (i % j))) ∧ (∀ (i : Int), oNeg (.int i) = some (.int (-i))) ∧ (∀ (i j : Int), oLt (.int i) (.int j) = some (decide (i < j))) ∧ (∀ (i j : Int), oLe (.int i) (.int j) = some (decide (i ≤ j))) ∧ (∀ (i j : Int), oGt (.int i) (.int j) = some (decide (j < i))) ∧
    (∀ (i j : Int), oGe (.int i) (.int j) = some (decide (j ≤ i))) ∧ (∀ (i : Int) (g : Gl), oAbs g [.int i] = some (.int i.natAbs)) ∧ (∀ (i : Int) (g : Gl), oInt g [.int i] = some (.int i)) ∧ (∀ (b : Bool) (g : Gl), oInt g [.bl b] = some (.int (if b then 1 else 0))) ∧ (∀ (a b c : Dat), rulF "begun" (.rul a b c) = some a) ∧
    (∀ (a b c : Dat), rulF "later" (.rul a b c) = some b) ∧ (∀ (a b c : Dat), rulF "part" (.rul a b c) = some c) ∧ (∀ (l : List Dat) (g : Gl), oLen g [.lst l] = some (.int l.length)) ∧ (∀ (l : List Dat) (g : Gl), oLen g [.tup l] = some (.int l.length)) ∧ (∀ (l : List Int) (g : Gl), oLen g [.scr l] = some (.int l.length)) ∧
    (∀ (l : List Dat) (i : Int) (g : Gl), oIx g (.lst l) (.int i) = atI l i) ∧ (∀ (l : List Dat) (i : Int) (g : Gl), oIx g (.tup l) (.int i) = atI l i) ∧ (∀ (l : List Int) (i : Int) (g : Gl), oIx g (.scr l) (.int i) = (atI l i).map .int) ∧
    (∀ (d : Dat), oNotN d .non = some (!isN d)) ∧ (∀ (d : Dat), oIsN d .non = some (isN d)) ∧ (∀ (i : Int), isN (.int i) = false) ∧ (isN .non = true) ∧
    (∀ (i j : Int) (g : Gl), oMax g [.int i, .int j] = some (.int (if j > i then j else i))) ∧ (∀ (i j : Int) (g : Gl), oMax g [.lst [.int i, .int j]] = some (.int (if j > i then j else i))) ∧ (∀ (i j : Int) (g : Gl), oMin g [.lst [.int i, .int j]] = some (.int (if j < i then j else i))) ∧
    (∀ (i j : Int), eqD (.int i) (.int j) = some (decide (i = j))) ∧ (∀ (i j : Int), neD (.int i) (.int j) = some (!decide (i = j))) ∧
    (∀ (a b c d : Int), eqD (.tup [.int a, .int b]) (.tup [.int c, .int d]) = some (decide (a = c) && decide (b = d))) ∧ (∀ (a b c d : Int), neD (.tup [.int a, .int b]) (.tup [.int c, .int d]) = some (!(decide (a = c) && decide (b = d)))) := by
  have e1 : ∀ i j : Int, PyData.eqv (.int i) (.int j) = decide (i = j) := fun i j => by
    simp [PyData.eqv]
    rfl
  have e2 : ∀ a b c d : Int, eqD (.tup [.int a, .int b]) (.tup [.int c, .int d]) = some (decide (a = c) && decide (b = d)) := fun a b c d => by
    show some (PyData.eqv (.tuple [.int a, .int b]) (.tuple [.int c, .int d])) = _
    simp [PyData.eqv, PyData.eqvAll]
    rfl
  have e3 : ∀ a b c d : Int, neD (.tup [.int a, .int b]) (.tup [.int c, .int d]) = some (!(decide (a = c) && decide (b = d))) := fun a b c d => by
    unfold neD
    rw [e2]
  have e4 : ∀ (i : Int) (g : Gl), oAbs g [.int i] = some (.int i.natAbs) := fun i g => by
    show some (Dat.int (if i < 0 then -i else i)) = _
    split <;> congr <;> omega
  refine ⟨?_, ?_, ?_, ?_, ?_, ?_, ?_, ?_, ?_, ?_, ?_, ?_, ?_, ?_, ?_, ?_, ?_, ?_, ?_, ?_, ?_, ?_, ?_, ?_, ?_, ?_, ?_, ?_, ?_, ?_, ?_, ?_, ?_⟩ <;> intros
  all_goals first | rfl | exact if_pos (by assumption) | exact if_pos (decide_eq_true (by assumption)) | exact e2 _ _ _ _ | exact e3 _ _ _ _ | exact e4 _ _
/-! ### while -/
def kWh (t : DT) (b : DS) (n : Nat) (ds : DEnv) (r : Rs Bool) : Rs Out := r.bind fun c g => if c = true then (b ds g).bind (next (dWhile t b n)) else .ok (.nx ds) g
def kNx (k : DS) (r : Rs Out) : Rs Out := r.bind (next k)
theorem EV4 :
    (∀ (t : DT) (b : DS) (n : Nat) (ds : DEnv) (g : Gl), dWhile t b (n + 1) ds g = kWh t b n ds (t ds g)) ∧ (∀ (t : DT) (b : DS) (n : Nat) (ds : DEnv) (c : Bool) (g : Gl), kWh t b n ds (.ok c g) = if c = true then kNx (dWhile t b n) (b ds g) else .ok (.nx ds) g) ∧
    (∀ (k : DS) (ds : DEnv) (g : Gl), kNx k (.ok (.nx ds) g) = k ds g) ∧ (∀ (k : DS) (ds : DEnv) (g : Gl), kNx k (.ok (.ct ds) g) = k ds g) ∧ (∀ (k : DS) (ds : DEnv) (g : Gl), kNx k (.ok (.bk ds) g) = .ok (.nx ds) g) ∧ (∀ (k : DS) (d : Dat) (g : Gl), kNx k (.ok (.rt d) g) = .ok (.rt d) g) ∧
    (∀ (n m : Nat) (body : DS) (l : List Dat) (g : Gl), l.length = n → mkF n m body l g = kF (body (l.map Slot.sh ++ List.replicate (m - n) Slot.unset) g)) ∧ (∀ (n m : Nat) (body : DS) (l : List Dat) (g : Gl), l.length = n → mkI n m body l g = kI (body (Slot.self [] [] :: (l.map Slot.sh ++ List.replicate (m - (n + 1)) Slot.unset)) g)) ∧
    (∀ (α : Type) (a : α) (l : List α) (i : Nat), (a :: l)[i + 1]? = l[i]?) ∧ (∀ (α : Type) (a : α) (l : List α), (a :: l)[0]? = some a) ∧ (∀ (α : Type) (a b : α) (l : List α) (i : Nat), (a :: l).set (i + 1) b = a :: l.set i b) ∧ (∀ (α : Type) (a b : α) (l : List α), (a :: l).set 0 b = b :: l) ∧
    (∀ (α β : Type) (f : α → β) (a : α) (l : List α), (a :: l).map f = f a :: l.map f) ∧ (∀ (α β : Type) (f : α → β), [].map f = []) ∧ (∀ (α : Type) (a : α) (l : List α), (a :: l).length = l.length + 1) ∧ (∀ (α : Type), ([] : List α).length = 0) ∧ (∀ (α : Type) (l : List α), l ++ [] = l) ∧ (∀ (α : Type) (l : List α), [] ++ l = l) ∧ (∀ (α : Type) (a : α) (l m : List α), (a :: l) ++ m = a :: (l ++ m)) ∧
    (∀ (α : Type) (n : Nat) (a : α), List.replicate (n + 1) a = a :: List.replicate n a) ∧ (∀ (α : Type) (a : α), List.replicate 0 a = []) ∧ (∀ (tf : Dat → DEnv → Option DEnv) (b : DS) (ds : DEnv) (g : Gl), forGo tf b [] ds g = .ok (.nx ds) g) ∧
    (∀ (i : Nat) (b : DS) (d : Dat) (l : List Dat) (ds : DEnv) (g : Gl), forGo (gN i) b (d :: l) ds g = kNx (forGo (gN i) b l) (b (ds.set i (.sh d)) g)) := by
  refine ⟨?_, ?_, ?_, ?_, ?_, ?_, ?_, ?_, ?_, ?_, ?_, ?_, ?_, ?_, ?_, ?_, ?_, ?_, ?_, ?_, ?_, ?_, ?_⟩ <;> intros
  all_goals first | rfl | exact if_pos (by assumption) | simp
/-! ### places -/
theorem atI_nat {α : Type} {l : List α} {i : Int} (h0 : 0 ≤ i) (h1 : i < l.length) : atI l i = l[i.toNat]? := by
  unfold atI ixN
  rw [if_pos h0, if_pos h1]
  rfl
theorem atI_last {α : Type} {l : List α} {a : α} : atI (l ++ [a]) (-1) = some a := by
  unfold atI ixN
  rw [if_neg (by decide), if_pos (by rw [List.length_append, List.length_singleton]; omega)]
  have e : (-1 + ((l ++ [a]).length : Int)).toNat = l.length := by rw [List.length_append, List.length_singleton]; omega
  show (l ++ [a])[(-1 + ((l ++ [a]).length : Int)).toNat]? = _
  rw [e, List.getElem?_append_right (Nat.le_refl _), Nat.sub_self]
  rfl
theorem EV5 :
    (∀ (α : Type) (a : α) (l : List α), atI (a :: l) 0 = some a) ∧ (∀ (α : Type) (a b : α) (l : List α), atI (a :: b :: l) 1 = some b) ∧ (∀ (α : Type) (a b c : α) (l : List α), atI (a :: b :: c :: l) 2 = some c) ∧ (∀ (α : Type) (a b c d : α) (l : List α), atI (a :: b :: c :: d :: l) 3 = some d) ∧
    (∀ (α : Type) (a : α) (l : List α), atI (l ++ [a]) (-1) = some a) := by
  refine ⟨?_, ?_, ?_, ?_, ?_⟩ <;> intros
  · rw [atI_nat (by decide) (by simp only [List.length_cons]; omega)]; rfl
  · rw [atI_nat (by decide) (by simp only [List.length_cons]; omega)]; rfl
  · rw [atI_nat (by decide) (by simp only [List.length_cons]; omega)]; rfl
  · rw [atI_nat (by decide) (by simp only [List.length_cons]; omega)]; rfl
  · exact atI_last
end DL

/-! DL, part 22: loops and comprehensions by what they keep. -/
namespace DL
open PySem L2

/-- a loop that runs to its end -/
theorem for_ev {tf : Dat → DEnv → Option DEnv} {b : DS} (I : Nat → DEnv → Gl → Prop) : ∀ (l : List Dat) (k0 : Nat) (ds : DEnv) (g : Gl),
    (∀ (k : Nat) (d : Dat) (ds : DEnv) (g : Gl), l[k]? = some d → I (k0 + k) ds g → ∃ ds1 ds2 g2, tf d ds = some ds1 ∧ b ds1 g = .ok (.nx ds2) g2 ∧ I (k0 + k + 1) ds2 g2) → I k0 ds g → ∃ ds' g', forGo tf b l ds g = .ok (.nx ds') g' ∧ I (k0 + l.length) ds' g'
  | [], k0, ds, g, _, h => ⟨ds, g, rfl, h⟩
  | d :: l, k0, ds, g, hs, h => by
    obtain ⟨ds1, ds2, g2, e1, e2, h2⟩ := hs 0 d ds g rfl h
    obtain ⟨ds', g', e3, h3⟩ := for_ev I l (k0 + 1) ds2 g2 (fun k d ds g hk hi => by
      have := hs (k + 1) d ds g hk (by rw [show k0 + (k + 1) = k0 + 1 + k by omega]; exact hi)
      rw [show k0 + (k + 1) + 1 = k0 + 1 + k + 1 by omega] at this
      exact this) h2
    refine ⟨ds', g', ?_, by rw [List.length_cons, show k0 + (l.length + 1) = k0 + 1 + l.length by omega]; exact h3⟩
    show (match tf d ds with
      | some ds' => (b ds' g).bind (next (forGo tf b l))
      | none => .no) = _
    rw [e1]
    show (b ds1 g).bind (next (forGo tf b l)) = _
    rw [e2]
    exact e3
theorem for_range {i : Nat} {b : DS} (I : Nat → DEnv → Gl → Prop) {lo : Int} {n : Nat} {ds : DEnv} {g : Gl} (hs : ∀ (k : Nat) (ds : DEnv) (g : Gl), k < n → I k ds g → ∃ ds2 g2, b (ds.set i (.sh (.int (lo + k)))) g = .ok (.nx ds2) g2 ∧ I (k + 1) ds2 g2) (h : I 0 ds g) :
    ∃ ds' g', forGo (gN i) b (rngL lo n) ds g = .ok (.nx ds') g' ∧ I n ds' g' := by
  obtain ⟨ds', g', e, h'⟩ := for_ev (tf := gN i) (b := b) I (rngL lo n) 0 ds g (fun k d ds g hk hi => by
    obtain ⟨h1, rfl⟩ := rngL_get hk
    rw [Nat.zero_add] at hi ⊢
    obtain ⟨ds2, g2, e1, e2⟩ := hs k ds g h1 hi
    exact ⟨_, ds2, g2, rfl, e1, e2⟩) h
  rw [Nat.zero_add, rngL_len] at h'
  exact ⟨ds', g', e, h'⟩
/-- the same over the items of a mapped list -/
theorem for_map {α : Type} {i : Nat} {b : DS} {f : α → Dat} {l : List α} (I : Nat → DEnv → Gl → Prop) {ds : DEnv} {g : Gl} (hs : ∀ (k : Nat) (a : α) (ds : DEnv) (g : Gl), l[k]? = some a → I k ds g → ∃ ds2 g2, b (ds.set i (.sh (f a))) g = .ok (.nx ds2) g2 ∧ I (k + 1) ds2 g2) (h : I 0 ds g) :
    ∃ ds' g', forGo (gN i) b (l.map f) ds g = .ok (.nx ds') g' ∧ I l.length ds' g' := by
  obtain ⟨ds', g', e, h'⟩ := for_ev (tf := gN i) (b := b) I (l.map f) 0 ds g (fun k d ds g hk hi => by
    rw [List.getElem?_map] at hk
    cases ea : l[k]? with
    | none => rw [ea] at hk; cases hk
    | some a =>
      rw [ea] at hk
      cases hk
      rw [Nat.zero_add] at hi ⊢
      obtain ⟨ds2, g2, e1, e2⟩ := hs k a ds g ea hi
      exact ⟨_, ds2, g2, rfl, e1, e2⟩) h
  rw [Nat.zero_add, List.length_map] at h'
  exact ⟨ds', g', e, h'⟩
/-- a comprehension without a test -/
theorem lc_ev {tf : Dat → DEnv → Option DEnv} {fe : DE} {ds0 : DEnv} {g : Gl} {f : Dat → Dat} : ∀ {l : List Dat}, (∀ d ∈ l, ∃ ds1, tf d ds0 = some ds1 ∧ fe ds1 g = .ok (f d) g) → lcGo tf tfT fe ds0 l g = .ok (l.map f) g
  | [], _ => rfl
  | d :: l, h => by
    obtain ⟨ds1, e1, e2⟩ := h d List.mem_cons_self
    have ih := lc_ev (fe := fe) (f := f) (l := l) (tf := tf) (ds0 := ds0) (g := g) fun x hx => h x (List.mem_cons_of_mem _ hx)
    unfold lcGo
    rw [e1]
    show (fe ds1 g).noer.bind (fun y g => (lcGo tf tfT fe ds0 l g).bind fun r g => .ok (y :: r) g) = _
    rw [e2]
    show (lcGo tf tfT fe ds0 l g).bind (fun r g => .ok (f d :: r) g) = _
    rw [ih]
    rfl
theorem lc_range {i : Nat} {fe : DE} {ds0 : DEnv} {g : Gl} {lo : Int} {n : Nat} {f : Nat → Dat} (h : ∀ k < n, fe (ds0.set i (.sh (.int (lo + k)))) g = .ok (f k) g) : lcGo (gN i) tfT fe ds0 (rngL lo n) g = .ok ((List.range n).map f) g := by
  have e : lcGo (gN i) tfT fe ds0 (rngL lo n) g = .ok ((rngL lo n).map fun d => match d with
    | .int z => f (z - lo).toNat
    | _ => .non) g := lc_ev fun d hd => by
      obtain ⟨k, hk, rfl⟩ := List.mem_map.mp hd
      refine ⟨_, rfl, ?_⟩
      rw [h k (List.mem_range.mp hk)]
      show _ = Rs.ok (f (lo + (k : Int) - lo).toNat) g
      rw [show (lo + (k : Int) - lo).toNat = k by omega]
  rw [e]
  unfold rngL
  rw [List.map_map]
  congr 1
  refine List.map_congr_left fun k _ => ?_
  show f (lo + (k : Int) - lo).toNat = f k
  rw [show (lo + (k : Int) - lo).toNat = k by omega]
theorem lc_map {α : Type} {i : Nat} {fe : DE} {ds0 : DEnv} {g : Gl} {h : α → Dat} {f : α → Dat} : ∀ {l : List α}, (∀ a ∈ l, fe (ds0.set i (.sh (h a))) g = .ok (f a) g) → lcGo (gN i) tfT fe ds0 (l.map h) g = .ok (l.map f) g
  | [], _ => rfl
  | a :: l, hh => by
    have ih := lc_map (fe := fe) (f := f) (l := l) (h := h) (i := i) (ds0 := ds0) (g := g) fun x hx => hh x (List.mem_cons_of_mem _ hx)
    show (fe (ds0.set i (.sh (h a))) g).noer.bind (fun y g => (lcGo (gN i) tfT fe ds0 (l.map h) g).bind fun r g => .ok (y :: r) g) = _
    rw [hh a List.mem_cons_self]
    show (lcGo (gN i) tfT fe ds0 (l.map h) g).bind (fun r g => .ok (f a :: r) g) = _
    rw [ih]
    rfl
/-- .. with one -/
theorem lcf_range {i : Nat} {fe : DE} {ft : DT} {ds0 : DEnv} {g : Gl} {f : Nat → Dat} {p : Nat → Bool} : ∀ {n : Nat} {lo : Int}, (∀ k < n, ft (ds0.set i (.sh (.int (lo + k)))) g = .ok (p k) g ∧ (p k = true → fe (ds0.set i (.sh (.int (lo + k)))) g = .ok (f k) g)) →
    lcGo (gN i) ft fe ds0 (rngL lo n) g = .ok (((List.range n).filter p).map f) g := by
  have core : ∀ (l : List Nat) (lo : Int), (∀ k ∈ l, ft (ds0.set i (.sh (.int (lo + k)))) g = .ok (p k) g ∧ (p k = true → fe (ds0.set i (.sh (.int (lo + k)))) g = .ok (f k) g)) → lcGo (gN i) ft fe ds0 (l.map fun k : Nat => .int (lo + k)) g = .ok ((l.filter p).map f) g := by
    intro l lo
    induction l with
    | nil => intro _; rfl
    | cons a l ih =>
      intro hh
      obtain ⟨h1, h2⟩ := hh a List.mem_cons_self
      have ih' := ih fun x hx => hh x (List.mem_cons_of_mem _ hx)
      show (ft (ds0.set i (.sh (.int (lo + a)))) g).noer.bind (fun b g => if b = true then (fe (ds0.set i (.sh (.int (lo + a)))) g).noer.bind fun y g => (lcGo (gN i) ft fe ds0 (l.map fun k : Nat => .int (lo + k)) g).bind fun r g => .ok (y :: r) g else lcGo (gN i) ft fe ds0 (l.map fun k : Nat => .int (lo + k)) g) = _
      rw [h1]
      show (if p a = true then (fe (ds0.set i (.sh (.int (lo + a)))) g).noer.bind fun y g => (lcGo (gN i) ft fe ds0 (l.map fun k : Nat => .int (lo + k)) g).bind fun r g => .ok (y :: r) g else lcGo (gN i) ft fe ds0 (l.map fun k : Nat => .int (lo + k)) g) = _
      by_cases hp : p a = true
      · rw [if_pos hp, h2 hp, List.filter_cons_of_pos hp]
        show (lcGo (gN i) ft fe ds0 (l.map fun k : Nat => .int (lo + k)) g).bind (fun r g => .ok (f a :: r) g) = _
        rw [ih']
        rfl
      · rw [if_neg hp, ih', List.filter_cons_of_neg hp]
  intro n lo h
  exact core (List.range n) lo fun k hk => h k (List.mem_range.mp hk)
end DL

/-! DL, part 23: what a for walks, further: range downwards. -/
namespace DL
open PySem L2

def dwnL (hi : Int) (n : Nat) : List Dat := (List.range n).map fun i : Nat => .int (hi + (i : Int) * -1)
def rng3 : List Dat → Option (List Dat)
  | [.int i, .int j, .int c] => if c = -1 ∧ (-few ≤ i ∧ i ≤ few) ∧ -few ≤ j ∧ j ≤ few then some (dwnL i (i - j).toNat) else none
  | _ => none
theorem dwnL_get {lo : Int} {n i : Nat} {d : Dat} (h : (dwnL lo n)[i]? = some d) : i < n ∧ d = .int (lo + (i : Int) * -1) := by
  unfold dwnL at h
  rw [List.getElem?_map] at h
  by_cases hi : i < n
  · rw [List.getElem?_range hi] at h
    exact ⟨hi, (Option.some.inj h).symm⟩
  · rw [List.getElem?_eq_none (by rw [List.length_range]; omega)] at h
    cases h
theorem dwnL_len (lo : Int) (n : Nat) : (dwnL lo n).length = n := by unfold dwnL; rw [List.length_map, List.length_range]
theorem it_dwn {G : Gm} {A1 : List Addr} {M1 : Hp} {lo : Int} {n : Nat} : ItOk G (Itc lo (-1) n) A1 M1 (dwnL lo n) := fun i A M H g inc wd gl => by
  refine ⟨fun d hd => ?_, fun hl => by rw [dwnL_len] at hl; exact hl⟩
  obtain ⟨h1, rfl⟩ := dwnL_get hd
  refine ⟨h1, fun x H' hy => ?_⟩
  obtain ⟨rfl, rfl⟩ := hy
  exact ⟨M, wd.refl, gl, .int _⟩
section
variable {X : Cx} {w : Wc}
theorem i_rng3 {tg a b c : Expr} {fa : DA} {p pos : Pos} (hg : L2.Gl X "range") (hm : X.mg "range" = none) (ha : AD X w [a, b, c] fa) (hs : starEach [a, b, c] X.env = (false, eval a X.env) :: starEach [b, c] X.env) (hpl : (backTo pos (starEach [b, c] X.env)).any (·.1) = false) :
    ID X w tg (.Call (.Name "range" p) [a, b, c] [] pos) (dOpA rng3 fa) :=
  pi_imp (pi_range3 hg hm ha hs hpl) fun σ H R ⟨B, A, M, ds, g, rel, p⟩ => ⟨B, A, M, ds, g, rel, (Rs.post_bind p).imp (fun l g1 p1 vs A1 M1 H1 gr gl r => by
    obtain ⟨z, ez, qz⟩ := post_opt p1
    unfold rng3 at ez
    split at ez
    · rename_i i j k
      split at ez
      · rename_i hj
        cases ez
        obtain ⟨h0, ⟨h1, h2⟩, h3, h4⟩ := hj
        subst h0
        have h1 : -100000 ≤ i := h1
        have h2 : i ≤ 100000 := h2
        have h3 : -100000 ≤ j := h3
        have h4 : j ≤ 100000 := h4
        cases r with
        | cons r0 r =>
          cases r0
          cases r with
          | cons r1 r =>
            cases r1
            cases r with
            | cons r2 r =>
              cases r
              cases r2
              exact ⟨i, j, -1, _, rfl, RgC.neg (by omega) (by omega) (by omega) (by omega), qz _ A1 M1 H1 gr gl it_dwn⟩
      · cases ez
    · cases ez) fun _ _ z => z⟩
end
/-! ### downwards, by what is kept -/
theorem for_down {i : Nat} {b : DS} (I : Nat → DEnv → Gl → Prop) {lo : Int} {n : Nat} {ds : DEnv} {g : Gl} (hs : ∀ (k : Nat) (ds : DEnv) (g : Gl), k < n → I k ds g → ∃ ds2 g2, b (ds.set i (.sh (.int (lo - k)))) g = .ok (.nx ds2) g2 ∧ I (k + 1) ds2 g2) (h : I 0 ds g) :
    ∃ ds' g', forGo (gN i) b (dwnL lo n) ds g = .ok (.nx ds') g' ∧ I n ds' g' := by
  obtain ⟨ds', g', e, h'⟩ := for_ev (tf := gN i) (b := b) I (dwnL lo n) 0 ds g (fun k d ds g hk hi => by
    obtain ⟨h1, rfl⟩ := dwnL_get hk
    rw [Nat.zero_add] at hi ⊢
    obtain ⟨ds2, g2, e1, e2⟩ := hs k ds g h1 hi
    have e : lo + (k : Int) * -1 = lo - (k : Int) := by omega
    rw [e]
    exact ⟨_, ds2, g2, rfl, e1, e2⟩) h
  rw [Nat.zero_add, dwnL_len] at h'
  exact ⟨ds', g', e, h'⟩
/-! ### which clause takes which error -/
def mEx (es : List Nat) (c : Nat) : Nat → Option Bool := fun i => if i ∈ es then some (decide (i = c)) else none
theorem mEx_some {es : List Nat} {c i : Nat} {b : Bool} (h : mEx es c i = some b) : i ∈ es ∧ decide (i = c) = b := by
  unfold mEx at h
  split at h
  · rename_i hi
    exact ⟨hi, Option.some.inj h⟩
  · cases h
theorem exm_at {K : PySem.W.Frag} {mg : Str → Option Value} {x y : Str} {C D : Addr} {b : Bool} (hx : ExcAt K mg x C) (hy : ExcAt K mg y D) (s : PySem.W.subIn K (.ref C) (.ref D) = some b) : PySem.W.exmOne K (.ref C) (.ref D) = some b :=
  PySem.W.exm_ref hy.ox.exC hy.hd hy.ox.tyC s
end DL

/-! DL, part 24: a thing of one's own that is kept; three names at once, the last a new list. -/
namespace DL
open PySem L2

def dFrz (i : Nat) (f : DS) : DS := fun ds g => match ds[i]? with
  | some (.own l) => f (ds.set i (.sh (.lst l))) g
  | some (.ownD ks l) => f (ds.set i (.sh (.dct ks l))) g
  | some (.sh _) => f ds g
  | _ => .no
section
variable {w : Wc} {B : Bs} {A : List Addr} {M H : Hp} {σ : L2.St} {ds : DEnv} {g : Gl}
theorem Rel.frz {i : Nat} {p : Addr} {o : HO} {d : Dat} (rel : Rel w B A M H σ ds g) (hi : isOwn ds[i]? = true) (e1 : σ[i]? = some (some (.ref p))) (hp : H p = some o) (m : Mine B A M p) (hr : Rp w.G A (upd M p o) (.ref p) d) :
    Rel w B A (upd M p o) H σ (ds.set i (.sh d)) g ∧ Same M (upd M p o) := by
  obtain ⟨o1, o2, o3⟩ := rel.out hp m
  have il : i < ds.length := by
    cases q : ds[i]? with
    | none => rw [q] at hi; cases hi
    | some s => exact (List.getElem?_eq_some_iff.mp q).1
  refine ⟨⟨o1, o3, by rw [List.length_set]; exact rel.len, fun j s e => ?_, fun j k q hjk a1 a2 b1 b2 => ?_, rel.zo⟩, o2⟩
  · by_cases hj : i = j
    · subst hj
      rw [List.getElem?_set_self il] at e
      cases e
      exact ⟨.ref p, e1, hr⟩
    · rw [List.getElem?_set_ne hj] at e
      have q := rel.sl j s e
      have np : ∀ q', isOwn ds[j]? = true → σ[j]? = some (some (.ref q')) → q' ≠ p := fun q' oj ej z => rel.dj i j p hj hi oj e1 (by rw [ej, z])
      have mono : ∀ {v : V} {d : Dat}, Rp w.G A M v d → Rp w.G A (upd M p o) v d := fun r => r.mono (fun _ _ z => z) o2
      have monoA : ∀ {v : List V} {d : List Dat}, RpA w.G A M v d → RpA w.G A (upd M p o) v d := fun r => r.mono (fun _ _ z => z) o2
      cases s with
      | unset => trivial
      | sh d =>
        obtain ⟨u, e2, r⟩ := q
        exact ⟨u, e2, mono r⟩
      | own l =>
        obtain ⟨q', ys, e3, e4, e5, e6, e7⟩ := q
        have n := np q' (by rw [e]; rfl) e3
        exact ⟨q', ys, e3, e4, monoA e5, (upd_ne n).trans e6, e7⟩
      | ownD ks l =>
        obtain ⟨q', ys, e3, e4, el, e5, e6, e7⟩ := q
        have n := np q' (by rw [e]; rfl) e3
        exact ⟨q', ys, e3, e4, el, monoA e5, (upd_ne n).trans e6, e7⟩
      | self ks l =>
        obtain ⟨q', dx, ys, e3, e4, el, e5, e6, e7⟩ := q
        have n := np q' (by rw [e]; rfl) e3
        exact ⟨q', dx, ys, e3, e4, el, monoA e5, (upd_ne n).trans e6, e7⟩
      | exc er =>
        obtain ⟨e3, ⟨e4, e5, e6⟩, e7⟩ := q
        refine ⟨e3, ⟨e4, e5, ?_⟩, e7⟩
        rcases e6 with e6 | ⟨dd, ys, d1, d2, d3⟩
        · exact .inl e6
        · exact .inr ⟨dd, ys, d1, d2, monoA d3⟩
  · have own : ∀ j : Nat, isOwn (ds.set i (.sh d))[j]? = true → isOwn ds[j]? = true := fun j h => by
      by_cases hj : i = j
      · subst hj
        exact hi
      · rw [List.getElem?_set_ne hj] at h
        exact h
    exact rel.dj j k q hjk (own j a1) (own k a2) b1 b2
end
section
variable {X : Cx} {w : Wc} {st : Stmt} {f : DS}
theorem s_frz {i : Nat} (h : SD X w st f) : SD X w st (dFrz i f) := ps_imp h fun D σ H ⟨B, A, M, ds, g, rel, p⟩ => by
  unfold dFrz at p
  split at p
  · rename_i l hd
    obtain ⟨a, xs, e1, e2, e3, m⟩ := rel.sl i _ hd
    have sm : Same M (upd M a (.lst xs)) := (rel.out e2 m).2.1
    obtain ⟨r, s⟩ := rel.frz (by rw [hd]; rfl) e1 e2 m (.lst upd_same (e3.mono (fun _ _ z => z) sm))
    exact ⟨B, A, _, _, g, r, p.imp (fun _ _ q => QS.inc q ⟨fun _ _ z => z, s⟩) fun _ _ z => z⟩
  · rename_i ks l hd
    obtain ⟨a, xs, e1, e2, el, e3, m⟩ := rel.sl i _ hd
    have sm : Same M (upd M a (.dK ((ks.map Sum.inr).zip xs))) := (rel.out e2 m).2.1
    obtain ⟨r, s⟩ := rel.frz (by rw [hd]; rfl) e1 e2 m (.dct upd_same el (e3.mono (fun _ _ z => z) sm))
    exact ⟨B, A, _, _, g, r, p.imp (fun _ _ q => QS.inc q ⟨fun _ _ z => z, s⟩) fun _ _ z => z⟩
  · exact ⟨B, A, M, ds, g, rel, p⟩
  · exact p.elim
/-- x, y, z = e, e', new list -/
def dPar3G (i j k : Nat) (fa fb : DE) (f : DA) : DS := fun ds g => (fa ds g).bind fun a g => (fb ds g).bind fun b g => (f ds g).bind fun l g => .ok (.nx (((ds.set k (.own l)).set i (.sh a)).set j (.sh b))) g
theorem par3G_go {fa fb : DE} {ff : DA} {D : Ends} {σ : L2.St} {H : Hp} {i j k : Nat} (hik : i ≠ k) (hjk : j ≠ k) (h : sD w (dPar3G i j k fa fb ff) D σ H) : tPar3 i j k (tCons (tD w fa) (tCons (tD w fb) (tCons (fD w ff) tNil))) D σ H := by
  obtain ⟨B, A, M, ds, g, rel, p⟩ := h
  refine ⟨B, A, M, ds, g, rel, (Rs.post_bind p).imp (fun a g1 p1 v A1 M1 H1 gr gl r => ?_) fun e g z => rel.es z⟩
  have rel1 := rel.grow gr gl
  refine ⟨B, A1, M1, ds, g1, rel1, (Rs.post_bind p1).imp (fun b g2 p2 u A2 M2 H2 gr2 gl2 r2 => ?_) fun e g z => rel1.es z⟩
  have rel2 := rel1.grow gr2 gl2
  refine ⟨B, A2, M2, ds, g2, rel2, (Rs.post_bind p2).imp (fun l g3 p3 q xs A3 M3 H3 gr3 gl3 hn hp mn na r3 => ?_) fun e g z => rel2.es z⟩
  refine ⟨_, _, _, rfl, ?_⟩
  rw [set_swap _ hjk, set_swap σ hik]
  exact p3 A3 M3 H3 _ (((rel2.setOwn (rel2.grow gr3 gl3) hn hp mn na r3).setSh ((r.grow gr2).grow gr3)).setSh (r2.grow gr3)) ((gr.inc.trans gr2.inc).trans gr3.inc)
end
/-! ### rows for working out -/
def kFrz (i : Nat) (f : DS) (ds : DEnv) (s : Option Slot) (g : Gl) : Rs Out := match s with
  | some (.own l) => f (ds.set i (.sh (.lst l))) g
  | some (.ownD ks l) => f (ds.set i (.sh (.dct ks l))) g
  | some (.sh _) => f ds g
  | _ => .no
def kPar3G (i j k : Nat) (fb : DE) (f : DA) (ds : DEnv) (r : Rs Dat) : Rs Out := r.bind fun a g => (fb ds g).bind fun b g => (f ds g).bind fun l g => .ok (.nx (((ds.set k (.own l)).set i (.sh a)).set j (.sh b))) g
def kPar3G2 (i j k : Nat) (a : Dat) (f : DA) (ds : DEnv) (r : Rs Dat) : Rs Out := r.bind fun b g => (f ds g).bind fun l g => .ok (.nx (((ds.set k (.own l)).set i (.sh a)).set j (.sh b))) g
def kPar3G3 (i j k : Nat) (a b : Dat) (ds : DEnv) (r : Rs (List Dat)) : Rs Out := r.bind fun l g => .ok (.nx (((ds.set k (.own l)).set i (.sh a)).set j (.sh b))) g
def kX (r : Rs Dat) : Rs Unit := r.bind fun _ g => .ok () g
def kXf (c : Nat) (f : Str) (s : Option Slot) (g : Gl) : Rs Dat := match s with
  | some (.exc e) => if e.c = c then Rs.opt ((e.ks.zip e.vs).lookup f) g else .no
  | _ => .no
def kTry (hs : List Cl) (ds : DEnv) (r : Rs Unit) : Rs Out := match r with
  | .no => .no
  | .ok _ g => .ok (.nx ds) g
  | .er e g => dHds hs e ds g
def kHd (m : Option Bool) (h : Cl) (r : List Cl) (e : Er) (ds : DEnv) (g : Gl) : Rs Out := match m with
  | some true => (h.f (exSlot h.i e ds) g).noer.bind (outOf h.i)
  | some false => dHds r e ds g
  | none => .no
def kOut (i : Option Nat) (r : Rs Out) : Rs Out := r.noer.bind (outOf i)
theorem EV7 :
    (∀ (i : Nat) (f : DS) (ds : DEnv) (g : Gl), dFrz i f ds g = kFrz i f ds ds[i]? g) ∧ (∀ (i : Nat) (f : DS) (ds : DEnv) (l : List Dat) (g : Gl), kFrz i f ds (some (.own l)) g = f (ds.set i (.sh (.lst l))) g) ∧ (∀ (i : Nat) (f : DS) (ds : DEnv) (d : Dat) (g : Gl), kFrz i f ds (some (.sh d)) g = f ds g) ∧
    (∀ (i j k : Nat) (fa fb : DE) (f : DA) (ds : DEnv) (g : Gl), dPar3G i j k fa fb f ds g = kPar3G i j k fb f ds (fa ds g)) ∧ (∀ (i j k : Nat) (fb : DE) (f : DA) (ds : DEnv) (a : Dat) (g : Gl), kPar3G i j k fb f ds (.ok a g) = kPar3G2 i j k a f ds (fb ds g)) ∧
    (∀ (i j k : Nat) (f : DA) (ds : DEnv) (a b : Dat) (g : Gl), kPar3G2 i j k a f ds (.ok b g) = kPar3G3 i j k a b ds (f ds g)) ∧ (∀ (i j k : Nat) (ds : DEnv) (a b : Dat) (l : List Dat) (g : Gl), kPar3G3 i j k a b ds (.ok l g) = .ok (.nx (((ds.set k (.own l)).set i (.sh a)).set j (.sh b))) g) ∧
    (∀ (f : DE) (ds : DEnv) (g : Gl), dX f ds g = kX (f ds g)) ∧ (∀ (d : Dat) (g : Gl), kX (.ok d g) = .ok () g) ∧ (∀ (e : Er) (g : Gl), kX (.er e g) = .er e g) ∧ (∀ (i c : Nat) (f : Str) (ds : DEnv) (g : Gl), dXf i c f ds g = kXf c f ds[i]? g) ∧
    (∀ (c : Nat) (f : Str) (d : Dat) (g : Gl), kXf c f (some (.exc ⟨c, [f], [d]⟩)) g = .ok d g) ∧ (∀ (f : DX) (hs : List Cl) (ds : DEnv) (g : Gl), noExc ds = true → dTry f hs ds g = kTry hs ds (f ds g)) ∧ (∀ (hs : List Cl) (ds : DEnv) (u : Unit) (g : Gl), kTry hs ds (.ok u g) = .ok (.nx ds) g) ∧
    (∀ (hs : List Cl) (ds : DEnv) (e : Er) (g : Gl), kTry hs ds (.er e g) = dHds hs e ds g) ∧ (∀ (h : Cl) (r : List Cl) (e : Er) (ds : DEnv) (g : Gl), dHds (h :: r) e ds g = kHd (h.m e.c) h r e ds g) ∧ (∀ (h : Cl) (r : List Cl) (e : Er) (ds : DEnv) (g : Gl), kHd (some true) h r e ds g = kOut h.i (h.f (exSlot h.i e ds) g)) ∧
    (∀ (h : Cl) (r : List Cl) (e : Er) (ds : DEnv) (g : Gl), kHd (some false) h r e ds g = dHds r e ds g) ∧ (∀ (ds : DEnv) (g : Gl), noExc ds = true → kOut none (.ok (.nx ds) g) = .ok (.nx ds) g) ∧ (∀ (i : Nat) (ds : DEnv) (g : Gl), noExc (ds.set i .unset) = true → kOut (some i) (.ok (.nx ds) g) = .ok (.nx (ds.set i .unset)) g) ∧
    (∀ (e : Er) (ds : DEnv), exSlot none e ds = ds) ∧ (∀ (i : Nat) (e : Er) (ds : DEnv), exSlot (some i) e ds = ds.set i (.exc e)) ∧ (noExc [] = true) ∧ (∀ (d : Dat) (l : List Slot), noExc (.sh d :: l) = noExc l) ∧ (∀ (l : List Slot), noExc (.unset :: l) = noExc l) ∧ (∀ (d : List Dat) (l : List Slot), noExc (.own d :: l) = noExc l) := by
  refine ⟨?_, ?_, ?_, ?_, ?_, ?_, ?_, ?_, ?_, ?_, ?_, ?_, ?_, ?_, ?_, ?_, ?_, ?_, ?_, ?_, ?_, ?_, ?_, ?_, ?_, ?_⟩ <;> intros
  all_goals first | rfl | exact if_pos (by assumption) | skip
  rename_i c f d g
  show (if c = c then Rs.opt ((([f] : List Str).zip [d]).lookup f) g else .no) = _
  rw [if_pos rfl]
  show Rs.opt ([(f, d)].lookup f) g = _
  rw [List.lookup_cons, beq_self_eq_true]
  rfl
theorem EV8 :
    (∀ (f2 : DS) (e : Er) (g : Gl), kSeq f2 (.er e g) = .er e g) ∧ (∀ (ds : DEnv) (e : Er) (g : Gl), kDrop ds (.er e g) = .er e g) ∧ (∀ (e : Er) (g : Gl), kF (.er e g) = .er e g) ∧ (∀ (e : Er) (g : Gl), kRet (.er e g) = .er e g) ∧ (∀ (i : Nat) (ds : DEnv) (e : Er) (g : Gl), kAsg i ds (.er e g) = .er e g) ∧
    (∀ (F : Fn) (e : Er) (g : Gl), kCall F (.er e g) = .er e g) ∧ (∀ (r : DA) (ds : DEnv) (e : Er) (g : Gl), kCons r ds (.er e g) = .er e g) ∧ (∀ (d : Dat) (e : Er) (g : Gl), kCons2 d (.er e g) = .er e g) ∧ (∀ (e : Er) (g : Gl), kI (.er e g) = .er e g) ∧ (∀ (F : In) (e : Er) (g : Gl), kRule F (.er e g) = .er e g) ∧ (∀ (e : Er) (g : Gl), kRule2 (.er e g) = .er e g) := by
  refine ⟨?_, ?_, ?_, ?_, ?_, ?_, ?_, ?_, ?_, ?_, ?_⟩ <;> intros <;> rfl
end DL

/-! DL, part 25: plain data equals itself. -/
namespace DL
open PySem L2 PyProof PyProof.Rows

inductive Pl : Nat → Dat → Prop
  | non {n : Nat} : Pl n .non
  | bl {n : Nat} {b : Bool} : Pl n (.bl b)
  | int {n : Nat} {i : Int} : Pl n (.int i)
  | str {n : Nat} {x : Str} : PySem.PyData.strOk x = true → Pl n (.str x)
  | tup {n : Nat} {l : List Dat} : (∀ d ∈ l, Pl n d) → Pl (n + 1) (.tup l)
  | lst {n : Nat} {l : List Dat} : (∀ d ∈ l, Pl n d) → Pl (n + 1) (.lst l)
theorem pys_of {n : Nat} : ∀ {l : List Dat}, (∀ d ∈ l, ∃ p, toPy d = some p ∧ p.canLay0 = true ∧ p.depth ≤ n) → ∃ ps, toPys l = some ps ∧ PyData.canLayAll0 ps = true ∧ PyData.depthAll ps ≤ n
  | [], _ => ⟨[], rfl, rfl, Nat.zero_le _⟩
  | d :: l, h => by
    obtain ⟨p, h1, h2, h3⟩ := h d List.mem_cons_self
    obtain ⟨ps, h4, h5, h6⟩ := pys_of (l := l) fun x hx => h x (List.mem_cons_of_mem _ hx)
    refine ⟨p :: ps, by unfold toPys; rw [h1, h4], by rw [PyData.canLayAll0, h2, h5]; rfl, by rw [PyData.depthAll]; omega⟩
theorem Pl.py {n : Nat} {d : Dat} (h : Pl n d) : ∃ p, toPy d = some p ∧ p.canLay0 = true ∧ p.depth ≤ n := by
  induction h with
  | non => exact ⟨.none, rfl, rfl, Nat.zero_le _⟩
  | bl => exact ⟨.bool _, rfl, rfl, Nat.zero_le _⟩
  | int => exact ⟨.int _, rfl, rfl, Nat.zero_le _⟩
  | str h => exact ⟨.str _, rfl, by rw [PyData.canLay0]; exact h, Nat.zero_le _⟩
  | tup _ ih =>
    obtain ⟨ps, h1, h2, h3⟩ := pys_of ih
    exact ⟨.tuple ps, by unfold toPy; rw [h1], by rw [PyData.canLay0]; exact h2, by rw [PyData.depth]; omega⟩
  | lst _ ih =>
    obtain ⟨ps, h1, h2, h3⟩ := pys_of ih
    exact ⟨.list ps, by unfold toPy; rw [h1], by rw [PyData.canLay0]; exact h2, by rw [PyData.depth]; omega⟩
theorem eq_pl {n : Nat} {d : Dat} (h : Pl n d) (hn : n ≤ 64) : eqD d d = some true := by
  obtain ⟨p, h1, h2, h3⟩ := h.py
  have hs : SeqAt.shaped p = true := Bool.and_eq_true_iff.mpr ⟨h2, decide_eq_true (by omega)⟩
  unfold eqD
  rw [h1]
  show (if SeqAt.shaped p = true ∧ SeqAt.shaped p = true then some (PyData.eqv p p) else none) = _
  rw [if_pos ⟨hs, hs⟩, SeqAt.eqv_refl p h2]
theorem ne_pl {n : Nat} {d : Dat} (h : Pl n d) (hn : n ≤ 64) : neD d d = some false := by
  unfold neD
  rw [eq_pl h hn]
  rfl
theorem Pl.mono {m n : Nat} {d : Dat} (h : Pl m d) (hn : m ≤ n) : Pl n d := by
  induction h generalizing n with
  | non => exact .non
  | bl => exact .bl
  | int => exact .int
  | str h => exact .str h
  | tup _ ih =>
    obtain ⟨k, rfl⟩ : ∃ k, n = k + 1 := ⟨n - 1, by omega⟩
    exact .tup fun d hd => ih d hd (by omega)
  | lst _ ih =>
    obtain ⟨k, rfl⟩ : ∃ k, n = k + 1 := ⟨n - 1, by omega⟩
    exact .lst fun d hd => ih d hd (by omega)
end DL

/-! DL, part 26: all(..) of a list of Bools. -/
namespace DL
open PySem L2

def boolsD : List Dat → Option (List Bool)
  | [] => some []
  | .bl b :: l => match boolsD l with
    | some r => some (b :: r)
    | none => none
  | _ => none
theorem boolsD_some {G : Gm} {A : List Addr} {M : Hp} : ∀ {xs : List V} {l : List Dat} {bs : List Bool}, RpA G A M xs l → boolsD l = some bs → xs = bs.map V.bl
  | _, _, _, .nil, e => by cases e; rfl
  | _, .bl b :: l, bs, .cons h r, e => by
    unfold boolsD at e
    cases el : boolsD l with
    | none => rw [el] at e; cases e
    | some cs =>
      rw [el] at e
      cases e
      cases h
      rw [boolsD_some r el]
      rfl
  | _, .non :: _, _, .cons _ _, e => by cases e
  | _, .int _ :: _, _, .cons _ _, e => by cases e
  | _, .str _ :: _, _, .cons _ _, e => by cases e
  | _, .tup _ :: _, _, .cons _ _, e => by cases e
  | _, .lst _ :: _, _, .cons _ _, e => by cases e
  | _, .dct _ _ :: _, _, .cons _ _, e => by cases e
  | _, .rul _ _ _ :: _, _, .cons _ _, e => by cases e
  | _, .scr _ :: _, _, .cons _ _, e => by cases e
  | _, .mref _ :: _, _, .cons _ _, e => by cases e
def oAll (_ : Gl) : List Dat → Option Dat
  | [.lst l] => match boolsD l with
    | some bs => some (.bl (bs.all id))
    | none => none
  | _ => none
theorem r_all {G : Gm} : R1ok G (rAll G.K) oAll := fun A M H g vs l z Q wd gl rv eo q => by
  unfold oAll at eo
  split at eo
  · rename_i l
    split at eo
    · rename_i bs hb
      cases eo
      cases rv with
      | cons r0 r =>
        cases r
        obtain ⟨a, xs, rfl, hx, _, r⟩ := Rb.lst r0 wd
        have e := boolsD_some r hb
        subst e
        exact ⟨a, bs, rfl, SqL.of hx, q _ A M H wd.refl gl (.bl _)⟩
    · cases eo
  · cases eo
theorem boolsD_map {α : Type} {f : α → Bool} : ∀ l : List α, boolsD (l.map fun a => Dat.bl (f a)) = some (l.map f)
  | [] => rfl
  | a :: l => by
    show (match boolsD (l.map fun a => Dat.bl (f a)) with
      | some r => some (f a :: r)
      | none => none) = _
    rw [boolsD_map l]
    rfl
end DL

/-! DL, part 27: the empty dict. -/
namespace DL
open PySem L2
section
variable {X : Cx} {w : Wc}
theorem dd_new {pos : Pos} : DD X w (.Dict [] [] pos) [] (dArgs []) :=
  pe_imp pe_dnewK fun σ H Q ⟨B, A, M, ds, g, rel, p⟩ q hq => by
    have gn := Grow.newH (o := .dK []) rel.wd hq
    exact p q [] A M _ gn (rel.gl.newH hq) hq upd_same rfl (new_notM rel.wd hq) (new_notA rel.gl hq) .nil
end
end DL

/-! DL, part 28: slices by places. -/
namespace DL
open PySem L2

theorem cut_take {l : List Dat} {k : Nat} (h : k ≤ l.length) : cutD l none (some (k : Int)) = l.take k := by
  have e1 : HT.sIx l.length 0 none = 0 := rfl
  have e2 : HT.sIx l.length l.length (some (k : Int)) = k := by
    simp only [HT.sIx]
    split <;> omega
  unfold cutD
  rw [e1, e2]
  rfl
theorem cut_drop {l : List Dat} {k : Nat} (h : k ≤ l.length) : cutD l (some (k : Int)) none = l.drop k := by
  have e1 : HT.sIx l.length l.length none = l.length := rfl
  have e2 : HT.sIx l.length 0 (some (k : Int)) = k := by
    simp only [HT.sIx]
    split <;> omega
  unfold cutD
  rw [e1, e2]
  exact List.take_of_length_le (by rw [List.length_drop]; omega)
end DL

/-! DL, part 29: slices of tuples and lists as kept values; xs turned round. -/
namespace DL
open PySem L2
def oSlK (g : Gl) (d : Dat) (lo hi : Option Int) : Option Dat := match d with
  | .tup l => some (.tup (cutD l lo hi))
  | _ => match lview g d with
    | some l => some (.lst (cutD l lo hi))
    | none => none
theorem sIx_zero {n : Nat} {lo hi : Option Int} {l : List Dat} (hl : l.length = n) (h : HT.sIx n 0 lo = 0 ∧ HT.sIx n n hi = n) : cutD l lo hi = l := by
  subst hl
  unfold cutD
  rw [h.1, h.2, Nat.sub_zero, List.drop_zero, List.take_length]
section
variable {X : Cx} {w : Wc} {e : Expr} {fe : DE} {fl fh : DO} {lo hi : Option Expr} {pos p2 : Pos}
theorem k_slice (hK : X.K = w.G.K) (he : BD X w e fe) (hl : OD X w lo fl) (hh : OD X w hi fh) : KD X w (.Subscript e (.Slice lo hi none p2) pos) (dSl oSlK fe fl fh) :=
  pe_imp (pe_slice (SlR.or sl_tupA sl_list) he hl hh) fun σ H Q h => sl_go (P := fun A M H => QE w.G A M H Q) h (fun _ _ _ _ _ _ _ _ _ q g l => QE.on q g l) fun A M H g x d l u z wd gl rx ez q => by
    rw [hK]
    unfold oSlK at ez
    split at ez
    · rename_i l0
      cases ez
      obtain ⟨a, xs, rfl, hx, r⟩ := rx.tup wd
      refine .inl ⟨a, xs, rfl, hx, fun hw => ?_, fun hw p hp => QE.atT q wd gl hp (r.cut _ _)⟩
      rw [sIx_zero r.length.symm hw] at q
      cases rx with | fz rx => exact q _ A M H wd.refl gl rx
    · cases el : lview g d with
      | none => rw [el] at ez; cases ez
      | some l0 =>
        rw [el] at ez
        cases ez
        obtain ⟨a, xs, rfl, hx, r⟩ := rx.lview wd gl el
        refine .inr ⟨a, xs, rfl, SqL.of hx, fun p hp => ?_⟩
        have gn := Grow.new (o := .lst (cutV xs l u)) wd gl hp
        exact q (.ref p) A _ _ gn (gl.new wd hp) (.lst upd_same ((r.cut _ _).grow gn))
/-- xs turned round -/
def oRevL (g : Gl) (d : Dat) : Option (List Dat) := match lview g d with
  | some l => some l.reverse
  | none => none
def dRev (fe : DE) : DA := fun ds g => (fe ds g).bind fun d g => Rs.opt (oRevL g d) g
theorem f_rev {k : Nat} {p1 p3 : Pos} (hK : X.K = w.G.K) (he : BD X w e fe) : FD X w (.Subscript e (.Slice none none (some (.UnaryOp .USub (.Constant (.int 1) k p1) p2)) p3) pos) (dRev fe) :=
  pe_imp (pe_revL he) fun σ H Q ⟨B, A, M, ds, g, rel, p⟩ => ⟨B, A, M, ds, g, rel, (Rs.post_bind p).imp (fun d g1 p1 x A1 M1 H1 gr gl rx => by
    obtain ⟨z, ez, qz⟩ := post_opt p1
    unfold oRevL at ez
    cases el : lview g1 d with
    | none => rw [el] at ez; cases ez
    | some l0 =>
      rw [el] at ez
      cases ez
      obtain ⟨a, xs, rfl, hx, r⟩ := rx.lview gr.wd gl el
      exact ⟨a, xs, rfl, by rw [hK]; exact SqL.of hx, fun p hp => (QF.on qz gr gl).at gr.wd gl hp r.rev⟩) fun _ _ z => z⟩
end
/-! ### working it out -/
def kSl {α : Type} (o : Gl → Dat → Option Int → Option Int → Option α) (fl fh : DO) (ds : DEnv) (r : Rs Dat) : Rs α := r.bind fun d g => (fl ds g).bind fun l g => (fh ds g).bind fun u g => Rs.opt (o g d l u) g
def kSl2 {α : Type} (o : Gl → Dat → Option Int → Option Int → Option α) (d : Dat) (fh : DO) (ds : DEnv) (r : Rs (Option Int)) : Rs α := r.bind fun l g => (fh ds g).bind fun u g => Rs.opt (o g d l u) g
def kSl3 {α : Type} (o : Gl → Dat → Option Int → Option Int → Option α) (d : Dat) (l : Option Int) (r : Rs (Option Int)) : Rs α := r.bind fun u g => Rs.opt (o g d l u) g
def kPt (r : Rs Dat) : Rs (Option Int) := r.bind fun d g => match d with
  | .int i => .ok (some i) g
  | _ => .no
def kRev (r : Rs Dat) : Rs (List Dat) := r.bind fun d g => Rs.opt (oRevL g d) g
theorem EV10 :
    (∀ (o : Gl → Dat → Option Int → Option Int → Option (List Dat)) (fe : DE) (fl fh : DO) (ds : DEnv) (g : Gl), dSl o fe fl fh ds g = kSl o fl fh ds (fe ds g)) ∧ (∀ (o : Gl → Dat → Option Int → Option Int → Option (List Dat)) (fl fh : DO) (ds : DEnv) (d : Dat) (g : Gl), kSl o fl fh ds (.ok d g) = kSl2 o d fh ds (fl ds g)) ∧
    (∀ (o : Gl → Dat → Option Int → Option Int → Option (List Dat)) (d : Dat) (fh : DO) (ds : DEnv) (l : Option Int) (g : Gl), kSl2 o d fh ds (.ok l g) = kSl3 o d l (fh ds g)) ∧ (∀ (o : Gl → Dat → Option Int → Option Int → Option (List Dat)) (d : Dat) (l u : Option Int) (g : Gl), kSl3 o d l (.ok u g) = Rs.opt (o g d l u) g) ∧
    (∀ (o : Gl → Dat → Option Int → Option Int → Option Dat) (fe : DE) (fl fh : DO) (ds : DEnv) (g : Gl), dSl o fe fl fh ds g = kSl o fl fh ds (fe ds g)) ∧ (∀ (o : Gl → Dat → Option Int → Option Int → Option Dat) (fl fh : DO) (ds : DEnv) (d : Dat) (g : Gl), kSl o fl fh ds (.ok d g) = kSl2 o d fh ds (fl ds g)) ∧
    (∀ (o : Gl → Dat → Option Int → Option Int → Option Dat) (d : Dat) (fh : DO) (ds : DEnv) (l : Option Int) (g : Gl), kSl2 o d fh ds (.ok l g) = kSl3 o d l (fh ds g)) ∧ (∀ (o : Gl → Dat → Option Int → Option Int → Option Dat) (d : Dat) (l u : Option Int) (g : Gl), kSl3 o d l (.ok u g) = Rs.opt (o g d l u) g) ∧
    (∀ (ds : DEnv) (g : Gl), dNoP ds g = .ok none g) ∧ (∀ (f : DE) (ds : DEnv) (g : Gl), dPart f ds g = kPt (f ds g)) ∧ (∀ (i : Int) (g : Gl), kPt (.ok (.int i) g) = .ok (some i) g) ∧
    (∀ (fe : DE) (ds : DEnv) (g : Gl), dRev fe ds g = kRev (fe ds g)) ∧ (∀ (l : List Dat) (g : Gl), kRev (.ok (.lst l) g) = .ok l.reverse g) ∧
    (∀ (g : Gl) (l : List Dat) (lo hi : Option Int), oSlK g (.tup l) lo hi = some (.tup (cutD l lo hi))) ∧ (∀ (g : Gl) (l : List Dat) (lo hi : Option Int), oSlK g (.lst l) lo hi = some (.lst (cutD l lo hi))) := by
  refine ⟨?_, ?_, ?_, ?_, ?_, ?_, ?_, ?_, ?_, ?_, ?_, ?_, ?_, ?_, ?_⟩ <;> intros <;> rfl
end DL

/-! DL, part 30: [f, g][i](e, ..), f and g defs. -/
namespace DL
open PySem L2
def tPick (f1 f2 : Addr) (sp1 sp2 : Sp) (E : St → XK) (tf : TE) (t : TA) : TE := fun σ H Q => tf σ H fun y H1 => (y = .ref f1 ∧ t σ H1 fun vs H2 => sp1 vs H2 Q (E σ)) ∨ (y = .ref f2 ∧ t σ H1 fun vs H2 => sp2 vs H2 Q (E σ))
section
variable {X : Cx} {CX : CXT} {k1 k2 : Nat} {f1 f2 : Addr} {fd1 fd2 : FuncData} {ps1 ps2 : List Str} {sp1 sp2 : Sp} {E : St → XK} {fe e : Expr} {es : List Expr} {tf : TE} {t : TA} {pos : Pos}
theorem pe_pick (hf : PE X fe tf) (F1 : FnOk X.prog X.w X.K X.mg X.base CX k1 f1 fd1 ps1 sp1) (hr1 : Room k1 X.A) (hk1 : PySem.W.keepIn X.K (.ref f1) = true) (hb1 : Binds X.K fd1 ps1 []) (F2 : FnOk X.prog X.w X.K X.mg X.base CX k2 f2 fd2 ps2 sp2) (hr2 : Room k2 X.A)
    (hk2 : PySem.W.keepIn X.K (.ref f2) = true) (hb2 : Binds X.K fd2 ps2 []) (hx : ∀ σ, PassesAt CX X σ (E σ)) (ha : PA X (e :: es) t)
    (ht : eval (.Call fe (e :: es) [] pos) X.env = (do callWith pos (← eval fe X.env) [] (backTo pos (starEach (e :: es) X.env)) (backToKw pos (keywordEach [] X.env))))
    (he : starEach (e :: es) X.env = (false, eval e X.env) :: starEach es X.env) (hpl : (backTo pos (starEach es X.env)).any (·.1) = false) : PE X (.Call fe (e :: es) [] pos) (tPick f1 f2 sp1 sp2 E tf t) := by
  refine ⟨fun pins s σ H Q I h => ?_⟩
  refine PyProof.Rows.Call_ (thn (hf.run pins s σ H _ I h) fun u s1 ⟨y, H1, I1, ry, q⟩ => ?_) ht
  rcases q with ⟨ey, q⟩ | ⟨ey, q⟩
  · subst ey
    obtain rfl : u = Value.ref f1 := ry
    refine PySem.W.callWith_K (h₀ := X.base) I1.ok.mod.kin hk1 (thn (ha.run pos pins s1 σ H1 _ I1 q) fun us s2 ⟨vs, H2, I2, r, q2⟩ => ⟨I2.kIn, ?_⟩) he hpl
    exact run_fnS F1 hr1 hb1 (hx σ) I2 r q2
  · subst ey
    obtain rfl : u = Value.ref f2 := ry
    refine PySem.W.callWith_K (h₀ := X.base) I1.ok.mod.kin hk2 (thn (ha.run pos pins s1 σ H1 _ I1 q) fun us s2 ⟨vs, H2, I2, r, q2⟩ => ⟨I2.kIn, ?_⟩) he hpl
    exact run_fnS F2 hr2 hb2 (hx σ) I2 r q2
end
/-- one of two defs -/
def pickF (F1 F2 : Fn) (k : Dat) : Option Fn := match k with
  | .int i => if i = 0 then some F1 else if i = 1 then some F2 else none
  | _ => none
def dPick (F1 F2 : Fn) (fi : DE) (fa : DA) : DE := fun ds g => (fi ds g).bind fun k g => match pickF F1 F2 k with
  | some F => (fa ds g).bind fun l g => F l g
  | none => .no
theorem cal_go {P : Program} {w : World} {mg : Str → Option Value} {base : Heap} {G : Gm} {k n : Nat} {x : Str} {F : Fn} (c : Cal P w mg base G k x n F) {A1 : List Addr} {M1 H1 : Hp} {l : List Dat} {vs : List V} {g1 : Gl} {Q : VK} {E' : XK}
    (wd : Wd A1 M1 H1) (gl : GlOk G A1 M1 H1 g1) (r : RpA G A1 M1 vs l) (p : (F l g1).Post (QE G A1 M1 H1 Q) (EF G A1 M1 H1 E')) : spF G n F vs H1 Q E' := by
  have hl : vs.length = n := by
    rw [r.length]
    by_cases h : l.length = n
    · exact h
    · rw [c.len l g1 h] at p
      exact p.elim
  exact ⟨hl, A1, M1, l, g1, wd, gl, r, p⟩
section
variable {X : Cx} {w : Wc} {i e : Expr} {fi : DE} {fa : DA} {es : List Expr} {x1 x2 : Str} {p1 p2 p3 p4 pos : Pos} {k1 k2 j n1 n2 : Nat} {F1 F2 : Fn}
theorem k_pick (c1 : Cal X.prog X.w X.mg X.base w.G k1 x1 n1 F1) (c2 : Cal X.prog X.w X.mg X.base w.G k2 x2 n2 F2) (hK : X.K = w.G.K) (tk : Takes X w.W) (hr : Room j X.A) (hj1 : k1 ≤ j) (hj2 : k2 ≤ j) (hg1 : L2.Gl X x1) (hg2 : L2.Gl X x2) (hi : BD X w i fi) (hs : PlainIx i) (ha : AD X w (e :: es) fa)
    (hd1 : (x1 == ("__debug__" : Str)) = false) (hd2 : (x2 == ("__debug__" : Str)) = false)
    (ht : eval (.Call (.Subscript (.List [.Name x1 p1, .Name x2 p2] p3) i p4) (e :: es) [] pos) X.env = (do callWith pos (← eval (.Subscript (.List [.Name x1 p1, .Name x2 p2] p3) i p4) X.env) [] (backTo pos (starEach (e :: es) X.env)) (backToKw pos (keywordEach [] X.env))))
    (he : starEach (e :: es) X.env = (false, eval e X.env) :: starEach es X.env) (hpl : (backTo pos (starEach es X.env)).any (·.1) = false) :
    KD X w (.Call (.Subscript (.List [.Name x1 p1, .Name x2 p2] p3) i p4) (e :: es) [] pos) (dPick F1 F2 fi fa) := by
  have c1' := c1
  have c2' := c2
  obtain ⟨f1, fd1, ps1, hF1, hm1, hk1, hb1⟩ := c1.ok
  obtain ⟨f2, fd2, ps2, hF2, hm2, hk2, hb2⟩ := c2.ok
  rw [← hK] at hF1 hk1 hb1 hF2 hk2 hb2
  have hf : PE X (.Subscript (.List [.Name x1 p1, .Name x2 p2] p3) i p4) (tOp (rIx X.K) (tLst (tCons (tC (.ref f1)) (tCons (tC (.ref f2)) tNil))) (bD w fi)) :=
    pe_ix ix_seq (pe_lst (pa_cons (pe_glob hg1 hm1 rfl hd1) (pa_cons (pe_glob hg2 hm2 rfl hd2) pa_nil rfl) rfl)) hi hs
  refine pe_imp (pe_pick hf hF1 (hr.mono hj1) hk1 hb1 hF2 (hr.mono hj2) hk2 hb2 (fun σ => passAt tk σ) ha ht he hpl) fun σ H Q ⟨B, A, M, ds, g, rel, p⟩ => ?_
  refine ⟨by rw [sizeLine_eq]; show 2 ≤ _; omega, fun q hq => ?_⟩
  have gn := Grow.newH (o := .lst [.ref f1, .ref f2]) rel.wd hq
  have gln := rel.gl.newH (o := .lst [.ref f1, .ref f2]) hq
  have reln := rel.grow gn gln
  refine ⟨B, A, M, ds, g, reln, (Rs.post_bind p).imp (fun d g1 p1 y A1 M1 H1 gr gl r => ?_) fun e g z => EE.on z gn gln⟩
  have hq1 : H1 q = some (.lst [.ref f1, .ref f2]) := gr.keep q _ upd_same (new_notA rel.gl hq) (fun z => nomatch z)
  have gr1 := gn.trans gr gln (fun _ h => nomatch h)
  have rel1 := rel.grow gr1 gl
  cases d with
  | int z =>
    have ey := r.int
    subst ey
    have go : ∀ F k n x, pickF F1 F2 (.int z) = some F → Cal X.prog X.w X.mg X.base w.G k x n F → aD w fa σ H1 (fun vs H2 => spF w.G n F vs H2 Q (WE w.W σ)) := fun F k n x hp c => by
      rw [hp] at p1
      have p2 := Rs.post_bind p1
      refine ⟨B, A1, M1, ds, g1, rel1, p2.imp (fun l g2 p3 vs A2 M2 H2 gr2 gl2 r2 => ?_) fun e g z => EE.on z gr1 gl⟩
      have gr12 := gr1.trans gr2 gl (fun _ h => nomatch h)
      exact cal_go c gr2.wd gl2 r2 (p3.imp (fun _ _ z => QE.on z gr12 gl2) fun _ _ z => EE.on z gr12 gl2)
    by_cases h0 : z = 0
    · subst h0
      exact .inl ⟨q, [.ref f1, .ref f2], 0, .ref f1, rfl, rfl, SqL.of hq1, rfl, .inl ⟨rfl, go F1 k1 n1 x1 rfl c1'⟩⟩
    · by_cases h1 : z = 1
      · subst h1
        exact .inl ⟨q, [.ref f1, .ref f2], 1, .ref f2, rfl, rfl, SqL.of hq1, rfl, .inr ⟨rfl, go F2 k2 n2 x2 rfl c2'⟩⟩
      · have hn : pickF F1 F2 (.int z) = none := by
          show (if z = 0 then _ else if z = 1 then _ else _) = _
          rw [if_neg h0, if_neg h1]
        rw [hn] at p1
        exact p1.elim
  | _ => exact p1.elim
end
end DL

/-! DL, part 31: instances that are shared: made, their fields, methods, properties; shared lists changed. -/
namespace DL
open PySem L2

def insG (g : Gl) : Dat → Option (List Str × List Dat)
  | .mref k => match g[k]? with
    | some (.ins ks l) => some (ks, l)
    | _ => none
  | _ => none
def lstG (g : Gl) : Dat → Option (Nat × List Dat)
  | .mref k => match g[k]? with
    | some (.lst l) => some (k, l)
    | _ => none
  | _ => none
section
variable {G : Gm} {A : List Addr} {M H : Hp} {g : Gl} {v : V} {d : Dat}
theorem insG_some {ks : List Str} {l : List Dat} (h : insG g d = some (ks, l)) : ∃ k, d = .mref k ∧ g[k]? = some (.ins ks l) := by
  unfold insG at h
  split at h
  · rename_i k
    split at h
    · rename_i ks' l' e
      cases h
      exact ⟨k, rfl, e⟩
    · cases h
  · cases h
theorem lstG_some {k : Nat} {l : List Dat} (h : lstG g d = some (k, l)) : d = .mref k ∧ g[k]? = some (.lst l) := by
  unfold lstG at h
  split at h
  · rename_i k
    split at h
    · rename_i l' e
      cases h
      exact ⟨rfl, e⟩
    · cases h
  · cases h
theorem Rb.ins {ks : List Str} {l : List Dat} (r : Rb G A M H v d) (gl : GlOk G A M H g) (h : insG g d = some (ks, l)) : ∃ a dx xs, v = .ref a ∧ H a = some (.ins G.wC dx (ks.zip xs)) ∧ ks.length = xs.length ∧ RpA G A M xs l ∧ Rp G A M (.ref a) d := by
  obtain ⟨k, rfl, e⟩ := insG_some h
  obtain ⟨a, rfl, ha⟩ := r.mref
  obtain ⟨dx, xs, h1, h2, h3⟩ := gl.ob k a _ ha e
  exact ⟨a, dx, xs, rfl, h1, h2, h3, .mref ha⟩
end
theorem zip_none {m : Str} : ∀ {ks : List Str} {xs : List V}, m ∉ ks → (ks.zip xs).lookup m = none
  | [], _, _ => rfl
  | _ :: _, [], _ => rfl
  | k :: ks, x :: xs, h => by
    have h1 : m ≠ k := fun e => h (e ▸ List.mem_cons_self)
    rw [List.zip_cons_cons, List.lookup_cons]
    have e : (m == k) = false := by simpa using h1
    rw [e]
    exact zip_none fun z => h (List.mem_cons_of_mem _ z)
/-! ### methods -/
def tMethS (C : Addr) (m : Str) (sp : Sp) (E : St → XK) (ta : TE) (t : TA) : TE := fun σ H Q => ta σ H fun x H1 => ∃ a dx fs, x = .ref a ∧ H1 a = some (.ins C dx fs) ∧ fs.lookup m = none ∧ t σ H1 fun vs H2 => sp (x :: vs) H2 Q (E σ)
section
variable {X : Cx} {CX : CXT} {k : Nat} {f C : Addr} {fd : FuncData} {ps : List Str} {sp : Sp} {E : St → XK} {m : Str} {pos apos : Pos} {e o : Expr} {es : List Expr} {ta : TE} {t : TA}
theorem pe_methS {pl : Sem Bool} (he : PE X o ta) (c : Cls X.K C) (hm : Meth X.K C m f) (F : FnOk X.prog X.w X.K X.mg X.base CX k f fd ps sp) (hr : Room k X.A) (hb : Binds X.K fd ps []) (hx : ∀ σ, PassesAt CX X σ (E σ)) (ha : PA X (e :: es) t)
    (hst : starEach (e :: es) X.env = (false, eval e X.env) :: starEach es X.env) (hpl : (backTo pos (starEach es X.env)).any (·.1) = false)
    (ht : eval (.Call (.Attribute o m apos) (e :: es) [] pos) X.env = (do
      let ov ← eval o X.env
      standAt apos.atName
      let (f, first) ← holding [ov] (getMethod ov m pl)
      callWith pos f first (backTo pos (starEach (e :: es) X.env)) (backToKw pos (keywordEach [] X.env)))) : PE X (.Call (.Attribute o m apos) (e :: es) [] pos) (tMethS C m sp E ta t) := by
  refine ⟨fun pins s σ H Q I h => ?_⟩
  refine PySem.W.methodCall_KW (pl := pl) (thn (he.run pins s σ H _ I h) fun u s1 ⟨x, H1, I1, rx, a, dx, fs, ex, ea, l, q⟩ => ?_) ht
  subst ex
  obtain rfl : u = Value.ref a := rx
  refine getmeth_ok I1 ea c hm l ?_
  refine PySem.W.callWith_K (first := [.ref a]) (h₀ := X.base) I.ok.mod.kin hm.kp (thn (ha.run pos pins s1 σ H1 _ I1 q) fun us s2 ⟨vs, H2, I2, r, q2⟩ => ⟨I2.kIn, ?_⟩) hst hpl
  exact run_fnS (us := .ref a :: us) (vs := .ref a :: vs) F hr hb (hx σ) I2 (.cons rfl r) q2
theorem pe_methS0 {pl : Sem Bool} (he : PE X o ta) (c : Cls X.K C) (hm : Meth X.K C m f) (F : FnOk X.prog X.w X.K X.mg X.base CX k f fd ps sp) (hr : Room k X.A) (hb : Binds X.K fd ps []) (hx : ∀ σ, PassesAt CX X σ (E σ))
    (ht : eval (.Call (.Attribute o m apos) [] [] pos) X.env = (do
      let ov ← eval o X.env
      standAt apos.atName
      let (f, first) ← holding [ov] (getMethod ov m pl)
      callWith pos f first (backTo pos (starEach [] X.env)) (backToKw pos (keywordEach [] X.env)))) : PE X (.Call (.Attribute o m apos) [] [] pos) (tMethS C m sp E ta tNil) := by
  refine ⟨fun pins s σ H Q I h => ?_⟩
  refine PySem.W.methodCall_KW (pl := pl) (thn (he.run pins s σ H _ I h) fun u s1 ⟨x, H1, I1, rx, a, dx, fs, ex, ea, l, q⟩ => ?_) ht
  subst ex
  obtain rfl : u = Value.ref a := rx
  refine getmeth_ok I1 ea c hm l ?_
  exact PySem.W.callWith_K0 (first := [.ref a]) I1.kIn hm.kp (run_fnS (us := [.ref a]) (vs := [.ref a]) F hr hb (hx σ) I1 (.cons rfl .nil) q)
end
/-- a method of the class of watchers -/
structure CalM (P : Program) (w : World) (mg : Str → Option Value) (base : Heap) (G : Gm) (k : Nat) (m : Str) (n : Nat) (F : Fn) : Prop where
  ok : ∃ (f : Addr) (fd : FuncData) (ps : List Str), FnOk P w G.K mg base (L2.CX P w) k f fd ps (spF G n F) ∧ Meth G.K G.wC m f ∧ Binds G.K fd ps []
  len : ∀ ds g, ds.length ≠ n → F ds g = .no
theorem calm_go {P : Program} {w : World} {mg : Str → Option Value} {base : Heap} {G : Gm} {k n : Nat} {x : Str} {F : Fn} (c : CalM P w mg base G k x n F) {A1 : List Addr} {M1 H1 : Hp} {l : List Dat} {vs : List V} {g1 : Gl} {Q : VK} {E' : XK}
    (wd : Wd A1 M1 H1) (gl : GlOk G A1 M1 H1 g1) (r : RpA G A1 M1 vs l) (p : (F l g1).Post (QE G A1 M1 H1 Q) (EF G A1 M1 H1 E')) : spF G n F vs H1 Q E' := by
  have hl : vs.length = n := by
    rw [r.length]
    by_cases h : l.length = n
    · exact h
    · rw [c.len l g1 h] at p
      exact p.elim
  exact ⟨hl, A1, M1, l, g1, wd, gl, r, p⟩
def dMeth (m : Str) (F : Fn) (fo : DE) (fa : DA) : DE := fun ds g => (fo ds g).bind fun d g => match insG g d with
  | some (ks, _) => if m ∈ ks then .no else (fa ds g).bind fun l g => F (d :: l) g
  | none => .no
section
variable {X : Cx} {w : Wc} {o e : Expr} {fo : DE} {fa : DA} {es : List Expr} {m : Str} {apos pos : Pos} {k j n : Nat} {F : Fn}
theorem meth_go {Q : VK} {σ : L2.St} {H : Hp} (c : CalM X.prog X.w X.mg X.base w.G k m n F) (h : tD w (dMeth m F fo fa) σ H Q) : tMethS w.G.wC m (spF w.G n F) (WE w.W) (bD w fo) (aD w fa) σ H Q := by
  obtain ⟨B, A, M, ds, g, rel, p⟩ := h
  refine ⟨B, A, M, ds, g, rel, (Rs.post_bind p).imp (fun d g1 p1 v A1 M1 H1 gr gl r => ?_) fun _ _ z => z⟩
  cases ei : insG g1 d with
  | none => rw [ei] at p1; exact p1.elim
  | some kl =>
    obtain ⟨ks, l⟩ := kl
    rw [ei] at p1
    have p1' : (if m ∈ ks then Rs.no else (fa ds g1).bind fun l g => F (d :: l) g).Post (QE w.G A M H Q) (EE w A M H σ) := p1
    by_cases hm : m ∈ ks
    · rw [if_pos hm] at p1'
      exact p1'.elim
    · rw [if_neg hm] at p1'
      obtain ⟨a, dx, xs, rfl, h1, h2, h3, rd⟩ := r.ins gl ei
      have rel1 := rel.grow gr gl
      refine ⟨a, dx, _, rfl, h1, zip_none hm, B, A1, M1, ds, g1, rel1, (Rs.post_bind p1').imp (fun l2 g2 p2 vs A2 M2 H2 gr2 gl2 r2 => ?_) fun e g z => EE.on z gr gl⟩
      have gr12 := gr.trans gr2 gl (fun _ h => nomatch h)
      exact calm_go c gr2.wd gl2 (.cons (rd.grow gr2) r2) (p2.imp (fun _ _ z => QE.on z gr12 gl2) fun _ _ z => EE.on z gr12 gl2)
theorem k_meth {pl : Sem Bool} (c : CalM X.prog X.w X.mg X.base w.G k m n F) (hC : Cls w.G.K w.G.wC) (hK : X.K = w.G.K) (tk : Takes X w.W) (hr : Room j X.A) (hj : k ≤ j) (ho : BD X w o fo) (ha : AD X w (e :: es) fa)
    (hst : starEach (e :: es) X.env = (false, eval e X.env) :: starEach es X.env) (hpl : (backTo pos (starEach es X.env)).any (·.1) = false)
    (ht : eval (.Call (.Attribute o m apos) (e :: es) [] pos) X.env = (do
      let ov ← eval o X.env
      standAt apos.atName
      let (f, first) ← holding [ov] (getMethod ov m pl)
      callWith pos f first (backTo pos (starEach (e :: es) X.env)) (backToKw pos (keywordEach [] X.env)))) : KD X w (.Call (.Attribute o m apos) (e :: es) [] pos) (dMeth m F fo fa) := by
  have c' := c
  obtain ⟨f, fd, ps, hF, hM, hb⟩ := c.ok
  rw [← hK] at hF hM hb hC
  exact pe_imp (pe_methS ho hC hM hF (hr.mono hj) hb (fun σ => passAt tk σ) ha hst hpl ht) fun σ H Q h => meth_go c' h
theorem k_meth0 {pl : Sem Bool} (c : CalM X.prog X.w X.mg X.base w.G k m n F) (hC : Cls w.G.K w.G.wC) (hK : X.K = w.G.K) (tk : Takes X w.W) (hr : Room j X.A) (hj : k ≤ j) (ho : BD X w o fo)
    (ht : eval (.Call (.Attribute o m apos) [] [] pos) X.env = (do
      let ov ← eval o X.env
      standAt apos.atName
      let (f, first) ← holding [ov] (getMethod ov m pl)
      callWith pos f first (backTo pos (starEach [] X.env)) (backToKw pos (keywordEach [] X.env)))) : KD X w (.Call (.Attribute o m apos) [] [] pos) (dMeth m F fo dNil) := by
  have c' := c
  obtain ⟨f, fd, ps, hF, hM, hb⟩ := c.ok
  rw [← hK] at hF hM hb hC
  refine pe_imp (pe_methS0 ho hC hM hF (hr.mono hj) hb (fun σ => passAt tk σ) ht) fun σ H Q h => ?_
  have q := meth_go (fo := fo) (fa := dNil) c' h
  obtain ⟨B, A, M, ds, g, rel, p⟩ := q
  refine ⟨B, A, M, ds, g, rel, p.imp (fun d g1 p1 v A1 M1 H1 gr gl r => ?_) fun _ _ z => z⟩
  obtain ⟨a, dx, fs, e1, e2, e3, B', A', M', ds', g', rel', p'⟩ := p1 v A1 M1 H1 gr gl r
  exact ⟨a, dx, fs, e1, e2, e3, p' [] A' M' H1 rel'.wd.refl rel'.gl .nil⟩
/-! ### fields -/
def fldM (g : Gl) (d : Dat) (f : Str) : Option Dat := match insG g d with
  | some (ks, l) => (ks.zip l).lookup f
  | none => none
def dFldM (f : Str) (fo : DE) : DE := fun ds g => (fo ds g).bind fun d g => Rs.opt (fldM g d f) g
theorem k_fldM {f : Str} (hK : X.K = w.G.K) (c : Cls w.G.K w.G.wC) (hn : NoAttr w.G.K w.G.wC f) (ha : BD X w o fo) (hb : attributeBase o f X.env (eval o X.env) = eval o X.env) : KD X w (.Attribute o f pos) (dFldM f fo) :=
  pe_imp (pe_fld ha hb) fun σ H Q ⟨B, A, M, ds, g, rel, p⟩ => ⟨B, A, M, ds, g, rel, (Rs.post_bind p).imp (fun d g1 p1 v A1 M1 H1 gr gl r => by
    obtain ⟨z, ez, qz⟩ := post_opt p1
    unfold fldM at ez
    cases ei : insG g1 d with
    | none => rw [ei] at ez; cases ez
    | some kl =>
      obtain ⟨ks, l⟩ := kl
      rw [ei] at ez
      obtain ⟨a, dx, xs, rfl, h1, h2, h3, rd⟩ := r.ins gl ei
      obtain ⟨u, hu, ru⟩ := lookup_zip h3 ez
      exact ⟨a, _, dx, _, u, rfl, h1, by rw [hK]; exact c, by rw [hK]; exact hn, hu, qz u A1 M1 H1 gr gl ru⟩) fun _ _ z => z⟩
/-! ### properties -/
structure CalP (P : Program) (w : World) (mg : Str → Option Value) (base : Heap) (G : Gm) (k : Nat) (m : Str) (F : Fn) : Prop where
  ok : ∃ (p f : Addr) (fd : FuncData) (ps : List Str), FnOk P w G.K mg base (L2.CX P w) k f fd ps (spF G 1 F) ∧ PropOf G.K G.wC m p f ∧ Binds G.K fd ps []
def okOnly {α : Type} : Rs α → Rs α
  | .ok a g => .ok a g
  | _ => .no
def dProp (F : Fn) (fo : DE) : DE := fun ds g => (fo ds g).bind fun d g => match insG g d with
  | some _ => okOnly (F [d] g)
  | none => .no
theorem k_prop {f : Str} (c : CalP X.prog X.w X.mg X.base w.G k f F) (hC : Cls w.G.K w.G.wC) (hK : X.K = w.G.K) (hr : Room j X.A) (hj : k + 1 ≤ j) (ha : BD X w o fo) (hb : attributeBase o f X.env (eval o X.env) = eval o X.env) : KD X w (.Attribute o f pos) (dProp F fo) := by
  obtain ⟨p, f', fd, ps, hF, hP, hB⟩ := c.ok
  rw [← hK] at hF hP hB hC
  refine pe_imp (pe_prop (E := fun _ _ _ => False) (dvs := []) ha hC hP hF (hr.mono hj) hB .nil (fun pins σ H s e s' I q => passAt (X := X.nox) takesN σ pins H s e s' I q) hb) fun σ H Q ⟨B, A, M, ds, g, rel, p⟩ => ⟨B, A, M, ds, g, rel, (Rs.post_bind p).imp (fun d g1 p1 v A1 M1 H1 gr gl r => ?_) fun _ _ z => z⟩
  cases ei : insG g1 d with
  | none => rw [ei] at p1; exact p1.elim
  | some kl =>
    obtain ⟨ks, l⟩ := kl
    rw [ei] at p1
    have p2 : (okOnly (F [d] g1)).Post (QE w.G A M H Q) (EE w A M H σ) := p1
    obtain ⟨a, dx, xs, rfl, h1, h2, h3, rd⟩ := r.ins gl ei
    refine ⟨a, dx, _, rfl, h1, rfl, A1, M1, [d], g1, gr.wd, gl, .cons rd .nil, ?_⟩
    cases q : F [d] g1 with
    | no => rw [q] at p2; exact p2.elim
    | er e g2 => rw [q] at p2; exact p2.elim
    | ok z g2 => rw [q] at p2; exact QE.on p2 gr gl
end
end DL

/-! DL, part 32: a watcher made; shared lists and fields changed; len of a watcher. -/
namespace DL
open PySem L2

structure CalW (P : Program) (w : World) (mg : Str → Option Value) (base : Heap) (G : Gm) (k : Nat) (x : Str) (n : Nat) (F : In) : Prop where
  ok : ∃ (f : Addr) (fd : FuncData) (ps : List Str), Mk G.K G.wC f ∧ FnOk P w G.K mg base (L2.CX P w) k f fd ps (spN G G.wC n F) ∧ mg x = some (.ref G.wC) ∧ Binds G.K fd ps []
  len : ∀ ds g, ds.length ≠ n → F ds g = .no
def dWat (F : In) (fa : DA) : DE := fun ds g => (fa ds g).bind fun l g => (F l g).bind fun r g => .ok (.mref g.length) (g ++ [.ins r.1 r.2])
section
variable {X : Cx} {w : Wc} {e o : Expr} {es : List Expr} {x : Str} {p pos : Pos} {k j n : Nat} {F : In} {fr fa : DA} {fo fe : DE}
theorem mref_last {G : Gm} {A : List Addr} {M : Hp} {y : Addr} {g : Gl} (h : A.length = g.length) : Rp G (A ++ [y]) M (.ref y) (.mref g.length) := by
  refine .mref ?_
  rw [← h, List.getElem?_append_right (Nat.le_refl _), Nat.sub_self]
  rfl
theorem k_watch (c : CalW X.prog X.w X.mg X.base w.G k x n F) (hK : X.K = w.G.K) (tk : Takes X w.W) (hr : Room j X.A) (hj : k + 1 ≤ j) (hg : L2.Gl X x) (ha : AD X w (e :: es) fr)
    (hdb : (x == ("__debug__" : Str)) = false) (he : starEach (e :: es) X.env = (false, eval e X.env) :: starEach es X.env) (hpl : (backTo pos (starEach es X.env)).any (·.1) = false) : KD X w (.Call (.Name x p) (e :: es) [] pos) (dWat F fr) := by
  obtain ⟨f, fd, ps, hM, hF, hm, hb⟩ := c.ok
  rw [← hK] at hF hb hM
  refine pe_imp (pe_makeS hM hF (hr.mono hj) hg hm hb (fun σ => passAt tk σ) ha hdb he hpl) fun σ H Q ⟨B, A, M, ds, g, rel, p⟩ => ⟨B, A, M, ds, g, rel, (Rs.post_bind p).imp (fun l g1 p1 vs A1 M1 H1 gr gl r => ?_) fun _ _ z => z⟩
  intro y dx hy hd hn
  have hl : l.length = n := by
    by_cases h : l.length = n
    · exact h
    · rw [c.len l g1 h] at p1
      exact p1.elim
  have w1 := gr.wd
  have gd := Grow.newH (o := .own y) w1 hd
  have gld := gl.newH (o := .own y) hd
  have hy1 : (upd H1 dx (.own y)) y = none := by rw [upd_ne hn.symm]; exact hy
  have gy := Grow.newH (o := .ins w.G.wC dx []) gd.wd hy1
  have gly := gld.newH (o := .ins w.G.wC dx []) hy1
  refine ⟨by rw [List.length_cons, r.length, hl], y, dx, vs, A1, M1, l, g1, rfl, upd_same, new_notM w1 hy, new_notA gl hy, gy.wd, gly, r, (Rs.post_bind p1).imp (fun res g2 p2 A2 M2 H2 dx' xs gr2 gl2 ex el rx my ay => ⟨rfl, ?_⟩) fun e g2 z cls dd A2 M2 H2 gr2 gl2 er => ?_⟩
  · have gg := made_grow w1 gl hy hd gr2
    exact p2 (.ref y) (A2 ++ [y]) M2 H2 (gr.trans (gg.share hy my) gl (fun _ z => nomatch z)) (gl2.share ay ⟨dx', xs, ex, el, rx⟩) (mref_last gl2.len)
  · exact z cls dd A2 M2 H2 (gr.trans (made_grow w1 gl hy hd gr2) gl (fun _ z => nomatch z)) gl2 er
/-! ### shared lists -/
def dAppM (fo : DE) (fr : DA) : DS := fun ds g => (fo ds g).bind fun d g => match lstG g d with
  | some _ => (fr ds g).bind fun xs g => match xs, lstG g d with
    | [x], some (k, l) => if l.length < few then .ok (.nx ds) (g.set k (.lst (l ++ [x]))) else .no
    | _, _ => .no
  | none => .no
def dChgM (c : List Dat → Option (List Dat)) (fo : DE) : DS := fun ds g => (fo ds g).bind fun d g => match lstG g d with
  | some (k, l) => match c l with
    | some l' => .ok (.nx ds) (g.set k (.lst l'))
    | none => .no
  | none => .no
theorem shl {B : Bs} {A : List Addr} {M H : Hp} {σ : L2.St} {ds : DEnv} {g : Gl} {v : V} {d : Dat} {k : Nat} {l : List Dat} (rel : Rel w B A M H σ ds g) (r : Rb w.G A M H v d) (h : lstG g d = some (k, l)) : ∃ a xs, v = .ref a ∧ A[k]? = some a ∧ H a = some (.lst xs) ∧ RpA w.G A M xs l ∧ k < g.length := by
  obtain ⟨rfl, e⟩ := lstG_some h
  obtain ⟨a, rfl, ha⟩ := r.mref
  obtain ⟨xs, h1, h2⟩ := rel.gl.ob k a _ ha e
  exact ⟨a, xs, rfl, ha, h1, h2, (List.getElem?_eq_some_iff.mp e).1⟩
theorem s_appM (h : PE X e (tBM X.K "list" rAppend (bD w fo) (aD w fr))) (hs : swapsWith e none pos.line X.env = pure false) : SD X w (.Expr e pos) (dAppM fo fr) :=
  ps_imp (ps_expr h hs) fun D σ H ⟨B, A, M, ds, g, rel, p⟩ => by
    refine ⟨B, A, M, ds, g, rel, (Rs.post_bind p).imp (fun d g1 p1 v A1 M1 H1 gr gl r => ?_) fun e g z => rel.es z⟩
    cases el : lstG g1 d with
    | none => rw [el] at p1; exact p1.elim
    | some kl =>
      obtain ⟨k, l⟩ := kl
      rw [el] at p1
      have rel1 := rel.grow gr gl
      obtain ⟨a, xs, rfl, ha, h1, h2, hk⟩ := shl rel1 r el
      refine ⟨.inl ⟨rfl, xs, SqL.of h1⟩, B, A1, M1, ds, g1, rel1, (Rs.post_bind p1).imp (fun l1 g2 p2 vs A2 M2 H2 gr2 gl2 r2 => ?_) fun e g z => rel1.es z⟩
      cases r2 with
      | nil => exact p2.elim
      | @cons v1 _ d1 _ rv r2 =>
        cases r2 with
        | cons _ _ => exact p2.elim
        | nil =>
          cases el2 : lstG g2 d with
          | none => rw [el2] at p2; exact p2.elim
          | some kl2 =>
            obtain ⟨k2, l2⟩ := kl2
            rw [el2] at p2
            have p3 : (if l2.length < few then Rs.ok (Out.nx ds) (g2.set k2 (.lst (l2 ++ [d1]))) else .no).Post (QS w B A M D) (ES w B) := p2
            by_cases hl : l2.length < few
            · rw [if_pos hl] at p3
              have rel2 := rel1.grow gr2 gl2
              obtain ⟨a2, xs2, e2, ha2, h3, h4, hk2⟩ := shl rel2 (r.grow gr2) el2
              cases e2
              refine ⟨_, xs2, v1, rfl, rfl, h3, Nat.lt_of_lt_of_le (by rw [h4.length]; exact hl) (few_line (Nat.le_refl _)), ?_⟩
              exact p3 A2 M2 _ σ (rel2.setG ha2 hk2 (fun fs z => by rw [h3] at z; cases z) ⟨_, upd_same, h4.append (.cons rv .nil)⟩) (gr.inc.trans gr2.inc)
            · rw [if_neg hl] at p3
              exact p3.elim
def cPop (l : List Dat) : Option (List Dat) := if l.length = 0 then none else some l.dropLast
def cRev (l : List Dat) : Option (List Dat) := some l.reverse
theorem RpA.dropLast {G : Gm} {A : List Addr} {M : Hp} {xs : List V} {l : List Dat} (r : RpA G A M xs l) : RpA G A M xs.dropLast l.dropLast := by
  rw [List.dropLast_eq_take, List.dropLast_eq_take, r.length]
  exact r.take _
theorem s_popM (h : PE X e (tBM0 X.K "list" rPop (bD w fo))) (hs : swapsWith e none pos.line X.env = pure false) : SD X w (.Expr e pos) (dChgM cPop fo) :=
  ps_imp (ps_expr h hs) fun D σ H ⟨B, A, M, ds, g, rel, p⟩ => by
    refine ⟨B, A, M, ds, g, rel, (Rs.post_bind p).imp (fun d g1 p1 v A1 M1 H1 gr gl r => ?_) fun e g z => rel.es z⟩
    cases el : lstG g1 d with
    | none => rw [el] at p1; exact p1.elim
    | some kl =>
      obtain ⟨k, l⟩ := kl
      rw [el] at p1
      have rel1 := rel.grow gr gl
      obtain ⟨a, xs, rfl, ha, h1, h2, hk⟩ := shl rel1 r el
      have p2 : (match cPop l with
        | some l' => Rs.ok (Out.nx ds) (g1.set k (.lst l'))
        | none => .no).Post (QS w B A M D) (ES w B) := p1
      unfold cPop at p2
      by_cases h0 : l.length = 0
      · rw [if_pos h0] at p2
        exact p2.elim
      · rw [if_neg h0] at p2
        have hx : xs.length - 1 < xs.length := by rw [h2.length]; omega
        refine ⟨.inl ⟨rfl, xs, SqL.of h1⟩, a, xs, xs[xs.length - 1], rfl, rfl, h1, List.getElem?_eq_getElem hx, ?_⟩
        exact p2 A1 M1 _ σ (rel1.setG ha hk (fun fs z => by rw [h1] at z; cases z) ⟨_, upd_same, h2.dropLast⟩) gr.inc
theorem s_revM (h : PE X e (tBM0 X.K "list" rReverse (bD w fo))) (hs : swapsWith e none pos.line X.env = pure false) : SD X w (.Expr e pos) (dChgM cRev fo) :=
  ps_imp (ps_expr h hs) fun D σ H ⟨B, A, M, ds, g, rel, p⟩ => by
    refine ⟨B, A, M, ds, g, rel, (Rs.post_bind p).imp (fun d g1 p1 v A1 M1 H1 gr gl r => ?_) fun e g z => rel.es z⟩
    cases el : lstG g1 d with
    | none => rw [el] at p1; exact p1.elim
    | some kl =>
      obtain ⟨k, l⟩ := kl
      rw [el] at p1
      have rel1 := rel.grow gr gl
      obtain ⟨a, xs, rfl, ha, h1, h2, hk⟩ := shl rel1 r el
      have p2 : (Rs.ok (Out.nx ds) (g1.set k (.lst l.reverse))).Post (QS w B A M D) (ES w B) := p1
      refine ⟨.inl ⟨rfl, xs, SqL.of h1⟩, a, xs, rfl, rfl, h1, ?_⟩
      exact p2 A1 M1 _ σ (rel1.setG ha hk (fun fs z => by rw [h1] at z; cases z) ⟨_, upd_same, h2.rev⟩) gr.inc
/-! ### w.f = e -/
def putG (ks : List Str) (l : List Dat) (f : Str) (d : Dat) : List Dat := (ks.zip l).map fun p => if p.1 = f then d else p.2
theorem putF_zip {G : Gm} {A : List Addr} {M : Hp} {f : Str} {v : V} {d : Dat} (rv : Rp G A M v d) : ∀ {ks : List Str} {xs : List V} {l : List Dat}, ks.Nodup → f ∈ ks → ks.length = xs.length → RpA G A M xs l → ∃ ys, putF f v (ks.zip xs) = ks.zip ys ∧ ks.length = ys.length ∧ RpA G A M ys (putG ks l f d)
  | [], _, _, _, h, _, _ => nomatch h
  | k :: ks, [], _, _, _, hl, _ => nomatch hl
  | k :: ks, x :: xs, [], _, _, _, r => nomatch r
  | k :: ks, x :: xs, e :: l, nd, h, hl, .cons r1 r => by
    have hl' : ks.length = xs.length := Nat.succ.inj hl
    have nd' := List.nodup_cons.mp nd
    by_cases e1 : k = f
    · subst e1
      refine ⟨v :: xs, ?_, congrArg Nat.succ hl', ?_⟩
      · show (if k = k then _ else _) = _
        rw [if_pos rfl]
        rfl
      · show RpA G A M (v :: xs) ((if k = k then d else e) :: putG ks l k d)
        rw [if_pos rfl]
        have : putG ks l k d = l := by
          unfold putG
          have hll : ks.length = l.length := by rw [hl', r.length]
          have : ∀ {ks : List Str} {l : List Dat}, k ∉ ks → ks.length = l.length → ((ks.zip l).map fun p => if p.1 = k then d else p.2) = l := by
            intro ks
            induction ks with
            | nil => intro l _ hl; cases l with | nil => rfl | cons _ _ => cases hl
            | cons a ks ih =>
              intro l hn hl
              cases l with
              | nil => cases hl
              | cons b l =>
                show (if a = k then d else b) :: ((ks.zip l).map fun p => if p.1 = k then d else p.2) = _
                rw [if_neg fun (z : a = k) => hn (by rw [z]; exact List.mem_cons_self), ih (fun z => hn (List.mem_cons_of_mem _ z)) (Nat.succ.inj hl)]
          exact this nd'.1 hll
        rw [this]
        exact .cons rv r
    · have h' : f ∈ ks := by
        rcases List.mem_cons.mp h with z | z
        · exact (e1 z.symm).elim
        · exact z
      obtain ⟨ys, q1, q2, q3⟩ := putF_zip rv nd'.2 h' hl' r
      refine ⟨x :: ys, ?_, congrArg Nat.succ q2, ?_⟩
      · show (if k = f then _ else _) = _
        rw [if_neg e1]
        show (k, x) :: putF f v (ks.zip xs) = _
        rw [q1]
        rfl
      · show RpA G A M (x :: ys) ((if k = f then d else e) :: putG ks l f d)
        rw [if_neg e1]
        exact .cons r1 q3
def dSetF (f : Str) (fe fo : DE) : DS := fun ds g => (fe ds g).bind fun d g => (fo ds g).bind fun o g => match o with
  | .mref k => match g[k]? with
    | some (.ins ks l) => if ks.Nodup ∧ f ∈ ks ∧ ks.length < 900 then .ok (.nx ds) (g.set k (.ins ks (putG ks l f d))) else .no
    | _ => .no
  | _ => .no
theorem s_setF {f : Str} {value : Expr} {pos' : Pos} (hK : X.K = w.G.K) (c : Cls w.G.K w.G.wC) (hn : NoAttr w.G.K w.G.wC f) (ho : BD X w o fo) (hv : KD X w value fe) (hs : swapsWith value (some (.Attribute o f pos')) pos.line X.env = pure false) :
    SD X w (.Assign [.Attribute o f pos'] value pos) (dSetF f fe fo) :=
  ps_imp (ps_fld ho hv hs) fun D σ H ⟨B, A, M, ds, g, rel, p⟩ => by
    refine ⟨B, A, M, ds, g, rel, (Rs.post_bind p).imp (fun d g1 p1 v A1 M1 H1 gr gl rv => ?_) fun e g z => rel.es z⟩
    have rel1 := rel.grow gr gl
    refine ⟨B, A1, M1, ds, g1, rel1, (Rs.post_bind p1).imp (fun od g2 p2 y A2 M2 H2 gr2 gl2 ry => ?_) fun e g z => rel1.es z⟩
    have rel2 := rel1.grow gr2 gl2
    split at p2
    · rename_i k
      split at p2
      · rename_i ks l eg
        by_cases hk : ks.Nodup ∧ f ∈ ks ∧ ks.length < 900
        · rw [if_pos hk] at p2
          obtain ⟨a, rfl, ha⟩ := ry.mref
          obtain ⟨dx, xs, h1, h2, h3⟩ := rel2.gl.ob k a _ ha eg
          obtain ⟨ys, q1, q2, q3⟩ := putF_zip (f := f) (rv.grow gr2) hk.1 hk.2.1 h2 h3
          refine ⟨a, w.G.wC, dx, ks.zip xs, rfl, h1, by rw [hK]; exact c, by rw [hK]; exact hn, by rw [List.length_zip]; omega, ?_⟩
          rw [q1]
          exact p2 A2 M2 _ σ (rel2.setG ha (List.getElem?_eq_some_iff.mp eg).1 (fun fs z => by rw [h1] at z; cases z) ⟨dx, ys, upd_same, q2, q3⟩) (gr.inc.trans gr2.inc)
        · rw [if_neg hk] at p2
          exact p2.elim
      · exact p2.elim
    · exact p2.elim
end
end DL

/-! DL, part 33: a list of one's own handed out as a shared one; len of a watcher. -/
namespace DL
open PySem L2

section
variable {X : Cx} {w : Wc} {B : Bs} {A : List Addr} {M H : Hp} {σ : L2.St} {ds : DEnv} {g : Gl} {p : Addr}
theorem Rel.outM {xs : List V} {l : List Dat} (rel : Rel w B A M H σ ds g) (hp : H p = some (.lst xs)) (r : RpA w.G A M xs l) (m : Mine B A M p) : Grow B.Z B.A (A ++ [p]) B.M M B.H H ∧ GlOk w.G (A ++ [p]) M H (g ++ [.lst l]) := by
  have h := rel.gr
  obtain ⟨C, e, hC⟩ := id h.aex
  refine ⟨⟨h.keep, h.mex, h.mh, h.mnew, ⟨C ++ [p], by rw [e, List.append_assoc], fun a ha => ?_⟩, fun a ha => ?_⟩, rel.gl.share m.2.1 ⟨xs, hp, r⟩⟩
  · rcases List.mem_append.mp ha with q | q
    · exact hC a q
    · rw [List.mem_singleton.mp q]
      exact m.2.2
  · rcases List.mem_append.mp ha with q | q
    · exact h.mA a q
    · rw [List.mem_singleton.mp q]
      exact m.1
def dRetM (i : Nat) : DS := fun ds g => match ds[i]? with
  | some (.own l) => .ok (.rt (.mref g.length)) (g ++ [.lst l])
  | _ => .no
theorem s_retM {e : Expr} {pos : Pos} {i : Nat} (he : PE X e (tVar i)) : SD X w (.Return (some e) pos) (dRetM i) :=
  ps_imp (ps_ret he) fun D σ H ⟨B, A, M, ds, g, rel, p⟩ => by
    unfold dRetM at p
    split at p
    · rename_i l hd
      obtain ⟨a, xs, e1, e2, e3, m⟩ := rel.sl i _ hd
      obtain ⟨o1, o2⟩ := rel.outM e2 e3 m
      exact ⟨.ref a, e1, p (.ref a) _ M H o1 o2 (mref_last rel.gl.len)⟩
    · exact p.elim
end
/-! ### len(w) -/
def rLenI (C : Addr) (sp : Sp) : List V → Hp → VK → Prop := fun xs H Q => ∃ a dx fs, xs = [.ref a] ∧ H a = some (.ins C dx fs) ∧ sp [.ref a] H (fun v H' => ∃ n : Int, v = .int n ∧ 0 ≤ n ∧ n < 2 ^ 63 ∧ Q (.int n) H') (fun _ _ _ => False)
section
variable {X : Cx} {w : Wc} {k : Nat} {f C : Addr} {fd : FuncData} {ps : List Str} {sp : Sp}
theorem call_lenI (F : FnOk X.prog X.w X.K X.mg X.base (L2.CX X.prog X.w) k f fd ps sp) (hr : Room (k + 1) X.A) (hs : PySem.W.findIn X.K (.ref C) "__len__" = some (some (.ref f))) (hf : PySem.W.isFn X.K (.ref f) = true) (hb : Binds X.K fd ps []) : CallR X (.builtin "len") (rLenI C sp) := by
  intro pins s σ H xs us Q I rx h
  obtain ⟨a, dx, fs, rfl, ha, hsp⟩ := h
  cases rx with
  | cons r1 rx =>
    cases rx
    cases r1
    obtain ⟨mA, J, _⟩ := ins_get I.hok ha
    obtain ⟨od, J, _⟩ := J.look
    obtain ⟨m, hF⟩ := I.fr
    have hl := F.len _ _ _ _ hsp
    refine PySem.W.len_K hF I.ok.mod.kin J hs hf (wpAny_call (codeAny_mono (F.run X.A.in1 X.stack s H ⟨[.ref a], []⟩ [.ref a] [.ref a] _ _ hr.in1 I.env0.in1 (by
      have := hb s [.ref a] I.kIn (by simpa using hl)
      simpa using this) (.cons rfl .nil) hsp) fun r s' hq => ?_))
    cases r with
    | error e => exact passAt takesN σ pins H s e s' I hq
    | ok fl =>
      cases fl with
      | ret u =>
        obtain ⟨v, H', I', rv, n, ev, h0, h1, q⟩ := I.after hq
        subst ev
        obtain ⟨t, rfl⟩ := rv
        exact ⟨⟨h0, h1⟩, .int n, H', I'.tok _, ⟨s'.toks, rfl⟩, q⟩
      | next => exact False.elim hq
      | brk => exact False.elim hq
      | cont => exact False.elim hq
end
def dLenI (F : Fn) (fa : DA) : DE := fun ds g => (fa ds g).bind fun l g => match l with
  | [d] => match insG g d with
    | some _ => (okOnly (F [d] g)).bind fun z g => match z with
      | .int n => if 0 ≤ n ∧ n < 1000000 then .ok (.int n) g else .no
      | _ => .no
    | none => .no
  | _ => .no
section
variable {X : Cx} {w : Wc} {e : Expr} {fa : DA} {x : Str} {p pos : Pos} {k j : Nat} {F : Fn}
theorem k_lenI (c : CalM X.prog X.w X.mg X.base w.G k "__len__" 1 F) (hK : X.K = w.G.K) (hr : Room j X.A) (hj : k + 1 ≤ j) (hg : L2.Gl X "len") (hm : X.mg "len" = none) (ha : AD X w [e] fa)
    (he : starEach [e] X.env = (false, eval e X.env) :: starEach [] X.env) : KD X w (.Call (.Name "len" p) [e] [] pos) (dLenI F fa) := by
  obtain ⟨f, fd, ps, hF, hM, hb⟩ := c.ok
  rw [← hK] at hF hM hb
  refine pe_imp (pe_callB (call_lenI hF (hr.mono hj) hM.at_ hM.fn hb) hg hm (by decide +kernel) ha (by decide) (by decide) he rfl) fun σ H Q ⟨B, A, M, ds, g, rel, p⟩ => ⟨B, A, M, ds, g, rel, (Rs.post_bind p).imp (fun l g1 p1 vs A1 M1 H1 gr gl r => ?_) fun _ _ z => z⟩
  split at p1
  · rename_i d
    cases ei : insG g1 d with
    | none => rw [ei] at p1; exact p1.elim
    | some kl =>
      obtain ⟨ks, l⟩ := kl
      rw [ei] at p1
      cases r with
      | cons r0 r =>
        cases r
        obtain ⟨a, dx, xs, rfl, h1, h2, h3, rd⟩ := (Rb.fz r0).ins gl ei
        refine ⟨a, dx, _, rfl, h1, rfl, A1, M1, [d], g1, gr.wd, gl, .cons rd .nil, ?_⟩
        have p2 := Rs.post_bind p1
        cases q : F [d] g1 with
        | no => rw [q] at p2; exact p2.elim
        | er e g2 => rw [q] at p2; exact p2.elim
        | ok z g2 =>
          rw [q] at p2
          have p3 : (match z with
            | .int n => if 0 ≤ n ∧ n < 1000000 then Rs.ok (Dat.int n) g2 else .no
            | _ => .no).Post (QE w.G A M H Q) (EE w A M H σ) := p2
          intro v A2 M2 H2 gr2 gl2 rz
          split at p3
          · rename_i n
            by_cases hn : 0 ≤ n ∧ n < 1000000
            · rw [if_pos hn] at p3
              cases rz
              exact ⟨n, rfl, hn.1, by omega, p3 (.int n) A2 M2 H2 (gr.trans gr2 gl (fun _ z => nomatch z)) gl2 (.int n)⟩
            · rw [if_neg hn] at p3
              exact p3.elim
          · exact p3.elim
  · exact p1.elim
end
/-- a property of a class -/
def PrpAt (K : PySem.W.Frag) (C : Addr) (x qual : Str) (st : Stmt) (ps : List Str) : Prop := ∃ (p f : Addr) (fd : FuncData), Fun K x qual st f fd ∧ PropOf K C x p f ∧ Binds K fd ps []
theorem prp_at {K : PySem.W.Frag} {C p : Addr} {x qual : Str} {st : Stmt} {ps : List Str} {f : Addr} {oc : Value} {od an : Option Addr} {osl : Array (Option Value)} {kV doc pm cdv ct : Value} {rest : List Value} (a : PySem.W.findIn K (.ref C) x = some (some (.ref p)))
    (sg : PySem.W.specialIn K (.ref p) "__get__" = some (some (.builtin "property.__get__"))) (tk : PySem.W.takesIn K (.ref p) = some true) (rc : PySem.W.recIn K p "property" = some (.ref f :: rest))
    (l : K.lookup f = some ⟨oc, od, .func (PySem.W.fnOf x qual (defArgs st) (defBody st) (defScope st) .none kV doc pm an cdv ct), osl⟩) (c : PySem.W.codeIn K cdv qual = true) (k : PySem.W.keepIn K (.ref f) = true)
    (hb : ∀ (kV doc pm : Value) (an : Option Addr) (cdv ct : Value) (us : List Value), us.length = ps.length → bindArgs (PySem.W.fnOf x qual (defArgs st) (defBody st) (defScope st) .none kV doc pm an cdv ct) ⟨us, []⟩ = pure (ps.zip us)) : PrpAt K C x qual st ps :=
  ⟨p, f, _, fun_mk l c k, ⟨a, sg, tk, rest, rc⟩, (fun_mk l c k).binds hb⟩
end DL

/-! DL, part 34: working out what watchers and shared lists give. -/
namespace DL
open PySem L2
def kMeth (m : Str) (F : Fn) (fa : DA) (ds : DEnv) (r : Rs Dat) : Rs Dat := r.bind fun d g => match insG g d with
  | some (ks, _) => if m ∈ ks then .no else (fa ds g).bind fun l g => F (d :: l) g
  | none => .no
def kMeth2 (m : Str) (F : Fn) (fa : DA) (ds : DEnv) (d : Dat) (o : Option (List Str × List Dat)) (g : Gl) : Rs Dat := match o with
  | some (ks, _) => if m ∈ ks then .no else (fa ds g).bind fun l g => F (d :: l) g
  | none => .no
def kMeth3 (F : Fn) (d : Dat) (r : Rs (List Dat)) : Rs Dat := r.bind fun l g => F (d :: l) g
def kFldM (f : Str) (r : Rs Dat) : Rs Dat := r.bind fun d g => Rs.opt (fldM g d f) g
def kProp (F : Fn) (r : Rs Dat) : Rs Dat := r.bind fun d g => match insG g d with
  | some _ => okOnly (F [d] g)
  | none => .no
def kProp2 (F : Fn) (d : Dat) (o : Option (List Str × List Dat)) (g : Gl) : Rs Dat := match o with
  | some _ => okOnly (F [d] g)
  | none => .no
def kWat (F : In) (r : Rs (List Dat)) : Rs Dat := r.bind fun l g => (F l g).bind fun r g => .ok (.mref g.length) (g ++ [.ins r.1 r.2])
def kWat2 (r : Rs (List Str × List Dat)) : Rs Dat := r.bind fun r g => .ok (.mref g.length) (g ++ [.ins r.1 r.2])
def kAppM (fr : DA) (ds : DEnv) (r : Rs Dat) : Rs Out := r.bind fun d g => match lstG g d with
  | some _ => (fr ds g).bind fun xs g => match xs, lstG g d with
    | [x], some (k, l) => if l.length < few then .ok (.nx ds) (g.set k (.lst (l ++ [x]))) else .no
    | _, _ => .no
  | none => .no
def kAppM2 (fr : DA) (ds : DEnv) (d : Dat) (o : Option (Nat × List Dat)) (g : Gl) : Rs Out := match o with
  | some _ => (fr ds g).bind fun xs g => match xs, lstG g d with
    | [x], some (k, l) => if l.length < few then .ok (.nx ds) (g.set k (.lst (l ++ [x]))) else .no
    | _, _ => .no
  | none => .no
def kAppM3 (ds : DEnv) (d : Dat) (r : Rs (List Dat)) : Rs Out := r.bind fun xs g => match xs, lstG g d with
    | [x], some (k, l) => if l.length < few then .ok (.nx ds) (g.set k (.lst (l ++ [x]))) else .no
    | _, _ => .no
def kAppM4 (ds : DEnv) (x : Dat) (o : Option (Nat × List Dat)) (g : Gl) : Rs Out := match o with
  | some (k, l) => if l.length < few then .ok (.nx ds) (g.set k (.lst (l ++ [x]))) else .no
  | none => .no
def kChgM (c : List Dat → Option (List Dat)) (ds : DEnv) (r : Rs Dat) : Rs Out := r.bind fun d g => match lstG g d with
  | some (k, l) => match c l with
    | some l' => .ok (.nx ds) (g.set k (.lst l'))
    | none => .no
  | none => .no
def kChgM2 (c : List Dat → Option (List Dat)) (ds : DEnv) (o : Option (Nat × List Dat)) (g : Gl) : Rs Out := match o with
  | some (k, l) => match c l with
    | some l' => .ok (.nx ds) (g.set k (.lst l'))
    | none => .no
  | none => .no
def kChgM3 (ds : DEnv) (k : Nat) (o : Option (List Dat)) (g : Gl) : Rs Out := match o with
    | some l' => .ok (.nx ds) (g.set k (.lst l'))
    | none => .no
def kSetF (f : Str) (fo : DE) (ds : DEnv) (r : Rs Dat) : Rs Out := r.bind fun d g => (fo ds g).bind fun o g => match o with
  | .mref k => match g[k]? with
    | some (.ins ks l) => if ks.Nodup ∧ f ∈ ks ∧ ks.length < 900 then .ok (.nx ds) (g.set k (.ins ks (putG ks l f d))) else .no
    | _ => .no
  | _ => .no
def kSetF2 (f : Str) (d : Dat) (ds : DEnv) (r : Rs Dat) : Rs Out := r.bind fun o g => match o with
  | .mref k => match g[k]? with
    | some (.ins ks l) => if ks.Nodup ∧ f ∈ ks ∧ ks.length < 900 then .ok (.nx ds) (g.set k (.ins ks (putG ks l f d))) else .no
    | _ => .no
  | _ => .no
def kSetF3 (f : Str) (d : Dat) (ds : DEnv) (k : Nat) (o : Option GObj) (g : Gl) : Rs Out := match o with
    | some (.ins ks l) => if ks.Nodup ∧ f ∈ ks ∧ ks.length < 900 then .ok (.nx ds) (g.set k (.ins ks (putG ks l f d))) else .no
    | _ => .no
def kLenI (F : Fn) (r : Rs (List Dat)) : Rs Dat := r.bind fun l g => match l with
  | [d] => match insG g d with
    | some _ => (okOnly (F [d] g)).bind fun z g => match z with
      | .int n => if 0 ≤ n ∧ n < 1000000 then .ok (.int n) g else .no
      | _ => .no
    | none => .no
  | _ => .no
def kLenI2 (F : Fn) (d : Dat) (o : Option (List Str × List Dat)) (g : Gl) : Rs Dat := match o with
    | some _ => (okOnly (F [d] g)).bind fun z g => match z with
      | .int n => if 0 ≤ n ∧ n < 1000000 then .ok (.int n) g else .no
      | _ => .no
    | none => .no
def kLenI3 (r : Rs Dat) : Rs Dat := r.bind fun z g => match z with
      | .int n => if 0 ≤ n ∧ n < 1000000 then .ok (.int n) g else .no
      | _ => .no
def kRetM (o : Option Slot) (g : Gl) : Rs Out := match o with
  | some (.own l) => .ok (.rt (.mref g.length)) (g ++ [.lst l])
  | _ => .no
theorem EV12 :
    (∀ (m : Str) (F : Fn) (fo : DE) (fa : DA) (ds : DEnv) (g : Gl), dMeth m F fo fa ds g = kMeth m F fa ds (fo ds g)) ∧ (∀ (m : Str) (F : Fn) (fa : DA) (ds : DEnv) (d : Dat) (g : Gl), kMeth m F fa ds (.ok d g) = kMeth2 m F fa ds d (insG g d) g) ∧
    (∀ (m : Str) (F : Fn) (fa : DA) (ds : DEnv) (d : Dat) (ks : List Str) (l : List Dat) (g : Gl), kMeth2 m F fa ds d (some (ks, l)) g = if m ∈ ks then .no else kMeth3 F d (fa ds g)) ∧ (∀ (F : Fn) (d : Dat) (l : List Dat) (g : Gl), kMeth3 F d (.ok l g) = F (d :: l) g) ∧
    (∀ (f : Str) (fo : DE) (ds : DEnv) (g : Gl), dFldM f fo ds g = kFldM f (fo ds g)) ∧ (∀ (f : Str) (d : Dat) (g : Gl), kFldM f (.ok d g) = Rs.opt (fldM g d f) g) ∧
    (∀ (F : Fn) (fo : DE) (ds : DEnv) (g : Gl), dProp F fo ds g = kProp F (fo ds g)) ∧ (∀ (F : Fn) (d : Dat) (g : Gl), kProp F (.ok d g) = kProp2 F d (insG g d) g) ∧ (∀ (F : Fn) (d : Dat) (x : List Str × List Dat) (g : Gl), kProp2 F d (some x) g = okOnly (F [d] g)) ∧ (∀ (d : Dat) (g : Gl), okOnly (.ok d g) = .ok d g) ∧
    (∀ (F : In) (fa : DA) (ds : DEnv) (g : Gl), dWat F fa ds g = kWat F (fa ds g)) ∧ (∀ (F : In) (l : List Dat) (g : Gl), kWat F (.ok l g) = kWat2 (F l g)) ∧ (∀ (ks : List Str) (l : List Dat) (g : Gl), kWat2 (.ok (ks, l) g) = .ok (.mref g.length) (g ++ [.ins ks l])) ∧
    (∀ (fo : DE) (fr : DA) (ds : DEnv) (g : Gl), dAppM fo fr ds g = kAppM fr ds (fo ds g)) ∧ (∀ (fr : DA) (ds : DEnv) (d : Dat) (g : Gl), kAppM fr ds (.ok d g) = kAppM2 fr ds d (lstG g d) g) ∧ (∀ (fr : DA) (ds : DEnv) (d : Dat) (x : Nat × List Dat) (g : Gl), kAppM2 fr ds d (some x) g = kAppM3 ds d (fr ds g)) ∧
    (∀ (ds : DEnv) (d x : Dat) (g : Gl), kAppM3 ds d (.ok [x] g) = kAppM4 ds x (lstG g d) g) ∧ (∀ (ds : DEnv) (x : Dat) (k : Nat) (l : List Dat) (g : Gl), kAppM4 ds x (some (k, l)) g = if l.length < few then .ok (.nx ds) (g.set k (.lst (l ++ [x]))) else .no) ∧
    (∀ (c : List Dat → Option (List Dat)) (fo : DE) (ds : DEnv) (g : Gl), dChgM c fo ds g = kChgM c ds (fo ds g)) ∧ (∀ (c : List Dat → Option (List Dat)) (ds : DEnv) (d : Dat) (g : Gl), kChgM c ds (.ok d g) = kChgM2 c ds (lstG g d) g) ∧ (∀ (c : List Dat → Option (List Dat)) (ds : DEnv) (k : Nat) (l : List Dat) (g : Gl), kChgM2 c ds (some (k, l)) g = kChgM3 ds k (c l) g) ∧
    (∀ (ds : DEnv) (k : Nat) (l : List Dat) (g : Gl), kChgM3 ds k (some l) g = .ok (.nx ds) (g.set k (.lst l))) ∧
    (∀ (f : Str) (fe fo : DE) (ds : DEnv) (g : Gl), dSetF f fe fo ds g = kSetF f fo ds (fe ds g)) ∧ (∀ (f : Str) (fo : DE) (ds : DEnv) (d : Dat) (g : Gl), kSetF f fo ds (.ok d g) = kSetF2 f d ds (fo ds g)) ∧ (∀ (f : Str) (d : Dat) (ds : DEnv) (k : Nat) (g : Gl), kSetF2 f d ds (.ok (.mref k) g) = kSetF3 f d ds k g[k]? g) ∧
    (∀ (f : Str) (d : Dat) (ds : DEnv) (k : Nat) (ks : List Str) (l : List Dat) (g : Gl), kSetF3 f d ds k (some (.ins ks l)) g = if ks.Nodup ∧ f ∈ ks ∧ ks.length < 900 then .ok (.nx ds) (g.set k (.ins ks (putG ks l f d))) else .no) ∧
    (∀ (F : Fn) (fa : DA) (ds : DEnv) (g : Gl), dLenI F fa ds g = kLenI F (fa ds g)) ∧ (∀ (F : Fn) (d : Dat) (g : Gl), kLenI F (.ok [d] g) = kLenI2 F d (insG g d) g) ∧ (∀ (F : Fn) (d : Dat) (x : List Str × List Dat) (g : Gl), kLenI2 F d (some x) g = kLenI3 (okOnly (F [d] g))) ∧
    (∀ (n : Int) (g : Gl), kLenI3 (.ok (.int n) g) = if 0 ≤ n ∧ n < 1000000 then .ok (.int n) g else .no) ∧ (∀ (i : Nat) (ds : DEnv) (g : Gl), dRetM i ds g = kRetM ds[i]? g) ∧ (∀ (l : List Dat) (g : Gl), kRetM (some (.own l)) g = .ok (.rt (.mref g.length)) (g ++ [.lst l])) := by
  refine ⟨?_, ?_, ?_, ?_, ?_, ?_, ?_, ?_, ?_, ?_, ?_, ?_, ?_, ?_, ?_, ?_, ?_, ?_, ?_, ?_, ?_, ?_, ?_, ?_, ?_, ?_, ?_, ?_, ?_, ?_, ?_, ?_⟩ <;> intros
  all_goals first
    | rfl
    | (rename_i ds d x g
       show (match [x], lstG g d with
         | [x], some (k, l) => if l.length < few then Rs.ok (Out.nx ds) (g.set k (.lst (l ++ [x]))) else .no
         | _, _ => .no) = kAppM4 ds x (lstG g d) g
       cases lstG g d <;> rfl)
end DL

/-! DL, part 35: == and != of rules by their own def; a list taken apart; isinstance of a rule. -/
namespace DL
open PySem L2 PySem.Spec PyProof.Rows
/-! ### != by an own == -/
section
variable {M : Model} {prog : Program} {w : World} {A : Around} {E : Value → Shared → Prop} {s : Shared} {K : PySem.W.Frag} {x C f L : Addr} {ox : Obj} {od : Option Obj} {h₀ : Heap} {m : Str → Option Value} {b tb : Value}
theorem entry_ne {Q : Fin → Shared → Prop} (hu : A.units < cLine) (X : K.In s.heap) (I : PySem.W.InstAt s.heap x ox C od) (hs : PySem.W.findIn K (.ref C) "__eq__" = some (some (.ref f))) (hf : PySem.W.isFn K (.ref f) = true)
    (h : wpAny (model prog w) A (call (.ref f) [.ref x, b]) (fun v s' => ∃ r, v = .bool r ∧ Q (.done (.ret (.bool (!r)))) s') E s) : wpAny (model prog w) A (Builtin.«object.__ne__» ⟨[.ref x, b], []⟩) Q E s := by
  unfold Builtin.«object.__ne__»
  repeat (first
    | with_reducible refine wpAny_cRoomFor hu ?_
    | (refine wpAny_bind (m := callSpecialIfBound? (.ref x) (Str.ofString "__eq__") [b])
        (PySem.W.ifBound_K X I hs hf (wpAny_mono h (fun r s' hr => by
          obtain ⟨b, rfl, hq⟩ := hr
          repeat (first | exact hq | exact wpAny_pure hq | exact wpAny_truthy_bool hq | (refine wpAny_bind (m := truthy (.bool _)) (wpAny_truthy_bool ?_)) | wp_step)) fun _ _ e => e)))
    | wp_step)
theorem ne_K {Q : Value → Shared → Prop} (hu : A.units + 1 < cLine) (Fr' : PyProof.Rows.Fr h₀ L s.heap m) (X₀ : K.In h₀) (I : PySem.W.InstAt s.heap x ox C od) (hb : PySem.W.Looks (model prog w) s.heap (typeOf b) tb) (hn : PySem.W.notFirst K C tb = true)
    (hne : PySem.W.findIn K (.ref C) "__ne__" = some (some (.builtin "object.__ne__"))) (hm : PySem.W.mroIn K C (.type "object") = some true) (hs : PySem.W.findIn K (.ref C) "__eq__" = some (some (.ref f))) (hf : PySem.W.isFn K (.ref f) = true)
    (h : wpAny (model prog w) A.in1 (call (.ref f) [.ref x, b]) (fun v s' => ∃ r, v = .bool r ∧ Q (.bool (!r)) s') E s) : wpAny (model prog w) A (richCompare .NotEq (.ref x) b) Q E s := by
  have X := X₀.keeps Fr'.keep
  have two : wpAny (model prog w) A (call (.builtin "object.__ne__") [.ref x, b]) (fun v s' => ∃ r, v = .bool r ∧ Q v s') E s :=
    wpAny_call (codeAny_call_builtin F.cmp_object.ne.plain F.cmpEntry_ne (PySem.W.check_slot F.cmpKind_ne F.cmpSplit_ne (I.type.andThen (PySem.W.looks_mroIn X hm)) (F.cmpArgs_ne _ _)
      (entry_ne (A := A.in1) hu X I hs hf (wpAny_mono h (fun v s' hv => by
        obtain ⟨r, rfl, hq⟩ := hv
        exact ⟨r, rfl, _, rfl, hq⟩) fun _ _ e => e))))
  have ifb : wpAny (model prog w) A (callSpecialIfBound? (.ref x) "__ne__" [b]) (fun r s' => ∃ v, r = some (.bool v) ∧ Q (.bool v) s') E s := by
    simp only [callSpecialIfBound?, bindSpecialIfBound?]
    refine wpAny_holding (wpAny_bind (wpAny_bind (wpAny_bind (I.type.here ((PySem.W.looks_findIn X hne).here ?_)))))
    refine wpAny_bind (wpAny_askSetting (wpAny_ite ?_))
    have fin : wpAny (model prog w) A (call (.builtin "object.__ne__") ([.ref x] ++ [b]) >>= fun v => pure (some v)) (fun r s' => ∃ v, r = some (.bool v) ∧ Q (.bool v) s') E s := wpAny_bind (wpAny_mono two (fun v s' h' => by
      obtain ⟨r, rfl, hq⟩ := h'
      exact wpAny_pure ⟨r, rfl, hq⟩) fun _ _ h' => h')
    split
    · exact wpAny_bind (wpAny_of_eq (F.cmp_object.ne.bind _) (wpAny_pure (by exact fin)))
    · exact wpAny_tryCatch (wpAny_bind (wpAny_of_eq (F.cmp_object.ne.bind _) (wpAny_pure (by exact fin))))
  have one : wpAny (model prog w) A (tryCompare (.ref x) "__ne__" b) (fun r s' => ∃ v, r = some v ∧ Q v s') E s := by
    unfold tryCompare
    refine wpAny_bind (wpAny_mono ifb (fun r s' hv => ?_) fun _ _ e => e)
    obtain ⟨v, rfl, hq⟩ := hv
    exact wpAny_pure ⟨_, rfl, hq⟩
  unfold richCompare
  simp only [oneThing_ref]
  refine wpAny_holding (wpAny_bind (wpAny_cRoomFor (Nat.lt_of_succ_lt hu) ?_))
  refine wpAny_bind (I.type.here (wpAny_bind (hb.here ?_)))
  split
  · rename_i q
    have e : PySem.W.subIn K tb (.ref C) = some false := by
      rcases Bool.or_eq_true_iff.mp hn with e | e
      · rw [beq_iff_eq.mp e] at q; simp at q
      · exact beq_iff_eq.mp e
    refine wpAny_bind ((PySem.W.looks_subIn X e).here ?_)
    simp only [Bool.false_eq_true, if_false]
    refine wpAny_bind (wpAny_mono one (fun r s' z => ?_) fun _ _ e => e)
    obtain ⟨v, rfl, hq⟩ := z
    exact wpAny_pure hq
  · refine wpAny_bind (wpAny_pure ?_)
    simp only [Bool.false_eq_true, if_false]
    refine wpAny_bind (wpAny_mono one (fun r s' z => ?_) fun _ _ e => e)
    obtain ⟨v, rfl, hq⟩ := z
    exact wpAny_pure hq
end
/-- what an own == and != say of two rules -/
def eqR : Dat → Dat → Option Bool
  | .rul a b c, .rul a' b' c' => eqD (.tup [a, b, c]) (.tup [a', b', c'])
  | _, _ => none
def neR (d e : Dat) : Option Bool := (eqR d e).map fun b => !b
def EqF (F : Fn) : Prop := ∀ d e z g, eqR d e = some z → F [d, e] g = .ok (.bl z) g
structure CalE (P : Program) (w : World) (mg : Str → Option Value) (base : Heap) (G : Gm) (k : Nat) (F : Fn) : Prop where
  ok : ∃ (f : Addr) (fd : FuncData) (ps : List Str), FnOk P w G.K mg base (L2.CX P w) k f fd ps (spF G 2 F) ∧ Meth G.K G.rC "__eq__" f ∧ Binds G.K fd ps []
  ne : PySem.W.findIn G.K (.ref G.rC) "__ne__" = some (some (.builtin "object.__ne__"))
  mr : PySem.W.mroIn G.K G.rC (.type "object") = some true
  sem : EqF F
def rQR (neg : Bool) (C : Addr) (sp : Sp) : R2 := fun x y H Q => ∃ a b dx dy fs gs, x = .ref a ∧ y = .ref b ∧ H a = some (.ins C dx fs) ∧ H b = some (.ins C dy gs) ∧ sp [.ref a, .ref b] H (fun v H' => ∃ r : Bool, v = .bl r ∧ Q (.bl (if neg then !r else r)) H') (fun _ _ _ => False)
section
variable {X : Cx} {k : Nat} {f C : Addr} {fd : FuncData} {ps : List Str} {sp : Sp}
theorem op_neR (Fk : FnOk X.prog X.w X.K X.mg X.base (L2.CX X.prog X.w) k f fd ps sp) (hr : Room (k + 1) X.A) (hM : Meth X.K C "__eq__" f) (hb : Binds X.K fd ps []) (hne : PySem.W.findIn X.K (.ref C) "__ne__" = some (some (.builtin "object.__ne__"))) (hm : PySem.W.mroIn X.K C (.type "object") = some true) :
    OpR X (compareOp .NotEq) (rQR true C sp) := by
  intro pins s σ H x y v u Q I rx ry h
  obtain ⟨a, b, dx, dy, fs, gs, rfl, rfl, ha, hb', hsp⟩ := h
  cases rx
  cases ry
  obtain ⟨mA, J, _⟩ := ins_get I.hok ha
  obtain ⟨mB, J', _⟩ := ins_get I.hok hb'
  obtain ⟨od, J, _⟩ := J.look
  obtain ⟨od', J', _⟩ := J'.look
  obtain ⟨m, hF⟩ := I.fr
  have hl := Fk.len _ _ _ _ hsp
  show wpAny (model X.prog X.w) X.A (richCompare .NotEq (.ref a) (.ref b)) (EP X pins σ Q) X.xe s
  refine ne_K (tb := .ref C) (by have := hr.units; omega) hF I.ok.mod.kin J J'.type (by simp [PySem.W.notFirst]) hne hm hM.at_ hM.fn ?_
  refine wpAny_call (codeAny_mono (Fk.run X.A.in1 X.stack s H ⟨[.ref a, .ref b], []⟩ [.ref a, .ref b] [.ref a, .ref b] _ _ hr.in1 I.env0.in1 (by
    have := hb s [.ref a, .ref b] I.kIn (by simpa using hl)
    simpa using this) (.cons rfl (.cons rfl .nil)) hsp) fun r s' hq => ?_)
  cases r with
  | error e => exact passAt takesN σ pins H s e s' I hq
  | ok fl =>
    cases fl with
    | ret w =>
      obtain ⟨z, H', I', rz, r, ez, q⟩ := I.after hq
      subst ez
      cases rz
      exact ⟨r, rfl, .bl (!r), H', I', rfl, q⟩
    | next => exact False.elim hq
    | brk => exact False.elim hq
    | cont => exact False.elim hq
theorem op_eqR (Fk : FnOk X.prog X.w X.K X.mg X.base (L2.CX X.prog X.w) k f fd ps sp) (hr : Room (k + 1) X.A) (hM : Meth X.K C "__eq__" f) (hb : Binds X.K fd ps []) : OpR X (compareOp .Eq) (rQR false C sp) := by
  intro pins s σ H x y v u Q I rx ry h
  obtain ⟨a, b, dx, dy, fs, gs, rfl, rfl, ha, hb', hsp⟩ := h
  cases rx
  cases ry
  obtain ⟨mA, J, _⟩ := ins_get I.hok ha
  obtain ⟨mB, J', _⟩ := ins_get I.hok hb'
  obtain ⟨od, J, _⟩ := J.look
  obtain ⟨od', J', _⟩ := J'.look
  obtain ⟨m, hF⟩ := I.fr
  have hl := Fk.len _ _ _ _ hsp
  show wpAny (model X.prog X.w) X.A (richCompare .Eq (.ref a) (.ref b)) (EP X pins σ Q) X.xe s
  refine PySem.W.cmp_K (op := .Eq) (tb := .ref C) hr.units0 hF I.ok.mod.kin J J'.type (by simp [PySem.W.notFirst]) hM.at_ hM.fn ?_
  refine wpAny_call (codeAny_mono (Fk.run X.A X.stack s H ⟨[.ref a, .ref b], []⟩ [.ref a, .ref b] [.ref a, .ref b] _ _ (hr.mono (Nat.le_succ _)) I.env0 (by
    have := hb s [.ref a, .ref b] I.kIn (by simpa using hl)
    simpa using this) (.cons rfl (.cons rfl .nil)) hsp) fun r s' hq => ?_)
  cases r with
  | error e => exact passAt takesN σ pins H s e s' I hq
  | ok fl =>
    cases fl with
    | ret w =>
      obtain ⟨z, H', I', rz, r, ez, q⟩ := I.after hq
      subst ez
      cases rz
      exact ⟨.bl r, H', I', rfl, q⟩
    | next => exact False.elim hq
    | brk => exact False.elim hq
    | cont => exact False.elim hq
end
/-- operators on two values that only make things -/
def R2Q (G : Gm) (r : R2) (o : Dat → Dat → Option Bool) : Prop := ∀ (A : List Addr) (M H : Hp) (g : Gl) (x y : V) (d e : Dat) (b : Bool) (Q : VK), Wd A M H → GlOk G A M H g → Rb G A M H x d → Rb G A M H y e → o d e = some b → (∀ A' M' H', Grow [] A A' M M' H H' → GlOk G A' M' H' g → Q (.bl b) H') → r x y H Q
section
variable {X : Cx} {w : Wc} {a b : Expr} {fa fb : DE} {pos : Pos}
theorem t_cmpQ {op : CmpOp} {r : R2} {o : Dat → Dat → Option Bool} (ho : OpR X (compareOp op) r) (hr : R2Q w.G r o) (ha : BD X w a fa) (hb : BD X w b fb) (hm : behindInMarks op b = false) : TD X w (.Compare a [op] [b] pos) (d2 o fa fb) :=
  pt_imp (pt_cmpR ho ha hb hm) fun σ H Q h => bin2 (P := fun A M H => QT w.G A M H Q) h (fun _ _ _ _ _ _ _ _ _ q g l => q.on g l) fun A M H g x y d e z wd gl rx ry eo q =>
    hr A M H g x y d e z _ wd gl rx ry eo fun A' M' H' gr gl' => ⟨z, rfl, q A' M' H' gr gl'⟩
theorem k_cmpQ {op : CmpOp} {r : R2} {o : Dat → Dat → Option Bool} (ho : OpR X (compareOp op) r) (hr : R2Q w.G r o) (ha : BD X w a fa) (hb : BD X w b fb) (hm : behindInMarks op b = false) : KD X w (.Compare a [op] [b] pos) (dB (d2 o fa fb)) :=
  pe_imp (pe_cmpR ho ha hb hm) fun σ H Q ⟨B, A, M, ds, g, rel, p⟩ => bin2 (P := fun A M H b g => QE w.G A M H Q (.bl b) g) ⟨B, A, M, ds, g, rel, (Rs.post_bind p).imp (fun _ _ z => z) fun _ _ z => z⟩ (fun _ _ _ _ _ _ _ _ _ q g l => QE.on q g l)
    fun A M H g x y d e z wd gl rx ry eo q => hr A M H g x y d e z _ wd gl rx ry eo fun A' M' H' gr gl' => q (.bl z) A' M' H' gr gl' (.bl z)
end
theorem eqR_some {d e : Dat} {z : Bool} (h : eqR d e = some z) : ∃ a b c a' b' c', d = .rul a b c ∧ e = .rul a' b' c' := by
  unfold eqR at h
  split at h
  · exact ⟨_, _, _, _, _, _, rfl, rfl⟩
  · cases h
theorem rul_ins {G : Gm} {A : List Addr} {M H : Hp} {v : V} {a b c : Dat} (wd : Wd A M H) (r : Rb G A M H v (.rul a b c)) : ∃ p dx fs, v = .ref p ∧ H p = some (.ins G.rC dx fs) ∧ Rp G A M (.ref p) (.rul a b c) := by
  cases r with
  | fz r =>
    have r' := r
    cases r with
    | @rul p dx v1 v2 v3 f s q h r1 r2 r3 => exact ⟨p, dx, _, rfl, wd.mh _ _ h, r'⟩
theorem r_neR {G : Gm} {F : Fn} (hF : EqF F) : R2Q G (rQR true G.rC (spF G 2 F)) neR := fun A M H g x y d e z Q wd gl rx ry eo q => by
  unfold neR at eo
  cases h : eqR d e with
  | none => rw [h] at eo; cases eo
  | some b =>
    rw [h] at eo
    cases eo
    obtain ⟨a1, a2, a3, b1, b2, b3, rfl, rfl⟩ := eqR_some h
    obtain ⟨p1, dx, fs, rfl, h1, r1⟩ := rul_ins wd rx
    obtain ⟨p2, dy, gs, rfl, h2, r2⟩ := rul_ins wd ry
    refine ⟨p1, p2, dx, dy, fs, gs, rfl, rfl, h1, h2, rfl, A, M, _, g, wd, gl, .cons r1 (.cons r2 .nil), ?_⟩
    rw [hF _ _ _ g h]
    exact fun v A' M' H' gr gl' rv => by
      cases rv
      exact ⟨b, rfl, q A' M' H' gr gl'⟩
theorem r_eqR {G : Gm} {F : Fn} (hF : EqF F) : R2Q G (rQR false G.rC (spF G 2 F)) eqR := fun A M H g x y d e z Q wd gl rx ry h q => by
  obtain ⟨a1, a2, a3, b1, b2, b3, rfl, rfl⟩ := eqR_some h
  obtain ⟨p1, dx, fs, rfl, h1, r1⟩ := rul_ins wd rx
  obtain ⟨p2, dy, gs, rfl, h2, r2⟩ := rul_ins wd ry
  refine ⟨p1, p2, dx, dy, fs, gs, rfl, rfl, h1, h2, rfl, A, M, _, g, wd, gl, .cons r1 (.cons r2 .nil), ?_⟩
  rw [hF _ _ _ g h]
  exact fun v A' M' H' gr gl' rv => by
    cases rv
    exact ⟨z, rfl, q A' M' H' gr gl'⟩
section
variable {X : Cx} {w : Wc} {a b : Expr} {fa fb : DE} {pos : Pos} {k j : Nat} {F : Fn}
theorem t_neR (c : CalE X.prog X.w X.mg X.base w.G k F) (hK : X.K = w.G.K) (hr : Room j X.A) (hj : k + 1 ≤ j) (ha : BD X w a fa) (hb : BD X w b fb) (hm : behindInMarks .NotEq b = false) : TD X w (.Compare a [.NotEq] [b] pos) (d2 neR fa fb) := by
  obtain ⟨f, fd, ps, hF, hM, hB⟩ := c.ok
  have h1 := c.ne
  have h2 := c.mr
  rw [← hK] at hF hM hB h1 h2
  exact t_cmpQ (op_neR hF (hr.mono hj) hM hB h1 h2) (r_neR c.sem) ha hb hm
theorem k_eqR (c : CalE X.prog X.w X.mg X.base w.G k F) (hK : X.K = w.G.K) (hr : Room j X.A) (hj : k + 1 ≤ j) (ha : BD X w a fa) (hb : BD X w b fb) (hm : behindInMarks .Eq b = false) : KD X w (.Compare a [.Eq] [b] pos) (dB (d2 eqR fa fb)) := by
  obtain ⟨f, fd, ps, hF, hM, hB⟩ := c.ok
  rw [← hK] at hF hM hB
  exact k_cmpQ (op_eqR hF (hr.mono hj) hM hB) (r_eqR c.sem) ha hb hm
end
/-! ### isinstance(x, Rule), x a rule -/
def oIsR : Dat → Option Dat
  | .rul _ _ _ => some (.bl true)
  | _ => none
section
variable {X : Cx} {w : Wc} {a : Expr} {fe : DE} {p pos pT : Pos} {y : Str}
theorem k_isR (c : C8.InsC w.G.K w.G.rC) (hK : X.K = w.G.K) (hg : L2.Gl X "isinstance") (hm : X.mg "isinstance" = none) (ha : BD X w a fe) (hg2 : L2.Gl X y) (hm2 : X.mg y = some (.ref w.G.rC)) (hd : (y == ("__debug__" : Str)) = false)
    (h1 : starEach [a, .Name y pT] X.env = (false, eval a X.env) :: starEach [.Name y pT] X.env) (h2 : starEach [.Name y pT] X.env = (false, eval (.Name y pT) X.env) :: starEach [] X.env) (h3 : (backTo pos (starEach [.Name y pT] X.env)).any (·.1) = false) :
    KD X w (.Call (.Name "isinstance" p) [a, .Name y pT] [] pos) (d1 oIsR fe) := by
  rw [← hK] at c
  refine pe_imp (pe_callB (C8.call_isC c) hg hm (by decide +kernel) (pa_cons ha (pa_cons (pe_glob (v := .ref w.G.rC) hg2 hm2 rfl hd) pa_nil h2) h1) (by decide) (by decide) h1 h3) fun σ H Q ⟨B, A, M, ds, g, rel, p⟩ => ⟨B, A, M, ds, g, rel, (Rs.post_bind p).imp (fun d g1 p1 v A1 M1 H1 gr gl r => ?_) fun _ _ z => z⟩
  obtain ⟨z, ez, qz⟩ := post_opt p1
  unfold oIsR at ez
  split at ez
  · cases ez
    obtain ⟨q, dx, fs, rfl, h4, r4⟩ := rul_ins gr.wd r
    exact ⟨q, dx, fs, rfl, h4, qz (.bl true) A1 M1 H1 gr gl (.bl true)⟩
  · cases ez
end
/-! ### a, b = a list -/
def gL2 (i j : Nat) : Dat → DEnv → Option DEnv := fun d ds => match d with
  | .lst [a, b] => some ((ds.set i (.sh a)).set j (.sh b))
  | _ => none
theorem g_l2 {w : Wc} {i j : Nat} : GOk w (gLst w.G.K 2 (gCons (gName i) (gCons (gName j) gNil))) (gL2 i j) [i, j] := fun B A M H σ ds ds' g x d Q rel r e q => by
  unfold gL2 at e
  split at e
  · rename_i a b
    cases e
    cases r with
    | @lst p xs l h r =>
      have hl := r.length
      cases r with
      | @cons v0 vs0 d0 ds0 r0 r =>
        cases r with
        | @cons v1 vs1 d1 ds1 r1 r =>
          cases r
          refine ⟨p, _, rfl, SqL.of (rel.wd.mh _ _ h), rfl, v0, _, rfl, v1, _, rfl, rfl, ?_⟩
          refine q _ ((rel.setSh r0).setSh r1) fun vs hv => ?_
          rw [wipe_set (hv j (by simp)), wipe_set (hv i (by simp))]
  · cases e
end DL

/-! DL, part 36: enumerate of a tuple or a list. -/
namespace L2
open PySem PySem.Spec PyProof.Rows
section
variable {prog : Program} {w : World} {A : Around} {E : Value → Shared → Prop} {s : Shared}
theorem enum_end_tup {e it l : Addr} {i : Nat} {items : Array Value} {old : Value} {Q : Option Value → Shared → Prop} (hh : A.handled = none)
    (he : IsEnum s.heap e it i old) (hit : s.heap.IsTupleIter it l i) (hl : s.heap.IsTuple l items) (hx : items[i]? = none)
    (hQ : ∀ h', Heap.ExtBut it s.heap h' → Q none { s with heap := h' }) : wpAny (model prog w) A (pyNext (.ref e)) Q E s := by
  have hT : s.TypeIs (.ref e) "enumerate" := ⟨_, he, rfl⟩
  unfold pyNext
  refine wpAny_bind (wpAny_attempt (wpAny_callSpecial?_slot (name := Str.ofString "__next__") hT F.slot_enumerate_next
    (wpAny_call_entry F.slot_enumerate_next hT F.entry_enumerate_next ?_ (F.args_enumerate_next_1 _))))
  show wpAny _ _ (field (.ref e) 2 >>= _) _ _ _
  refine wpAny_bind (wpAny_field he rfl (x := .ref it) rfl ?_)
  refine wpAny_bind (wpAny_nextOf_tuple_end hh hit hl hx fun h' x he' hx' => ?_)
  obtain ⟨o, ho, hc⟩ := hx'
  refine wpAny_bind (wpAny_isInstance (T := "StopIteration") (b := true) ⟨o, ho, hc⟩ isSubtype_stop ?_)
  exact wpAny_pure (hQ _ he')
theorem meets_enumT (l : Addr) (items : Array Value) (n : Nat) (dct : Option Addr) (sl : Array (Option Value)) :
    Meets (Builtin.«enumerate.__new__» ⟨[.type "enumerate", .ref l], []⟩) (fun _ R s => s.heap.get? l = some { cls := .type "tuple", dict := dct, data := .seq items n, slots := sl } ∧
      R (.ok (.ret (.ref (s.heap.push { cls := .type "tuple_iterator", data := .fields #[.ref l, .int 0 0] }).objs.size)))
        { s with heap := (s.heap.push { cls := .type "tuple_iterator", data := .fields #[.ref l, .int 0 0] }).push { cls := .type "enumerate", data := .fields #[.none, .bool false, .ref s.heap.objs.size, rawInt 0, .none, .none] } }) :=
  .of_wp fun prog w A R s h => by
    obtain ⟨hp, g, d, tk, os⟩ := s; obtain ⟨hl, h⟩ := h
    have hsub := sub_enumerate
    have hL : Heap.IsTuple (Shared.heap ⟨hp, g, d, tk, os⟩) l items := ⟨_, hl, rfl, n, rfl⟩
    wp_walk using wpAny_loadPart' hl
    refine wpAny_stack_any fun st => wpAny_pure ?_
    split
    · rename_i c _ _ _ _ _
      cases (c == Value.type "enumerate")
      · wp_walk using wpAny_loadPart' hl, wpAny_pyIter_tuple hL
        exact ⟨_, rfl, h⟩
      · wp_walk using wpAny_loadPart' hl, wpAny_pyIter_tuple hL
        exact ⟨_, rfl, h⟩
    · wp_walk using wpAny_loadPart' hl, wpAny_pyIter_tuple hL
      exact ⟨_, rfl, h⟩
theorem call_enumT {l : Addr} {items : Array Value} {Q : Value → Shared → Prop} (hL : s.heap.IsTuple l items)
    (h : ∀ h', IsEnum h' (s.heap.objs.size + 1) s.heap.objs.size 0 .none → h'.IsTupleIter s.heap.objs.size l 0 → h'.objs.size = s.heap.objs.size + 2 →
      (∀ b o, s.heap.get? b = some o → h'.get? b = some o) → Q (.ref (s.heap.objs.size + 1)) { s with heap := h' }) :
    wpAny (model prog w) A (call (.type "enumerate") [.ref l]) Q E s := by
  obtain ⟨⟨c, dct, dt, sl⟩, hl, hc, n, hd⟩ := hL
  replace hc : c = .type "tuple" := hc
  replace hd : dt = .seq items n := hd
  subst hc hd
  refine callType_new F.called_enumerate (by decide) (F.typeCall_enumerate_1 _) (F.newCall_enumerate_1 _) (fun obj => F.args_object_init_2 obj _) F.entry_enumerate_new
    (meets_enumT l items n dct sl) ⟨hl, ?_⟩
  have hz : (s.heap.push { cls := .type "tuple_iterator", data := .fields #[.ref l, .int 0 0] }).objs.size = s.heap.objs.size + 1 := Heap.size_push ..
  show _ ∧ _
  rw [hz]
  have he : IsEnum ((s.heap.push { cls := .type "tuple_iterator", data := .fields #[.ref l, .int 0 0] }).push
      { cls := .type "enumerate", data := .fields #[.none, .bool false, .ref s.heap.objs.size, rawInt 0, .none, .none] }) (s.heap.objs.size + 1) s.heap.objs.size 0 .none := by
    have := Heap.get?_push_size (s.heap.push { cls := .type "tuple_iterator", data := .fields #[.ref l, .int 0 0] })
      (o := { cls := .type "enumerate", data := .fields #[.none, .bool false, .ref s.heap.objs.size, rawInt 0, .none, .none] }) rfl
    rw [hz] at this; exact this
  refine ⟨⟨_, he, rfl⟩, h _ he ⟨_, Heap.get?_push_of_some _ (Heap.get?_push_size _ rfl), rfl, rfl⟩ (by rw [Heap.size_push, hz]) fun b o x => Heap.get?_push_of_some _ (Heap.get?_push_of_some _ x)⟩
end
/-- the tuple at a, each item in a new pair -/
def IteT (K : PySem.W.Frag) (a : Addr) : It :=
  ⟨fun i H => ∃ (xs : List V) (x : V), SqT K H a xs ∧ xs[i]? = some x, fun i H v H' => ∃ T x, v = .ref T ∧ H T = none ∧ H' = upd H T (.tup [.int (i : Nat), x]) ∧ ∀ xs, SqT K H a xs → xs[i]? = some x, fun i H => ∃ xs : List V, SqT K H a xs ∧ xs.length ≤ i⟩
theorem turn_enumT {P : Program} {w : World} {K : PySem.W.Frag} {elts : List Expr} {kk : Nat} {tpos : Pos} (a e it : Addr) (hai : a ≠ it) (hae : a ≠ e) :
    Turn P w K (.Tuple elts kk tpos) (IteT K a) [e, it] e (fun i h => (∃ old, IsEnum h e it ((i : Nat) : Int) old) ∧ h.IsTupleIter it a i ∧ e ≠ it) where
  mem := by simp
  obj := fun i h st b hb => by
    obtain ⟨⟨old, he⟩, ⟨o, ho, hc, hd⟩, _⟩ := st
    have e' : b = e ∨ b = it := by simpa using hb
    rcases e' with z | z
    · rw [z]; exact ⟨_, he, fun v q => nomatch q⟩
    · rw [z]; exact ⟨o, ho, fun v q => by rw [hd] at q; cases q⟩
  keep := fun i h h' st k => let ⟨⟨old, he⟩, hi, hne⟩ := st; ⟨⟨old, k e (by simp) _ he⟩, hi.at fun o q => k it (by simp) o q, hne⟩
  item := by
    intro X hP hw hK hc i pins s σ H E I hf st hg
    subst hP hw hK
    obtain ⟨⟨old, he⟩, hit, hne⟩ := st
    obtain ⟨xs, x, hq, hx⟩ := hg
    obtain ⟨its, rv, p, hz⟩ := I.tuple hq
    obtain ⟨u, hu, ru⟩ := rv.get hx
    have hel : e < s.heap.objs.size := Heap.lt_size he
    have hil : it < s.heap.objs.size := by obtain ⟨_, q, _⟩ := hit; exact Heap.lt_size q
    have hi : i < its.toArray.size := by
      rw [List.size_toArray]
      exact (List.getElem?_eq_some_iff.mp hu).1
    refine wpAny_pyNext_enum_itemD (Draws.tuple (A := X.A.in1) (I.ok.hd hc) it a hai its.toArray) he ⟨hit, p⟩ hi hne (by simp [hne, Ne.symm hae]) fun y h' tk hy ho hst' hT hsz hk => ?_
    have ey : y = u := by
      have : its.toArray[i]? = some u := by simpa using hu
      rw [this] at hy
      exact (Option.some.inj hy).symm
    subst ey
    have hit' := hst'.1
    refine ⟨_, rfl, wpAny_letOwnedTupleGo_enum (s := { s with heap := h', toks := tk + 1 }) ho fun h'' he' sb => ?_⟩
    have hT2 : h''.get? s.heap.objs.size = some { cls := .type "tuple", data := .seq #[.int i tk, y] } := (sb.2 _ (Nat.ne_of_gt hel)).trans hT
    have new : ObjOk X.prog X.w (upd H s.heap.objs.size (.tup [.int (i : Nat), x])) h'' s.heap.objs.size (.tup [.int (i : Nat), x]) :=
      ⟨by show 2 ≤ sizeLine; decide, [.int i tk, y], .cons ⟨_, rfl⟩ (.cons ru .nil), ⟨_, hT2, rfl, _, rfl⟩⟩
    have I1 : Inv X pins σ (upd H s.heap.objs.size (.tup [.int (i : Nat), x])) { s with heap := h'', toks := tk + 1 } :=
      I.turnedNew (ch := [e, it]) (fun b ob hb q => (sb.2 b (fun z => hb (by simp [z]))).trans (hk b ob (fun z => hb (by simp [z])) (fun z => hb (by simp [z])) q)) hf (Nat.le_refl _) new
    refine ⟨.ref s.heap.objs.size, _, I1, rfl, ⟨_, x, rfl, I.hok.fresh (Nat.le_refl _), rfl, fun ys hy => by rw [I.tuple_inj hy hq]; exact hx⟩, ⟨⟨y, ?_⟩, hit'.at fun o q => (sb.2 it (Ne.symm hne)).trans q, hne⟩, fun b hb => ?_⟩
    · have e1 : ((i + 1 : Nat) : Int) = (i : Int) + 1 := by omega
      rw [e1]; exact he'
    · have hb' : b < s.heap.objs.size := by
        have e' : b = e ∨ b = it := by simpa using hb
        rcases e' with z | z
        · rw [z]; exact hel
        · rw [z]; exact hil
      rw [upd_ne (Nat.ne_of_lt hb')]
      exact (hf b hb).1
  done := by
    intro X hP hw hK hc i pins s σ H E I hf st hg
    subst hP hw hK
    obtain ⟨⟨old, he⟩, hit, hne⟩ := st
    obtain ⟨xs, hq, hx⟩ := hg
    obtain ⟨its, rv, p, hz⟩ := I.tuple hq
    obtain ⟨f0, f1, f2, f3, f4, f5⟩ := hf it (by simp)
    have hl := rv.length
    exact enum_end_tup (I.ok.hd hc) he hit p (by simp; omega) fun h' eb => ⟨rfl, I.turned (t' := s.toks) (fun b o hb q => eb b o hb q) f0 f1 f3 f4 f5⟩
  self := fun A i s Q E st h => let ⟨⟨_, he⟩, _⟩ := st; wpAny_pyIter_enum he h
def iEnumT (K : PySem.W.Frag) (ta : TA) : TI := fun σ H R => ta σ H fun vs H1 => ∃ a xs, vs = [.ref a] ∧ SqT K H1 a xs ∧ R (IteT K a) H1
theorem pi_enumT {X : Cx} {e : Expr} {ta : TA} {p pos tpos : Pos} {elts : List Expr} {kk : Nat} (hg : Gl X "enumerate") (hm : X.mg "enumerate" = none) (ha : PA X [e] ta) (hs : starEach [e] X.env = [(false, eval e X.env)]) :
    PI X (.Tuple elts kk tpos) (.Call (.Name "enumerate" p) [e] [] pos) (iEnumT X.K ta) := by
  refine ⟨fun pins s σ H R I h => ?_⟩
  refine Call_ (ld_blt I hg hm boot_enumerate (PyProof.Rows.callWith_type1 (thn (ha.run pos pins s σ H _ I h) fun us s1 ⟨vs, H1, I1, r1, q1⟩ => ?_) hs rfl))
  obtain ⟨a, xs, ex, hq, q⟩ := q1
  subst ex
  cases r1 with
  | cons r rr =>
    cases rr
    cases r
    obtain ⟨its, rv, p', hz⟩ := I1.tuple hq
    have hal : a < s1.heap.objs.size := by obtain ⟨o, ho, _⟩ := p'; exact Heap.lt_size ho
    refine call_enumT p' fun h' he hit hsz hk => wpAny_pyIter_enum he ?_
    have I2 : Inv X pins σ H1 { s1 with heap := h' } := I1.kept (t' := s1.toks) hk
    refine ⟨s1.heap.objs.size + 1, [s1.heap.objs.size + 1, s1.heap.objs.size], _, _, H1, rfl, I2, turn_enumT a (s1.heap.objs.size + 1) s1.heap.objs.size (Nat.ne_of_lt hal) (Nat.ne_of_lt (Nat.lt_succ_of_lt hal)), ⟨⟨.none, he⟩, hit, Nat.succ_ne_self _⟩, fun b hb => ?_, q⟩
    have e' : b = s1.heap.objs.size + 1 ∨ b = s1.heap.objs.size := by simpa using hb
    have hle : s1.heap.objs.size ≤ b := by
      rcases e' with z | z
      · rw [z]; exact Nat.le_add_right _ _
      · rw [z]; exact Nat.le_refl _
    exact I1.fpOk hle (I1.hok.fresh hle)
end L2
namespace DL
open PySem L2
/-- the items with their places -/
def enumL (l : List Dat) : List Dat := (l.zip (List.range l.length)).map fun p => .tup [.int (p.2 : Nat), p.1]
theorem enumL_len (l : List Dat) : (enumL l).length = l.length := by
  unfold enumL
  rw [List.length_map, List.length_zip, List.length_range, Nat.min_self]
theorem enumL_get {l : List Dat} {i : Nat} {d : Dat} (h : (enumL l)[i]? = some d) : ∃ y, l[i]? = some y ∧ d = .tup [.int (i : Nat), y] := by
  have hi : i < l.length := by rw [← enumL_len]; exact (List.getElem?_eq_some_iff.mp h).1
  refine ⟨l[i], List.getElem?_eq_getElem hi, ?_⟩
  unfold enumL at h
  have hz : (l.zip (List.range l.length))[i]? = some (l[i], i) := List.getElem?_zip_eq_some.mpr ⟨List.getElem?_eq_getElem hi, List.getElem?_range hi⟩
  rw [List.getElem?_map, hz] at h
  exact (Option.some.inj h).symm
def dEnum (fe : DE) : DA := fun ds g => (fe ds g).bind fun d g => match d with
  | .tup l => .ok (enumL l) g
  | .lst l => .ok (enumL l) g
  | _ => .no
theorem pair_new {G : Gm} {A : List Addr} {M H : Hp} {g : Gl} {T : Addr} {i : Nat} {v : V} {y : Dat} (wd : Wd A M H) (gl : GlOk G A M H g) (hT : H T = none) (r : Rp G A M v y) : ∃ M', Grow [] A A M M' H (upd H T (.tup [.int (i : Nat), v])) ∧ GlOk G A M' (upd H T (.tup [.int (i : Nat), v])) g ∧ Rp G A M' (.ref T) (.tup [.int (i : Nat), y]) := by
  have gn := Grow.new (o := .tup [.int (i : Nat), v]) wd gl hT
  exact ⟨_, gn, gl.new wd hT, .tup (SqT.of upd_same) (.cons (.int _) (.cons (r.grow gn) .nil))⟩
theorem it_enum {G : Gm} {A1 : List Addr} {M1 : Hp} {a : Addr} {xs : List V} {l : List Dat} (h : M1 a = some (.lst xs)) (r : RpA G A1 M1 xs l) : ItOk G (Ite G.K a) A1 M1 (enumL l) := fun i A M H g inc wd gl => by
  have hH : SqL G.K H a xs := SqL.of (wd.mh _ _ (inc.2 _ _ h))
  refine ⟨fun d hd => ?_, fun hl => ⟨xs, hH, by rw [r.length, ← enumL_len]; exact hl⟩⟩
  obtain ⟨y, h1, rfl⟩ := enumL_get hd
  obtain ⟨v, e1, e2⟩ := r.get h1
  refine ⟨⟨xs, v, hH, e1⟩, fun x H' hy => ?_⟩
  obtain ⟨T, x1, rfl, hT, rfl, e3⟩ := hy
  have e4 := e3 xs hH
  rw [e1] at e4
  cases e4
  exact pair_new wd gl hT (e2.mono inc.1 inc.2)
theorem it_enumT {G : Gm} {A1 : List Addr} {M1 : Hp} {a : Addr} {xs : List V} {l : List Dat} (h : SqT G.K M1 a xs) (r : RpA G A1 M1 xs l) : ItOk G (IteT G.K a) A1 M1 (enumL l) := fun i A M H g inc wd gl => by
  have hH : SqT G.K H a xs := same_t wd.mh (same_t inc.2 h)
  refine ⟨fun d hd => ?_, fun hl => ⟨xs, hH, by rw [r.length, ← enumL_len]; exact hl⟩⟩
  obtain ⟨y, h1, rfl⟩ := enumL_get hd
  obtain ⟨v, e1, e2⟩ := r.get h1
  refine ⟨⟨xs, v, hH, e1⟩, fun x H' hy => ?_⟩
  obtain ⟨T, x1, rfl, hT, rfl, e3⟩ := hy
  have e4 := e3 xs hH
  rw [e1] at e4
  cases e4
  exact pair_new wd gl hT (e2.mono inc.1 inc.2)
section
variable {X : Cx} {w : Wc} {e : Expr} {fe : DE} {p pos tpos : Pos} {elts : List Expr} {kk : Nat}
theorem i_enum (hK : X.K = w.G.K) (hg : L2.Gl X "enumerate") (hm : X.mg "enumerate" = none) (he : KD X w e fe) (hs : starEach [e] X.env = [(false, eval e X.env)]) (hc : starEach [e] X.env = (false, eval e X.env) :: starEach [] X.env) : ID X w (.Tuple elts kk tpos) (.Call (.Name "enumerate" p) [e] [] pos) (dEnum fe) :=
  pi_imp (pi_or (pi_enum hg hm (pa_cons he pa_nil hc) hs) (pi_enumT hg hm (pa_cons he pa_nil hc) hs)) fun σ H R ⟨B, A, M, ds, g, rel, p⟩ => by
    have p' := Rs.post_bind p
    rw [hK]
    cases q : fe ds g with
    | no => rw [q] at p'; exact p'.elim
    | er e g1 =>
      rw [q] at p'
      refine .inl ⟨B, A, M, ds, g, rel, ?_⟩
      rw [q]
      exact p'
    | ok d g1 =>
      rw [q] at p'
      cases d with
      | lst l =>
        refine .inl ⟨B, A, M, ds, g, rel, ?_⟩
        rw [q]
        intro v A1 M1 H1 gr gl r
        cases r with
        | @lst a xs l h r => exact ⟨a, xs, rfl, SqL.of (gr.mh _ _ h), p' _ A1 M1 H1 gr gl (it_enum h r)⟩
      | tup l =>
        refine .inr ⟨B, A, M, ds, g, rel, ?_⟩
        rw [q]
        intro v A1 M1 H1 gr gl r
        cases r with
        | @tup a xs l h r => exact ⟨a, xs, rfl, same_t gr.mh h, p' _ A1 M1 H1 gr gl (it_enumT h r)⟩
      | _ => exact p'.elim
end
end DL

/-! DL, part 37: defs with *names, called by their name; properties of rules. -/
namespace DL
open PySem L2

/-- def f(*v): the place, and what it binds -/
def StarAt (K : PySem.W.Frag) (mg : Str → Option Value) (x : Str) (st : Stmt) (v : Str) : Prop := ∃ (f : Addr) (fd : FuncData), Fun K x x st f fd ∧ mg x = some (.ref f) ∧ ∀ us : List Value, bindArgs fd ⟨us, []⟩ = (newTuple us >>= fun t => pure [(v, t)])
theorem star_at {K : PySem.W.Frag} {mg : Str → Option Value} {h : Heap} {x v : Str} {st : Stmt} {f : Addr} {oc : Value} {od an : Option Addr} {osl : Array (Option Value)} {kV doc pm cdv ct : Value} (X : K.In h) (G : h.Ns mainGlobals mg) (a : PySem.W.nsIn K mainGlobals x = some (some (.ref f)))
    (l : K.lookup f = some ⟨oc, od, .func (PySem.W.fnOf x x (defArgs st) (defBody st) (defScope st) .none kV doc pm an cdv ct), osl⟩) (c : PySem.W.codeIn K cdv x = true) (k : PySem.W.keepIn K (.ref f) = true)
    (hb : ∀ (kV doc pm : Value) (an : Option Addr) (cdv ct : Value) (us : List Value), bindArgs (PySem.W.fnOf x x (defArgs st) (defBody st) (defScope st) .none kV doc pm an cdv ct) ⟨us, []⟩ = (newTuple us >>= fun t => pure [(v, t)])) : StarAt K mg x st v :=
  ⟨f, _, fun_mk l c k, PySem.W.mg_of X G a, hb _ _ _ _ _ _⟩
/-- such a def's answers: what is given as one tuple -/
def mkV (m : Nat) (body : DS) : Fn := fun l g => if l.length ≤ few then mkF 1 m body [.tup l] g else .no
def spV (G : Gm) (F : Fn) : Sp := fun vs H Q E => ∃ A M ds g, Wd A M H ∧ GlOk G A M H g ∧ RpA G A M vs ds ∧ (F ds g).Post (QE G A M H Q) (EF G A M H E)
structure CalV (P : Program) (w : World) (mg : Str → Option Value) (base : Heap) (G : Gm) (k : Nat) (x : Str) (F : Fn) : Prop where
  ok : ∃ f : Addr, FnR P w G.K mg base (L2.CX P w) k f (spV G F) ∧ mg x = some (.ref f) ∧ PySem.W.keepIn G.K (.ref f) = true
theorem star_ok {P : Program} {w : World} {mg : Str → Option Value} {base : Heap} {G : Gm} {x v : Str} {st : Stmt} {N : List Str} {k m : Nat} {body : DS} (D : StarAt G.K mg x st v) (S : FnScope N [v] (defScope st)) (hN : N.length = m)
    (hb : ∀ (f : Addr) (cdv : Value) (A : Around) (outer : List Env) (s : Shared) (H : Hp) (E : XK), Room k (A.deeper (PyProof.Rows.envOfC x (defScope st) s.heap.objs.size f cdv)) →
      SsD (cxOf (L2.CX P w) P w G.K mg base N x (defScope st) f cdv A outer s H E) (wcF G E) (defBody st) body) :
    CalV P w mg base G (k + 1) x (mkV m body) := by
  obtain ⟨f, fd, F, hm, hbd⟩ := D
  have F' := F
  obtain ⟨oc, od, kV, doc, pm, an, cdv, ct, osl, rfl, lk, hcd⟩ := F.ex
  have key := StX.fn_star (ps := []) (pv := v) (P := P) (w := w) (mg := mg) (base := base) (CX := L2.CX P w) (k := k) (sp := spF G 1 (mkF 1 m body)) lk hcd S StX.cxUp (fun us rest hu => by
    cases us with
    | nil => exact hbd rest
    | cons a b => cases hu) (fun A outer s H vs Q E hr h => by
      obtain ⟨hl, A0, M, l, g, wd, gl, r, p⟩ := h
      refine ⟨_, hb f cdv A outer s H E hr, ?_⟩
      have hl' : l.length = 1 := by rw [← r.length]; exact hl
      unfold mkF at p
      rw [if_pos hl'] at p
      have rs := rel_start (w := wcF G E) N wd gl r
      rw [hN, hl'] at rs
      refine ⟨⟨[], A0, M, H⟩, A0, M, _, g, rs, (Rs.post_bind p).imp (fun o g1 p1 => ?_) fun e g1 p1 cls dd A' M' H' σ' gr gl er => p1 cls dd A' M' H' gr gl er⟩
      cases o with
      | nx ds => exact fun A' M' H' σ' r _ => p1 .non A' M' H' r.gr r.gl .non
      | rt d => exact fun v A' M' H' gr gl rp => p1 v A' M' H' gr gl rp
      | bk ds => exact p1.elim
      | ct ds => exact p1.elim)
  refine ⟨f, FnR.imp key fun vs H Q E h => ?_, hm, F'.kp⟩
  obtain ⟨A, M, l, g, wd, gl, r, p⟩ := h
  unfold mkV at p
  by_cases hl : l.length ≤ few
  · rw [if_pos hl] at p
    refine ⟨[], vs, rfl, rfl, few_line (by rw [r.length]; exact hl), fun q hq => ⟨rfl, ?_⟩⟩
    have gn := Grow.new (o := .tup vs) wd gl hq
    refine ⟨A, upd M q (.tup vs), [.tup l], g, gn.wd, gl.new wd hq, .cons (.tup (SqT.of upd_same) (r.grow gn)) .nil, p.imp (fun d g1 z => QE.on z gn (gl.new wd hq)) fun e g1 z cls dd A' M' H' gr' gl' er => z cls dd A' M' H' (gn.trans gr' (gl.new wd hq) (fun _ z => nomatch z)) gl' er⟩
  · rw [if_neg hl] at p
    exact p.elim
section
variable {X : Cx} {CX : CXT} {k : Nat} {f : Addr} {sp : Sp} {E : St → XK} {x : Str} {e : Expr} {es : List Expr} {t : TA} {p pos : Pos}
theorem pe_callRS (F : FnR X.prog X.w X.K X.mg X.base CX k f sp) (hr : Room k X.A) (hg : L2.Gl X x) (hm : X.mg x = some (.ref f)) (hk : PySem.W.keepIn X.K (.ref f) = true) (hx : ∀ σ, PassesAt CX X σ (E σ))
    (ha : PA X (e :: es) t) (hdb : (x == ("__debug__" : Str)) = false) (he : starEach (e :: es) X.env = (false, eval e X.env) :: starEach es X.env) (hpl : (backTo pos (starEach es X.env)).any (·.1) = false) :
    PE X (.Call (.Name x p) (e :: es) [] pos) (tCallS sp E t) := by
  refine ⟨fun pins s σ H Q I h => ?_⟩
  refine wpAny_Call_Name_kw (ld_glob I hg hm ?_ hdb)
  refine PySem.W.callWith_K (h₀ := X.base) I.ok.mod.kin hk (thn (ha.run pos pins s σ H _ I h) fun us s1 ⟨vs, H1, I1, r, q⟩ => ⟨I1.kIn, ?_⟩) he hpl
  refine wpAny_call (codeAny_mono (F X.A X.stack s1 H1 us vs Q (E σ) hr I1.env0 r q) fun r s' hq => ?_)
  cases r with
  | error e => exact hx σ pins H1 s1 e s' I1 hq
  | ok fl =>
    cases fl with
    | ret u => exact I1.after hq
    | next => exact False.elim hq
    | brk => exact False.elim hq
    | cont => exact False.elim hq
end
section
variable {X : Cx} {w : Wc} {e : Expr} {es : List Expr} {pos : Pos}
theorem k_callV {x : Str} {p : Pos} {k j : Nat} {F : Fn} {fr : DA} (c : CalV X.prog X.w X.mg X.base w.G k x F) (hK : X.K = w.G.K) (tk : Takes X w.W) (hr : Room j X.A) (hj : k ≤ j) (hg : L2.Gl X x) (ha : AD X w (e :: es) fr)
    (hdb : (x == ("__debug__" : Str)) = false) (he : starEach (e :: es) X.env = (false, eval e X.env) :: starEach es X.env) (hpl : (backTo pos (starEach es X.env)).any (·.1) = false) : KD X w (.Call (.Name x p) (e :: es) [] pos) (dCall F fr) := by
  obtain ⟨f, hF, hm, hk⟩ := c.ok
  rw [← hK] at hF hk
  refine pe_imp (pe_callRS hF (hr.mono hj) hg hm hk (fun σ => passAt tk σ) ha hdb he hpl) fun σ H Q ⟨B, A, M, ds, g, rel, p⟩ => ⟨B, A, M, ds, g, rel, (Rs.post_bind p).imp (fun l g1 p1 vs A1 M1 H1 gr gl r => ?_) fun _ _ z => z⟩
  exact ⟨A1, M1, l, g1, gr.wd, gl, r, p1.imp (fun _ _ z => QE.on z gr gl) fun _ _ z => EE.on z gr gl⟩
end
/-! ### properties of rules -/
structure CalPR (P : Program) (w : World) (mg : Str → Option Value) (base : Heap) (G : Gm) (k : Nat) (m : Str) (F : Fn) : Prop where
  ok : ∃ (p f : Addr) (fd : FuncData) (ps : List Str), FnOk P w G.K mg base (L2.CX P w) k f fd ps (spF G 1 F) ∧ PropOf G.K G.rC m p f ∧ Binds G.K fd ps []
def dPropR (F : Fn) (fo : DE) : DE := fun ds g => (fo ds g).bind fun d g => match d with
  | .rul a b c => okOnly (F [.rul a b c] g)
  | _ => .no
theorem k_propR {X : Cx} {w : Wc} {o : Expr} {fo : DE} {pos : Pos} {k j : Nat} {F : Fn} {f : Str} (c : CalPR X.prog X.w X.mg X.base w.G k f F) (hC : Cls w.G.K w.G.rC) (hK : X.K = w.G.K) (hr : Room j X.A) (hj : k + 1 ≤ j) (ha : BD X w o fo) (hb : attributeBase o f X.env (eval o X.env) = eval o X.env) :
    KD X w (.Attribute o f pos) (dPropR F fo) := by
  obtain ⟨p, f', fd, ps, hF, hP, hB⟩ := c.ok
  rw [← hK] at hF hP hB hC
  refine pe_imp (pe_prop (E := fun _ _ _ => False) (dvs := []) ha hC hP hF (hr.mono hj) hB .nil (fun pins σ H s e s' I q => passAt (X := X.nox) takesN σ pins H s e s' I q) hb) fun σ H Q ⟨B, A, M, ds, g, rel, p⟩ => ⟨B, A, M, ds, g, rel, (Rs.post_bind p).imp (fun d g1 p1 v A1 M1 H1 gr gl r => ?_) fun _ _ z => z⟩
  split at p1
  · rename_i a b c
    cases r with
    | fz r =>
      have r' := r
      cases r with
      | @rul a' dx v1 v2 v3 _ _ _ h r1 r2 r3 =>
        refine ⟨a', dx, _, rfl, gr.wd.mh _ _ h, rfl, A1, M1, [.rul a b c], g1, gr.wd, gl, .cons r' .nil, ?_⟩
        have p2 : (okOnly (F [.rul a b c] g1)).Post (QE w.G A M H Q) (EE w A M H σ) := p1
        cases q : F [.rul a b c] g1 with
        | no => rw [q] at p2; exact p2.elim
        | er e g2 => rw [q] at p2; exact p2.elim
        | ok z g2 => rw [q] at p2; exact QE.on p2 gr gl
  · exact p1.elim
end DL

/-! DL, part 38: a def called with nothing. -/
namespace DL
open PySem L2
section
variable {X : Cx} {CX : CXT} {k : Nat} {f : Addr} {fd : FuncData} {ps : List Str} {sp : Sp} {E : St → XK} {x : Str} {p pos : Pos}
theorem pe_callS0 (F : FnOk X.prog X.w X.K X.mg X.base CX k f fd ps sp) (hr : Room k X.A) (hg : L2.Gl X x) (hm : X.mg x = some (.ref f)) (hk : PySem.W.keepIn X.K (.ref f) = true) (hb : Binds X.K fd ps []) (hx : ∀ σ, PassesAt CX X σ (E σ))
    (hdb : (x == ("__debug__" : Str)) = false) : PE X (.Call (.Name x p) [] [] pos) (tCallS sp E tNil) := by
  refine ⟨fun pins s σ H Q I h => ?_⟩
  refine wpAny_Call_Name_kw (ld_glob I hg hm ?_ hdb)
  exact PySem.W.callWith_K0 I.kIn hk (run_fnS (us := []) F hr hb (hx σ) I .nil h)
end
theorem k_call0 {X : Cx} {w : Wc} {pos : Pos} {x : Str} {p : Pos} {k j n : Nat} {F : Fn} (c : Cal X.prog X.w X.mg X.base w.G k x n F) (hK : X.K = w.G.K) (tk : Takes X w.W) (hr : Room j X.A) (hj : k ≤ j) (hg : L2.Gl X x)
    (hdb : (x == ("__debug__" : Str)) = false) : KD X w (.Call (.Name x p) [] [] pos) (dCall F dNil) := by
  have c' := c
  obtain ⟨f, fd, ps, hF, hm, hk, hb⟩ := c.ok
  rw [← hK] at hF hk hb
  refine pe_imp (pe_callS0 hF (hr.mono hj) hg hm hk hb (fun σ => passAt tk σ) hdb) fun σ H Q ⟨B, A, M, ds, g, rel, p⟩ => ?_
  exact cal_go c' rel.wd rel.gl .nil ((show (F [] g).Post _ _ from p).imp (fun _ _ z => QE.on z rel.wd.refl rel.gl) fun _ _ z => EE.on z rel.wd.refl rel.gl)
end DL

/-! DL, part 39: t[::-1], a tuple or a list. -/
namespace DL
open PySem L2
section
open PyProof.Rows HT
variable {prog : Program} {w : World} {A : Around} {E : Value → Shared → Prop} {s : Shared}
theorem adjust_rev (n : Nat) : Builtin.Slice.sliceAdjust none none (-1) (n : Int) = ((n : Int) - 1, -1) := rfl
theorem places_rev (n : Nat) : Builtin.Slice.slicePlaces ((n : Int) - 1) (-1) (-1) = n := by
  unfold Builtin.Slice.slicePlaces
  have h1 : ¬ ((-1 : Int) > 0) := by omega
  have h2 : (-(-1 : Int)) = 1 := rfl
  simp only [h1, if_false, h2, Int.ediv_one]
  split <;> omega
theorem sliceApplied_rev {sl : Addr} {vl vu vs : Value} {n : Nat} {Q : Int × Int × Nat → Shared → Prop} (hs : s.heap.IsSliceOf sl vl vu vs) (pl : IsPart vl none) (pu : IsPart vu none) (ps : IsPart vs (some (-1)))
    (h : Q ((n : Int) - 1, -1, n) s) : wpAny (model prog w) A (Builtin.Slice.sliceApplied (.ref sl) (pure (n : Int))) Q E s := by
  obtain ⟨os, hos, hcs, hds⟩ := id hs
  unfold Builtin.Slice.sliceApplied Builtin.Slice.sliceFields
  refine wpAny_bind (wpAny_bind (wpAny_field hos hds (x := vl) rfl (wpAny_bind (wpAny_field hos hds (x := vu) rfl (wpAny_bind (wpAny_field hos hds (x := vs) rfl (wpAny_pure ?_)))))))
  refine wpAny_bind (slicePart_ ps ?_)
  show wpAny _ _ (if ((-1 : Int) == 0) = true then _ else _) _ _ s
  rw [if_neg (by decide)]
  refine wpAny_bind (slicePart_ pl (wpAny_bind (slicePart_ pu (wpAny_bind (wpAny_pure ?_)))))
  show wpAny _ _ (match Builtin.Slice.sliceAdjust none none (-1) (n : Int) with | (lo, hi) => pure (lo, (-1 : Int), Builtin.Slice.slicePlaces lo hi (-1))) _ _ s
  rw [adjust_rev n]
  show wpAny _ _ (pure ((n : Int) - 1, (-1 : Int), Builtin.Slice.slicePlaces ((n : Int) - 1) (-1) (-1))) _ _ s
  rw [places_rev]
  exact wpAny_pure h
theorem pick_rev (xs : Array Value) : ((List.range xs.size).filterMap fun (m : Nat) => xs[(((xs.size : Int) - 1) + (m : Int) * (-1)).toNat]?).toArray = xs.toList.reverse.toArray := by
  have e : (List.range xs.size).filterMap (fun (m : Nat) => xs[(((xs.size : Int) - 1) + (m : Int) * (-1)).toNat]?) = ((List.range xs.size).map fun k => xs.size - 1 - k).filterMap (xs[·]?) := by
    rw [List.filterMap_map]
    have hf : (fun (m : Nat) => xs[(((xs.size : Int) - 1) + (m : Int) * (-1)).toNat]?) = ((xs[·]?) ∘ fun k => xs.size - 1 - k) := by
      funext m
      have : (((xs.size : Int) - 1) + (m : Int) * (-1)).toNat = xs.size - 1 - m := by omega
      show xs[(((xs.size : Int) - 1) + (m : Int) * (-1)).toNat]? = xs[xs.size - 1 - m]?
      rw [this]
    rw [hf]
  rw [e, PySem.W.krv_range, List.filterMap_reverse, PySem.W.krv_all]
theorem getItem_tuple_rev {t sl : Addr} {items : Array Value} {vl vu vs : Value} {Q : Value → Shared → Prop} (ht : IsTup s.heap t items) (hs : s.heap.IsSliceOf sl vl vu vs) (pl : IsPart vl none) (pu : IsPart vu none) (ps : IsPart vs (some (-1)))
    (h : Q (.ref s.heap.objs.size) { s with heap := s.heap.push { cls := .type "tuple", data := .seq items.toList.reverse.toArray } })
    (hsz : items.size ≤ sizeLine) : wpAny (model prog w) A (getItem (.ref t) (.ref sl)) Q E s := by
  have htake : sizeOk (.seq items.toList.reverse.toArray) := by
    show items.toList.reverse.toArray.size ≤ sizeLine
    rw [List.size_toArray, List.length_reverse, Array.length_toList]
    exact hsz
  obtain ⟨os, hos, hcs, hds⟩ := id hs
  have hTs : s.TypeIs (.ref sl) "slice" := ⟨os, hos, hcs⟩
  unfold getItem
  try with_reducible refine wpAny_holding ?_
  first | refine wpAny_bind (wpAny_pure ?_) | skip
  refine wpAny_bind (wpAny_sequenceKey ht.typeIs (by decide) ?_)
  refine wpAny_bind (wpAny_callSpecial?_slot (name := Str.ofString "__getitem__") ht.typeIs PyProof.Rows.slot_tuple_getitem
    (wpAny_call_entry PyProof.Rows.slot_tuple_getitem ht.typeIs entry_tuple_getitem ?_ (args_tuple_getitem _ _)))
  show wpAny _ _ (Builtin.Tuple.tupleItemsOf (.ref t) >>= _) _ _ s
  refine wpAny_bind (tupleItemsOf_ ht ?_)
  refine wpAny_bind (wpAny_typeOf hTs ?_)
  rw [if_pos (by decide)]
  refine wpAny_bind (sliceApplied_rev hs pl pu ps ?_)
  have hno : ¬ ((((items.size : Int) - 1) == 0 && (-1 : Int) == 1 && items.size == items.size) = true) := by
    intro q
    rw [Bool.and_eq_true, Bool.and_eq_true] at q
    exact absurd q.1.2 (by decide)
  show wpAny _ _ (if (((items.size : Int) - 1) == 0 && (-1 : Int) == 1 && items.size == items.size) = true then _ else _) _ _ s
  rw [if_neg hno, pick_rev]
  first
    | exact wpAny_bind (m := Builtin.Tuple.tupleExact _) (wpAny_newObj_type (wpAny_pure ⟨_, rfl, wpAny_pure h⟩) htake)
    | exact wpAny_bind (m := Builtin.Tuple.tupleExact _) (wpAny_newObj_type (wpAny_bind (wpAny_pure (wpAny_pure ⟨_, rfl, wpAny_pure h⟩))) htake)
    | exact wpAny_bind (wpAny_bind (m := Builtin.Tuple.tupleExact _) (wpAny_newObj_type (wpAny_pure (wpAny_pure ⟨_, rfl, wpAny_pure h⟩)) htake))
    | exact wpAny_bind (wpAny_bind (m := Builtin.Tuple.tupleExact _) (wpAny_newObj_type (wpAny_pure ⟨_, rfl, wpAny_pure h⟩) htake))
end
def tRevT (K : PySem.W.Frag) (te : TE) : TE := fun σ H Q => te σ H fun x H1 => ∃ a xs, x = .ref a ∧ ((SqL K H1 a xs ∧ ∀ p, H1 p = none → Q (.ref p) (upd H1 p (.lst xs.reverse))) ∨ (SqT K H1 a xs ∧ ∀ p, H1 p = none → Q (.ref p) (upd H1 p (.tup xs.reverse))))
section
open PyProof.Rows
theorem pe_revT {X : Cx} {e : Expr} {te : TE} {k : Nat} {p1 p2 p3 pos : Pos} (he : PE X e te) : PE X (.Subscript e (.Slice none none (some (.UnaryOp .USub (.Constant (.int 1) k p1) p2)) p3) pos) (tRevT X.K te) := by
  refine ⟨fun pins s σ H Q I h => ?_⟩
  refine Subscript_ (thn (he.run pins s σ H _ I h) fun v s1 ⟨x, H1, I1, r1, q1⟩ => ?_)
  obtain ⟨a, xs, ex, q⟩ := q1
  subst ex
  cases r1
  have hst : PO X (some (.UnaryOp .USub (.Constant (.int 1) k p1) p2)) (tPart (tUn (rU fun i => .int (-i)) (tC (.int 1)))) := po_some (pe_un un_neg pe_int)
  refine wpAny_Slice (thn (po_none.run pins s1 σ H1 (fun o H2 => o = none ∧ H2 = H1) I1 ⟨rfl, rfl⟩) fun vl s2 ⟨l, H2, I2, pl, el, e2⟩ => ?_)
  subst el e2
  refine thn (po_none.run pins s2 σ H2 (fun o H3 => o = none ∧ H3 = H2) I2 ⟨rfl, rfl⟩) fun vu s3 ⟨u, H3, I3, pu, eu, e3⟩ => ?_
  subst eu e3
  refine thn (hst.run pins s3 σ H3 (fun o H4 => o = some (-1) ∧ H4 = H3) I3 ⟨1, rfl, -1, rfl, rfl, rfl⟩) fun vs s4 ⟨o, H4, I4, ps, eo, e4⟩ => ?_
  subst eo e4
  have I5 : Inv X pins σ H4 { s4 with heap := s4.heap.push { cls := .type "slice", data := .fields #[vl, vu, vs] } } := I4.kept (t' := s4.toks) fun b ob q => Heap.get?_push_of_some _ q
  show wpAny (model X.prog X.w) X.A (subscriptTail e (.Slice none none (some (.UnaryOp .USub (.Constant (.int 1) k p1) p2)) p3) (.ref a) (.ref s4.heap.objs.size)) (EP X pins σ Q) X.xe { s4 with heap := s4.heap.push { cls := .type "slice", data := .fields #[vl, vu, vs] } }
  rcases q with ⟨hx, q⟩ | ⟨hx, q⟩
  · obtain ⟨its, r, ht, hz⟩ := I5.list hx
    have hlen := r.length
    refine tail_any (ops := [.ref a, .ref s4.heap.objs.size]) ht.isList.typeIs (PySem.slot_list_getitem.lookup) ?_ (by with_unfolding_all rfl)
    refine wpAny_getItem_list_slice ht.isList (Heap.IsSliceOf.new _ vl vu vs) pl pu ps (by decide) ?_ (by rw [List.size_toArray]; omega)
    rw [PySem.W.krv_pick]
    refine ⟨.ref _, _, I5.laid (t' := s4.toks) (o := .lst xs.reverse) (fun b ob q => Heap.get?_push_of_some _ q) (Nat.le_refl _) ?_, rfl, q _ (I5.hok.fresh (Nat.le_refl _))⟩
    exact ⟨by rw [List.length_reverse]; exact hz, _, 0, r.reverse, Heap.get?_push_size _ rfl⟩
  · obtain ⟨its, r, ht, hz⟩ := I5.tuple hx
    have hlen := r.length
    refine tail_any (ops := [.ref a, .ref s4.heap.objs.size]) ht.typeIs (PyProof.Rows.slot_tuple_getitem.lookup) ?_ (by with_unfolding_all rfl)
    refine getItem_tuple_rev ht (Heap.IsSliceOf.new _ vl vu vs) pl pu ps ?_ (by rw [List.size_toArray]; omega)
    refine ⟨.ref _, _, I5.laid (t' := s4.toks) (o := .tup xs.reverse) (fun b ob q => Heap.get?_push_of_some _ q) (Nat.le_refl _) ?_, rfl, q _ (I5.hok.fresh (Nat.le_refl _))⟩
    exact ⟨by rw [List.length_reverse]; exact hz, _, r.reverse, IsTup.new _ _⟩
end
/-- x[::-1], kept -/
def oRevK (g : Gl) (d : Dat) : Option Dat := match d with
  | .tup l => some (.tup l.reverse)
  | d => match lview g d with
    | some l => some (.lst l.reverse)
    | none => none
def dRevK (fe : DE) : DE := fun ds g => (fe ds g).bind fun d g => Rs.opt (oRevK g d) g
theorem k_rev {X : Cx} {w : Wc} {e : Expr} {fe : DE} {pos p2 : Pos} {k : Nat} {p1 p3 : Pos} (hK : X.K = w.G.K) (he : BD X w e fe) : KD X w (.Subscript e (.Slice none none (some (.UnaryOp .USub (.Constant (.int 1) k p1) p2)) p3) pos) (dRevK fe) :=
  pe_imp (pe_revT he) fun σ H Q ⟨B, A, M, ds, g, rel, p⟩ => ⟨B, A, M, ds, g, rel, (Rs.post_bind p).imp (fun d g1 p1 x A1 M1 H1 gr gl rx => by
    obtain ⟨z, ez, qz⟩ := post_opt p1
    rw [hK]
    unfold oRevK at ez
    split at ez
    · rename_i l0
      cases ez
      obtain ⟨a, xs, rfl, hx, r⟩ := rx.tup gr.wd
      refine ⟨a, xs, rfl, .inr ⟨hx, fun p hp => ?_⟩⟩
      exact QE.atT (QE.on qz gr gl) gr.wd gl hp r.rev
    · cases el : lview g1 d with
      | none => rw [el] at ez; cases ez
      | some l0 =>
        rw [el] at ez
        cases ez
        obtain ⟨a, xs, rfl, hx, r⟩ := rx.lview gr.wd gl el
        refine ⟨a, xs, rfl, .inl ⟨SqL.of hx, fun p hp => ?_⟩⟩
        have gn := Grow.new (o := .lst xs.reverse) gr.wd gl hp
        exact qz (.ref p) A1 _ _ (gr.trans gn gl (fun _ z => nomatch z)) (gl.new gr.wd hp) (.lst upd_same (r.rev.grow gn))) fun _ _ z => z⟩
def kRvK (r : Rs Dat) : Rs Dat := r.bind fun d g => Rs.opt (oRevK g d) g
theorem EV13 : (∀ (fe : DE) (ds : DEnv) (g : Gl), dRevK fe ds g = kRvK (fe ds g)) ∧ (∀ (l : List Dat) (g : Gl), kRvK (.ok (.tup l) g) = .ok (.tup l.reverse) g) ∧ (∀ (l : List Dat) (g : Gl), kRvK (.ok (.lst l) g) = .ok (.lst l.reverse) g) := by
  refine ⟨?_, ?_, ?_⟩ <;> intros <;> rfl
end DL

/-! DL, part 40: texts: str(n), int(text), split, join, text * n, f-strings; list(range(..)); dict(d). -/
namespace DL
open PySem L2

/-! ### str(n), int(text) -/
def oStrI (_ : Gl) : List Dat → Option Dat
  | [.int i] => if i.natAbs < 2 ^ 100 then some (.str (toString i)) else none
  | _ => none
theorem log_100 {n : Nat} (h : n < 2 ^ 100) : n.log2 < 1920 := by
  by_cases h0 : n = 0
  · subst h0; decide
  · have := (Nat.log2_lt h0).mpr h
    omega
theorem r_strI {G : Gm} : R1ok G (fun xs H Q => ∃ i, xs = [.int i] ∧ i.natAbs.log2 < 1920 ∧ Q (.str (toString i)) H) oStrI := fun A M H g vs l z Q wd gl rv eo q => by
  unfold oStrI at eo
  split at eo
  · rename_i i
    split at eo
    · rename_i hi
      cases eo
      cases rv with
      | cons r0 r =>
        cases r
        have e := Rb.int r0
        subst e
        exact ⟨i, rfl, log_100 hi, q _ A M H wd.refl gl (.str _)⟩
    · cases eo
  · cases eo
def oIntS (_ : Gl) : List Dat → Option Dat
  | [.str a] => if a.length ≤ 640 then (PySem.intText? a).map Dat.int else none
  | _ => none
theorem r_intS {G : Gm} : R1ok G (fun xs H Q => ∃ a n, xs = [.str a] ∧ PySem.intText? a = some n ∧ a.length ≤ 640 ∧ Q (.int n) H) oIntS := fun A M H g vs l z Q wd gl rv eo q => by
  unfold oIntS at eo
  split at eo
  · rename_i a
    split at eo
    · rename_i hl
      cases hn : PySem.intText? a with
      | none => rw [hn] at eo; cases eo
      | some n =>
        rw [hn] at eo
        cases eo
        cases rv with
        | cons r0 r =>
          cases r
          have e := Rb.str r0
          subst e
          exact ⟨a, n, rfl, hn, hl, q _ A M H wd.refl gl (.int _)⟩
    · cases eo
  · cases eo
/-! ### split, join -/
theorem rpa_strs {G : Gm} {A : List Addr} {M : Hp} : ∀ ys : List Str, RpA G A M (ys.map V.str) (ys.map Dat.str)
  | [] => .nil
  | y :: ys => .cons (.str y) (rpa_strs ys)
def strsD : List Dat → Option (List Str)
  | [] => some []
  | .str x :: l => (strsD l).map (x :: ·)
  | _ => none
theorem strsD_rp {G : Gm} {A : List Addr} {M : Hp} : ∀ {l : List Dat} {vs : List V} {ys : List Str}, RpA G A M vs l → strsD l = some ys → vs = ys.map V.str
  | [], vs, ys, r, h => by
    cases h
    cases r
    rfl
  | d :: l, vs, ys, r, h => by
    cases r with
    | cons r0 r =>
      cases r0 with
      | str x =>
        have h' : (strsD l).map (x :: ·) = some ys := h
        cases hl : strsD l with
        | none => rw [hl] at h'; cases h'
        | some zs =>
          rw [hl] at h'
          cases h'
          rw [strsD_rp r hl]
          rfl
      | _ => cases h
def oSplit (x : Str) (b : Dat) : Option (List Dat) := match b with
  | .str y => if (y.length == 0) = false ∧ x.length ≤ 100000 then some ((Txt.split x y).map Dat.str) else none
  | _ => none
def dSplit (fo fe : DE) : DA := fun ds g => (fo ds g).bind fun a g => match a with
  | .str x => (fe ds g).bind fun b g => Rs.opt (oSplit x b) g
  | _ => .no
def oJoin (g : Gl) (x : Str) (b : Dat) : Option Dat := match lview g b with
  | some l => match strsD l with
    | some ys => if (ys.map (·.length)).sum + ys.length * x.length ≤ 1000000 then some (.str (Txt.join x ys)) else none
    | none => none
  | none => none
def dJoin (fo fe : DE) : DE := fun ds g => (fo ds g).bind fun a g => match a with
  | .str x => (fe ds g).bind fun b g => Rs.opt (oJoin g x b) g
  | _ => .no
section
variable {X : Cx} {w : Wc} {o e : Expr} {fo fe : DE} {apos pos : Pos}
theorem f_split (ho : KD X w o fo) (he : KD X w e fe) (hs : starEach [e] X.env = [(false, eval e X.env)]) (hbase : attributeBase o "split" X.env (eval o X.env) = eval o X.env) (hline : (apos.endLine == pos.line) = true) : FD X w (.Call (.Attribute o "split" apos) [e] [] pos) (dSplit fo fe) :=
  pe_imp (pe_split ho he hs hbase hline) fun σ H Q ⟨B, A, M, ds, g, rel, p⟩ => ⟨B, A, M, ds, g, rel, (Rs.post_bind p).imp (fun a g1 p1 v A1 M1 H1 gr gl r => by
    split at p1
    · rename_i x
      have rel1 := rel.grow gr gl
      cases r
      refine ⟨⟨x, rfl⟩, B, A1, M1, ds, g1, rel1, (Rs.post_bind p1).imp (fun b g2 p2 u A2 M2 H2 gr2 gl2 r2 => ?_) fun e g z => EE.on z gr gl⟩
      obtain ⟨z, ez, qz⟩ := post_opt p2
      unfold oSplit at ez
      split at ez
      · rename_i y
        split at ez
        · rename_i hc
          cases ez
          cases r2
          have h1 : (100000 : Nat) + 2 ≤ sizeLine := by rw [sizeLine_eq]; decide
          refine ⟨x, y, rfl, rfl, hc.1, by omega, fun p hp => ?_⟩
          exact (QF.on (QF.on qz gr gl) gr2 gl2).at gr2.wd gl2 hp (rpa_strs _)
        · cases ez
      · cases ez
    · exact p1.elim) fun _ _ z => z⟩
theorem k_join (ho : KD X w o fo) (he : BD X w e fe) (hK : X.K = w.G.K) (hs : starEach [e] X.env = [(false, eval e X.env)]) (hbase : attributeBase o "join" X.env (eval o X.env) = eval o X.env) (hline : (apos.endLine == pos.line) = true) : KD X w (.Call (.Attribute o "join" apos) [e] [] pos) (dJoin fo fe) :=
  pe_imp (pe_join ho he hs hbase hline) fun σ H Q ⟨B, A, M, ds, g, rel, p⟩ => ⟨B, A, M, ds, g, rel, (Rs.post_bind p).imp (fun a g1 p1 v A1 M1 H1 gr gl r => by
    split at p1
    · rename_i x
      have rel1 := rel.grow gr gl
      cases r
      refine ⟨⟨x, rfl⟩, B, A1, M1, ds, g1, rel1, (Rs.post_bind p1).imp (fun b g2 p2 u A2 M2 H2 gr2 gl2 r2 => ?_) fun e g z => EE.on z gr gl⟩
      obtain ⟨z, ez, qz⟩ := post_opt p2
      unfold oJoin at ez
      cases el : lview g2 b with
      | none => rw [el] at ez; cases ez
      | some l =>
        rw [el] at ez
        have ez' : (match strsD l with
          | some ys => if (ys.map (·.length)).sum + ys.length * x.length ≤ 1000000 then some (Dat.str (Txt.join x ys)) else none
          | none => none) = some z := ez
        cases es : strsD l with
        | none => rw [es] at ez'; cases ez'
        | some ys =>
          rw [es] at ez'
          have ez2 : (if (ys.map (·.length)).sum + ys.length * x.length ≤ 1000000 then some (Dat.str (Txt.join x ys)) else none) = some z := ez'
          split at ez2
          · rename_i hc
            cases ez2
            obtain ⟨q, xs, rfl, hx, rr⟩ := Rb.lview r2 gr2.wd gl2 el
            have := strsD_rp rr es
            subst this
            refine ⟨x, q, ys, rfl, rfl, .inl (SqL.of hx), by omega, ?_⟩
            exact QE.on (QE.on qz gr gl) gr2 gl2 (.str _) A2 M2 H2 gr2.wd.refl gl2 (.str _)
          · cases ez2
    · exact p1.elim) fun _ _ z => z⟩
end
/-! ### text * n -/
def oMulS : Dat → Dat → Option Dat
  | .str x, .int n => if 0 ≤ n ∧ n ≤ 1000 ∧ x.length ≤ 1000 then some (.str (Txt.mul x n)) else none
  | _, _ => none
def rMulS : R2 := fun x y H Q => ∃ a n, x = .str a ∧ y = .int n ∧ (0 ≤ n ∧ n ≤ 1000 ∧ a.length ≤ 1000) ∧ Q (.str (Txt.mul a n)) H
theorem op_mulS {X : Cx} : OpR X (binaryOp .Mult) rMulS := by
  intro pins s σ H x y v u Q I rx ry h
  obtain ⟨a, n, rfl, rfl, ⟨h0, h1, h2⟩, q⟩ := h
  obtain ⟨t, rfl⟩ := rx
  obtain ⟨t', rfl⟩ := ry
  refine PySem.SB.mul ⟨?_, fun h3 h4 => ?_, fun h3 h4 => ?_⟩ fun t2 k => ⟨.str (Txt.mul a n), H, I.tok k, ⟨t2, rfl⟩, q⟩
  · simp only [Bool.or_eq_false_iff, decide_eq_false_iff_not]
    omega
  · have e1 : (0 : Int) < n := by omega
    have : (1000 : Int) ≤ (2 ^ 63 - 1) / n := by
      refine (Int.le_ediv_iff_mul_le e1).mpr ?_
      omega
    omega
  · show Builtin.Str.tooLong (a.length * n.toNat) = false
    have : a.length * n.toNat ≤ 1000 * 1000 := Nat.mul_le_mul h2 (by omega)
    unfold Builtin.Str.tooLong
    simp only [decide_eq_false_iff_not]
    have h1 : (1000000 : Nat) ≤ sizeLine := by rw [sizeLine_eq]; decide
    omega
theorem r_mulS {G : Gm} : R2ok G rMulS oMulS := fun A M H g x y d e z Q wd gl rx ry eo q => by
  unfold oMulS at eo
  split at eo
  · rename_i a n
    split at eo
    · rename_i hc
      cases eo
      exact ⟨a, n, rx.str, ry.int, hc, q _ A M H wd.refl gl (.str _)⟩
    · cases eo
  · cases eo
/-! ### f-strings -/
def dFmt (fe : DE) : DE := fun ds g => (fe ds g).bind fun d g => match d with
  | .str y => if y.length ≤ 100000 then .ok (.str y) g else .no
  | .int i => if i.natAbs < 2 ^ 100 then .ok (.str (toString i)) g else .no
  | _ => .no
def jsD : List DE → Str → DE
  | [], acc => fun _ g => .ok (.str acc) g
  | f :: fs, acc => fun ds g => (f ds g).bind fun d g => match d with
    | .str y => if (acc ++ y).length ≤ 100000 then jsD fs (acc ++ y) ds g else .no
    | _ => .no
section
variable {X : Cx} {w : Wc}
theorem line_big {n : Nat} (h : n ≤ 100000) : n ≤ sizeLine := by
  have h1 : (100000 : Nat) ≤ sizeLine := by rw [sizeLine_eq]; decide
  omega
theorem k_fmt {e : Expr} {fe : DE} {pos : Pos} (he : KD X w e fe) : KD X w (.FormattedValue e (-1) none pos) (dFmt fe) :=
  pe_imp (pe_fmt he) fun σ H Q ⟨B, A, M, ds, g, rel, p⟩ => ⟨B, A, M, ds, g, rel, (Rs.post_bind p).imp (fun d g1 p1 v A1 M1 H1 gr gl r => by
    split at p1
    · rename_i y
      split at p1
      · rename_i hy
        cases r
        exact .inl ⟨y, rfl, line_big hy, p1 (.str y) A1 M1 H1 gr gl (.str y)⟩
      · exact p1.elim
    · rename_i i
      split at p1
      · rename_i hi
        cases r
        exact .inr ⟨i, rfl, log_100 hi, p1 (.str _) A1 M1 H1 gr gl (.str _)⟩
      · exact p1.elim
    · exact p1.elim) fun _ _ z => z⟩
inductive JD (X : Cx) (w : Wc) : List Expr → List DE → Prop where
  | nil : JD X w [] []
  | cons {e : Expr} {f : DE} {es : List Expr} {fs : List DE} (h : KD X w e f) (r : JD X w es fs) : JD X w (e :: es) (f :: fs)
theorem JD.pj {es : List Expr} {fs : List DE} (h : JD X w es fs) : PJ X es (fs.map (tD w)) := by
  induction h with
  | nil => exact .nil
  | cons h _ ih => exact .cons h ih
theorem js_go {σ : L2.St} : ∀ (fs : List DE) (acc : Str) (H : Hp) (Q : VK), tD w (jsD fs acc) σ H Q → tJs (fs.map (tD w)) acc σ H fun out H1 => Q (.str out) H1
  | [], acc, H, Q, ⟨B, A, M, ds, g, rel, p⟩ => p (.str acc) A M H rel.wd.refl rel.gl (.str acc)
  | f :: fs, acc, H, Q, ⟨B, A, M, ds, g, rel, p⟩ => by
    refine ⟨B, A, M, ds, g, rel, (Rs.post_bind p).imp (fun d g1 p1 v A1 M1 H1 gr gl r => ?_) fun _ _ z => z⟩
    split at p1
    · rename_i y
      split at p1
      · rename_i hy
        cases r
        exact ⟨y, rfl, line_big hy, js_go fs (acc ++ y) H1 Q ⟨B, A1, M1, ds, g1, rel.grow gr gl, p1.imp (fun _ _ z => QE.on z gr gl) fun _ _ z => EE.on z gr gl⟩⟩
      · exact p1.elim
    · exact p1.elim
theorem k_joined {v1 v2 : Expr} {rest : List Expr} {fs : List DE} {pos : Pos} (h : JD X w (v1 :: v2 :: rest) fs) : KD X w (.JoinedStr (v1 :: v2 :: rest) pos) (jsD fs Str.empty) :=
  pe_imp (pe_joined h.pj) fun σ H Q h => js_go fs Str.empty H Q h
end
/-! ### list(range(..)) -/
theorem rgV_rp {G : Gm} {A : List Addr} {M : Hp} {a b : Int} : RpA G A M (rgV a b) (rngL a (b - a).toNat) := by
  unfold rgV rngL
  generalize List.range (b - a).toNat = l
  induction l with
  | nil => exact .nil
  | cons i l ih => exact .cons (.int _) ih
theorem rg_ok {a b : Int} (h1 : -few ≤ a ∧ a ≤ few) (h2 : -few ≤ b ∧ b ≤ few) : RgOk a b := by
  have e : (few : Int) = 100000 := rfl
  exact ⟨by omega, by omega, by omega, by omega, by omega⟩
section
variable {X : Cx} {w : Wc} {e a b : Expr} {fa fb : DE} {p1 p2 pos pos2 : Pos}
def dLr1 (fa : DE) : DA := fun ds g => (fa ds g).bind fun n g => Rs.opt (rng1 [n]) g
def dLr2 (fa fb : DE) : DA := fun ds g => (fa ds g).bind fun i g => (fb ds g).bind fun j g => Rs.opt (rng2 [i, j]) g
theorem f_lr1 (hc : X.calm = true) (hgl : L2.Gl X "list") (hml : X.mg "list" = none) (hg : L2.Gl X "range") (hm : X.mg "range" = none) (ha : KD X w a fa) (na : starEach [a] X.env = (false, eval a X.env) :: starEach [] X.env)
    (na2 : starEach [.Call (.Name "range" p2) [a] [] pos2] X.env = (false, eval (.Call (.Name "range" p2) [a] [] pos2) X.env) :: starEach [] X.env) : FD X w (.Call (.Name "list" p1) [.Call (.Name "range" p2) [a] [] pos2] [] pos) (dLr1 fa) :=
  pe_imp (pe_listRg hc hgl hml (prg_1 hg hm ha na) na2) fun σ H Q ⟨B, A, M, ds, g, rel, p⟩ => ⟨B, A, M, ds, g, rel, (Rs.post_bind p).imp (fun d g1 p1 v A1 M1 H1 gr gl r => by
    obtain ⟨z, ez, qz⟩ := post_opt p1
    unfold rng1 at ez
    split at ez
    · rename_i j e
      cases e
      split at ez
      · rename_i hj
        cases ez
        cases r
        refine ⟨j, rfl, rg_ok (by decide) hj, fun q hq => ?_⟩
        have := rgV_rp (G := w.G) (A := A1) (M := M1) (a := 0) (b := j)
        rw [Int.sub_zero] at this
        exact (QF.on qz gr gl).at gr.wd gl hq this
      · cases ez
    · cases ez) fun _ _ z => z⟩
theorem f_lr2 (hc : X.calm = true) (hgl : L2.Gl X "list") (hml : X.mg "list" = none) (hg : L2.Gl X "range") (hm : X.mg "range" = none) (ha : KD X w a fa) (hb : KD X w b fb) (na : starEach [a, b] X.env = (false, eval a X.env) :: starEach [b] X.env) (nb : starEach [b] X.env = (false, eval b X.env) :: starEach [] X.env)
    (hp : (backTo pos2 (starEach [b] X.env)).any (·.1) = false)
    (na2 : starEach [.Call (.Name "range" p2) [a, b] [] pos2] X.env = (false, eval (.Call (.Name "range" p2) [a, b] [] pos2) X.env) :: starEach [] X.env) : FD X w (.Call (.Name "list" p1) [.Call (.Name "range" p2) [a, b] [] pos2] [] pos) (dLr2 fa fb) :=
  pe_imp (pe_listRg hc hgl hml (prg_2 hg hm ha hb na nb hp) na2) fun σ H Q ⟨B, A, M, ds, g, rel, p⟩ => ⟨B, A, M, ds, g, rel, (Rs.post_bind p).imp (fun d g1 p1 v A1 M1 H1 gr gl r =>
    ⟨B, A1, M1, ds, g1, rel.grow gr gl, (Rs.post_bind p1).imp (fun d2 g2 p2 v2 A2 M2 H2 gr2 gl2 r2 => by
      obtain ⟨z, ez, qz⟩ := post_opt p2
      unfold rng2 at ez
      split at ez
      · rename_i i j e
        cases e
        split at ez
        · rename_i hj
          cases ez
          cases r
          cases r2
          refine ⟨i, j, rfl, rfl, rg_ok hj.1 hj.2, fun q hq => ?_⟩
          exact (QF.on (QF.on qz gr gl) gr2 gl2).at gr2.wd gl2 hq rgV_rp
        · cases ez
      · cases ez) fun _ _ z => EE.on z gr gl⟩) fun _ _ z => z⟩
end
/-! ### working them out -/
def kSp (fe : DE) (ds : DEnv) (r : Rs Dat) : Rs (List Dat) := r.bind fun a g => match a with
  | .str x => (fe ds g).bind fun b g => Rs.opt (oSplit x b) g
  | _ => .no
def kSp2 (x : Str) (r : Rs Dat) : Rs (List Dat) := r.bind fun b g => Rs.opt (oSplit x b) g
def kJo (fe : DE) (ds : DEnv) (r : Rs Dat) : Rs Dat := r.bind fun a g => match a with
  | .str x => (fe ds g).bind fun b g => Rs.opt (oJoin g x b) g
  | _ => .no
def kJo2 (x : Str) (r : Rs Dat) : Rs Dat := r.bind fun b g => Rs.opt (oJoin g x b) g
def kFm (r : Rs Dat) : Rs Dat := r.bind fun d g => match d with
  | .str y => if y.length ≤ 100000 then .ok (.str y) g else .no
  | .int i => if i.natAbs < 2 ^ 100 then .ok (.str (toString i)) g else .no
  | _ => .no
def kJs (fs : List DE) (acc : Str) (ds : DEnv) (r : Rs Dat) : Rs Dat := r.bind fun d g => match d with
  | .str y => if (acc ++ y).length ≤ 100000 then jsD fs (acc ++ y) ds g else .no
  | _ => .no
def kLr1 (r : Rs Dat) : Rs (List Dat) := r.bind fun n g => Rs.opt (rng1 [n]) g
def kLr2 (fb : DE) (ds : DEnv) (r : Rs Dat) : Rs (List Dat) := r.bind fun i g => (fb ds g).bind fun j g => Rs.opt (rng2 [i, j]) g
def kLr3 (i : Dat) (r : Rs Dat) : Rs (List Dat) := r.bind fun j g => Rs.opt (rng2 [i, j]) g
theorem EV14 :
    (∀ (fo fe : DE) (ds : DEnv) (g : Gl), dSplit fo fe ds g = kSp fe ds (fo ds g)) ∧ (∀ (fe : DE) (ds : DEnv) (x : Str) (g : Gl), kSp fe ds (.ok (.str x) g) = kSp2 x (fe ds g)) ∧ (∀ (x : Str) (b : Dat) (g : Gl), kSp2 x (.ok b g) = Rs.opt (oSplit x b) g) ∧
    (∀ (fo fe : DE) (ds : DEnv) (g : Gl), dJoin fo fe ds g = kJo fe ds (fo ds g)) ∧ (∀ (fe : DE) (ds : DEnv) (x : Str) (g : Gl), kJo fe ds (.ok (.str x) g) = kJo2 x (fe ds g)) ∧ (∀ (x : Str) (b : Dat) (g : Gl), kJo2 x (.ok b g) = Rs.opt (oJoin g x b) g) ∧
    (∀ (fe : DE) (ds : DEnv) (g : Gl), dFmt fe ds g = kFm (fe ds g)) ∧ (∀ (y : Str) (g : Gl), kFm (.ok (.str y) g) = if y.length ≤ 100000 then .ok (.str y) g else .no) ∧ (∀ (i : Int) (g : Gl), kFm (.ok (.int i) g) = if i.natAbs < 2 ^ 100 then .ok (.str (toString i)) g else .no) ∧
    (∀ (acc : Str) (ds : DEnv) (g : Gl), jsD [] acc ds g = .ok (.str acc) g) ∧ (∀ (f : DE) (fs : List DE) (acc : Str) (ds : DEnv) (g : Gl), jsD (f :: fs) acc ds g = kJs fs acc ds (f ds g)) ∧ (∀ (fs : List DE) (acc : Str) (ds : DEnv) (y : Str) (g : Gl), kJs fs acc ds (.ok (.str y) g) = if (acc ++ y).length ≤ 100000 then jsD fs (acc ++ y) ds g else .no) ∧
    (∀ (fa : DE) (ds : DEnv) (g : Gl), dLr1 fa ds g = kLr1 (fa ds g)) ∧ (∀ (n : Dat) (g : Gl), kLr1 (.ok n g) = Rs.opt (rng1 [n]) g) ∧ (∀ (fa fb : DE) (ds : DEnv) (g : Gl), dLr2 fa fb ds g = kLr2 fb ds (fa ds g)) ∧ (∀ (fb : DE) (ds : DEnv) (n : Dat) (g : Gl), kLr2 fb ds (.ok n g) = kLr3 n (fb ds g)) ∧ (∀ (i j : Dat) (g : Gl), kLr3 i (.ok j g) = Rs.opt (rng2 [i, j]) g) := by
  refine ⟨?_, ?_, ?_, ?_, ?_, ?_, ?_, ?_, ?_, ?_, ?_, ?_, ?_, ?_, ?_, ?_, ?_⟩ <;> intros <;> rfl
end DL

/-! DL, part 41: a clause for a base class of all errors. -/
namespace DL
open PySem L2
/-- a clause that takes every error at hand -/
def mAll (es : List Nat) : Nat → Option Bool := fun i => if i ∈ es then some true else none
theorem mAll_some {es : List Nat} {i : Nat} {b : Bool} (h : mAll es i = some b) : i ∈ es ∧ true = b := by
  unfold mAll at h
  split at h
  · rename_i hi
    cases h
    exact ⟨hi, rfl⟩
  · cases h
structure BasAt (K : PySem.W.Frag) (mg : Str → Option Value) (x : Str) (S : Addr) : Prop where
  g : mg x = some (.ref S)
  ex : PySem.W.subIn K (.ref S) (.type "BaseException") = some true
  hd : PySem.W.hasDictIn K S = true
  ty : PySem.W.typeIn K (.ref S) = some (.type "type")
theorem bas_at {K : PySem.W.Frag} {mg : Str → Option Value} {h : Heap} {x : Str} {S : Addr} (X : K.In h) (G : h.Ns mainGlobals mg) (a : PySem.W.nsIn K mainGlobals x = some (some (.ref S))) (ex : PySem.W.subIn K (.ref S) (.type "BaseException") = some true) (ic : PySem.W.hasDictIn K S = true) (ty : PySem.W.typeIn K (.ref S) = some (.type "type")) : BasAt K mg x S := ⟨PySem.W.mg_of X G a, ex, ic, ty⟩
theorem exm_bas {K : PySem.W.Frag} {mg : Str → Option Value} {x y : Str} {C D : Addr} {b : Bool} (hx : ExcAt K mg x C) (hy : BasAt K mg y D) (s : PySem.W.subIn K (.ref C) (.ref D) = some b) : PySem.W.exmOne K (.ref C) (.ref D) = some b :=
  PySem.W.exm_ref hy.ex hy.hd hy.ty s
end DL

/-! DL, part 42: a constant that is a tuple with one tuple of ints; a dict of one's own that a def hands out. -/
namespace DL
open PySem L2
theorem cst_tup1 {K : PySem.W.Frag} {mg : Str → Option Value} {h : Heap} {x : Str} {a b : Addr} {od od2 : Option Addr} {its1 its : Array Value} {n n2 : Nat} {sl sl2 : Array (Option Value)} (l : List Int) (X : K.In h) (G : h.Ns mainGlobals mg) (e : PySem.W.nsIn K mainGlobals x = some (some (.ref a)))
    (lk : K.lookup a = some ⟨.type "tuple", od, .seq its1 n, sl⟩) (hs1 : its1.size ≤ sizeLine) (v1 : Vals [V.ref b] its1.toList) (lk2 : K.lookup b = some ⟨.type "tuple", od2, .seq its n2, sl2⟩) (hs : its.size ≤ sizeLine) (v : Vals (l.map V.int) its.toList) : CstK K mg x (.tup [.tup (l.map Dat.int)]) :=
  cst_ref X G e (tup_rp lk hs1 v1 fun G A M hG => .cons (tup_rp lk2 hs v (fun _ _ _ _ => .ints l) G A M hG) .nil)
/-! ### a dict of one's own, handed out -/
abbrev DY := DEnv → Gl → Rs (List Str × List Dat)
abbrev FnY := List Dat → Gl → Rs (List Str × List Dat)
def QY (G : Gm) (A : List Addr) (M H : Hp) (Q : VK) : List Str × List Dat → Gl → Prop := fun kl g' => ∀ p xs A' M' H', Grow [] A A' M M' H H' → GlOk G A' M' H' g' → H p = none → H' p = some (.dK ((kl.1.map Sum.inr).zip xs)) → kl.1.length = xs.length → M' p = none → p ∉ A' → RpA G A' M' xs kl.2 → Q (.ref p) H'
def yD (w : Wc) (f : DY) : TE := fun σ H Q => ∃ B A M ds g, Rel w B A M H σ ds g ∧ (f ds g).Post (QY w.G A M H Q) (EE w A M H σ)
abbrev YD (X : Cx) (w : Wc) (e : Expr) (f : DY) : Prop := PE X e (yD w f)
def dOwnY (i : Nat) (f : DY) : DS := fun ds g => (f ds g).bind fun kl g => .ok (.nx (ds.set i (.ownD kl.1 kl.2))) g
section
variable {X : Cx} {w : Wc}
theorem ownY_go {i : Nat} {f : DY} {D : Ends} {σ : L2.St} {H : Hp} (h : sD w (dOwnY i f) D σ H) : tAsg (yD w f) (gName i) D σ H := by
  obtain ⟨B, A, M, ds, g, rel, p⟩ := h
  refine ⟨B, A, M, ds, g, rel, (Rs.post_bind p).imp (fun l g1 p1 q xs A1 M1 H1 gr gl hn hp el mn na r => ?_) fun e g z => rel.es z⟩
  have bn : B.H q = none := by
    refine rel.gr.back (fun a ha => ?_) rel.zo hn
    obtain ⟨C, ea, _⟩ := id rel.gr.aex
    exact rel.gl.there a (by rw [ea]; exact List.mem_append_left _ ha)
  refine p1 A1 M1 H1 _ ((rel.grow gr gl).set ⟨q, xs, rfl, hp, el, r, mn, na, bn⟩ fun _ j q' e o2 e2 => ?_) gr.inc
  cases e
  obtain ⟨p', o, e3, e4, _⟩ := own_ref rel o2
  rw [e2] at e3
  cases e3
  rw [hn] at e4
  cases e4
theorem s_ownY {i : Nat} {x : Str} {pos pos' : Pos} {e : Expr} {f : DY} (hN : X.N.Nodup) (hi : X.N[i]? = some x) (hx : Loc X.env.scope x) (he : YD X w e f) (hs : swapsWith e (some (.Name x pos')) pos.line X.env = pure false) (hf : X.fn x = true ∨ X.env.scope.names.lookup x = some .local) :
    SD X w (.Assign [.Name x pos'] e pos) (dOwnY i f) := ps_imp (ps_set hN hi hx he hs hf) fun D σ H h => ownY_go h
end
/-! ### a def that ends with `return name`, the name's dict its own -/
abbrev DSY := DEnv → Gl → Rs (List Str × List Dat)
def QSY (w : Wc) (B : Bs) (D : Ends) : List Str × List Dat → Gl → Prop := fun kl g' => ∀ p xs A' M' H', Grow B.Z B.A A' B.M M' B.H H' → GlOk w.G A' M' H' g' → B.H p = none → H' p = some (.dK ((kl.1.map Sum.inr).zip xs)) → kl.1.length = xs.length → M' p = none → p ∉ A' → RpA w.G A' M' xs kl.2 → D.rt (.ref p) H'
def sY (w : Wc) (f : DSY) : TS := fun D σ H => ∃ B A M ds g, Rel w B A M H σ ds g ∧ (f ds g).Post (QSY w B D) (ES w B)
abbrev SsY (X : Cx) (w : Wc) (st : List Stmt) (f : DSY) : Prop := PSs X st (sY w f)
def dSeqY (f1 : DS) (f2 : DSY) : DSY := fun ds g => (f1 ds g).bind fun o g => match o with
  | .nx ds' => f2 ds' g
  | _ => .no
def dRetY (i : Nat) : DSY := fun ds g => match ds[i]? with
  | some (.ownD ks l) => .ok (ks, l) g
  | _ => .no
section
variable {X : Cx} {w : Wc} {st : Stmt} {rest : List Stmt} {f1 : DS} {f2 : DSY}
theorem seqY_go {D : Ends} {σ : L2.St} {H : Hp} (h : sY w (dSeqY f1 f2) D σ H) : sD w f1 { D with nx := sY w f2 D } σ H := by
  obtain ⟨B, A, M, ds, g, rel, p⟩ := h
  refine ⟨B, A, M, ds, g, rel, (Rs.post_bind p).imp (fun o g1 p1 => ?_) fun _ _ z => z⟩
  cases o with
  | nx ds' => exact fun A' M' H' σ' r i => ⟨B, A', M', ds', g1, r, p1⟩
  | rt d => exact p1.elim
  | bk ds' => exact p1.elim
  | ct ds' => exact p1.elim
theorem ssy_cons (h1 : SD X w st f1) (h2 : SsY X w rest f2) : SsY X w (st :: rest) (dSeqY f1 f2) := pss_imp (pss_cons h1 h2) fun D σ H h => seqY_go h
theorem ssy_ret {e : Expr} {pos : Pos} {i : Nat} (he : PE X e (tVar i)) : SsY X w [.Return (some e) pos] (dRetY i) :=
  pss_imp (pss_one (ps_ret he)) fun D σ H ⟨B, A, M, ds, g, rel, p⟩ => by
    unfold dRetY at p
    split at p
    · rename_i ks l hd
      obtain ⟨a, xs, e1, e2, el, e3, m⟩ := rel.sl i _ hd
      exact ⟨.ref a, e1, p a xs A M H rel.gr rel.gl m.2.2 e2 el m.1 m.2.1 e3⟩
    · exact p.elim
end
def mkY (n m : Nat) (body : DSY) : FnY := fun l g => if l.length = n then body (l.map Slot.sh ++ List.replicate (m - n) Slot.unset) g else .no
theorem mkY_len {n m : Nat} {body : DSY} : ∀ l g, l.length ≠ n → mkY n m body l g = .no := fun l g h => if_neg h
def spY (G : Gm) (n : Nat) (F : FnY) : Sp := fun vs H Q E => vs.length = n ∧ ∃ A M ds g, Wd A M H ∧ GlOk G A M H g ∧ RpA G A M vs ds ∧ (F ds g).Post (QY G A M H Q) (EF G A M H E)
structure CalY (P : Program) (w : World) (mg : Str → Option Value) (base : Heap) (G : Gm) (k : Nat) (x : Str) (n : Nat) (F : FnY) : Prop where
  ok : ∃ (f : Addr) (fd : FuncData) (ps : List Str), FnOk P w G.K mg base (L2.CX P w) k f fd ps (spY G n F) ∧ mg x = some (.ref f) ∧ PySem.W.keepIn G.K (.ref f) = true ∧ Binds G.K fd ps []
  len : ∀ ds g, ds.length ≠ n → F ds g = .no
theorem fnY_ok {P : Program} {w : World} {mg : Str → Option Value} {base : Heap} {G : Gm} {x qual : Str} {st : Stmt} {f : Addr} {fd : FuncData} {N ps : List Str} {k n m : Nat} {body : DSY} (F : Fun G.K x qual st f fd) (S : FnScope N ps (defScope st)) (hN : N.length = m) (hP : ps.length = n)
    (hb : ∀ (cdv : Value) (A : Around) (outer : List Env) (s : Shared) (H : Hp) (E : XK), Room k (A.deeper (PyProof.Rows.envOfC qual (defScope st) s.heap.objs.size f cdv)) →
      SsY (cxOf (L2.CX P w) P w G.K mg base N qual (defScope st) f cdv A outer s H E) (wcF G E) (defBody st) body) :
    FnOk P w G.K mg base (L2.CX P w) (k + 1) f fd ps (spY G n (mkY n m body)) := by
  refine F.okX S (fun vs H Q E h => h.1.trans hP.symm) fun cdv A outer s H vs Q E hr h => ?_
  obtain ⟨hl, A0, M, l, g, wd, gl, r, p⟩ := h
  refine ⟨_, hb cdv A outer s H E hr, ?_⟩
  have hl' : l.length = n := by rw [← r.length]; exact hl
  unfold mkY at p
  rw [if_pos hl'] at p
  have rs := rel_start (w := wcF G E) N wd gl r
  rw [hN, hl'] at rs
  exact ⟨⟨[], A0, M, H⟩, A0, M, _, g, rs, p.imp (fun kl g1 p1 => p1) fun e g1 p1 cls dd A' M' H' σ' gr gl er => p1 cls dd A' M' H' gr gl er⟩
def dCallY (F : FnY) (fa : DA) : DY := fun ds g => (fa ds g).bind fun l g => F l g
theorem QY.on {G : Gm} {A A1 : List Addr} {M M1 H H1 : Hp} {g1 : Gl} {Q : VK} {kl : List Str × List Dat} {g : Gl} (q : QY G A M H Q kl g) (h : Grow [] A A1 M M1 H H1) (wd : ∀ p : Addr, H1 p = none → H p = none) (gl : GlOk G A1 M1 H1 g1) : QY G A1 M1 H1 Q kl g := fun p xs A' M' H' h' gl' hn hp el mn na r => q p xs A' M' H' (h.trans h' gl (fun _ z => nomatch z)) gl' (wd p hn) hp el mn na r
section
variable {X : Cx} {w : Wc} {e : Expr} {es : List Expr} {pos : Pos}
theorem k_callY {x : Str} {p : Pos} {k j n : Nat} {F : FnY} {fr : DA} (c : CalY X.prog X.w X.mg X.base w.G k x n F) (hK : X.K = w.G.K) (tk : Takes X w.W) (hr : Room j X.A) (hj : k ≤ j) (hg : L2.Gl X x) (ha : AD X w (e :: es) fr)
    (hdb : (x == ("__debug__" : Str)) = false) (he : starEach (e :: es) X.env = (false, eval e X.env) :: starEach es X.env) (hpl : (backTo pos (starEach es X.env)).any (·.1) = false) : YD X w (.Call (.Name x p) (e :: es) [] pos) (dCallY F fr) := by
  have c' := c
  obtain ⟨f, fd, ps, hF, hm, hk, hb⟩ := c.ok
  rw [← hK] at hF hk hb
  refine pe_imp (pe_callS hF (hr.mono hj) hg hm hk hb (fun σ => passAt tk σ) ha hdb he hpl) fun σ H Q ⟨B, A, M, ds, g, rel, p⟩ => ⟨B, A, M, ds, g, rel, (Rs.post_bind p).imp (fun l g1 p1 vs A1 M1 H1 gr gl r => ?_) fun _ _ z => z⟩
  have hl : vs.length = n := by
    rw [r.length]
    by_cases h : l.length = n
    · exact h
    · rw [c'.len l g1 h] at p1
      exact p1.elim
  have back : ∀ p : Addr, H1 p = none → H p = none := fun p hp => gr.back (fun a ha => by
    obtain ⟨C, ea, _⟩ := id gr.aex
    exact gl.there a (by rw [ea]; exact List.mem_append_left _ ha)) (fun _ z => nomatch z) hp
  exact ⟨hl, A1, M1, l, g1, gr.wd, gl, r, p1.imp (fun _ _ z => QY.on z gr back gl) fun _ _ z => EE.on z gr gl⟩
end
end DL

/-! DL, part 43: xs = xs or [..], xs a list of one's own. -/
namespace DL
open PySem L2
def dOrO (i : Nat) (f : DA) : DS := fun ds g => match ds[i]? with
  | some (.own l) => if l.isEmpty = true then dOwn i f ds g else .ok (.nx ds) g
  | _ => .no
theorem set_self {α : Type} {l : List α} {i : Nat} {a : α} (h : l[i]? = some a) : l.set i a = l := by
  obtain ⟨hi, e⟩ := List.getElem?_eq_some_iff.mp h
  rw [← e]
  exact List.set_getElem_self hi
theorem s_orO {X : Cx} {w : Wc} {i : Nat} {x : Str} {pos pos' pos2 : Pos} {a e : Expr} {f : DA} (hK : X.K = w.G.K) (hN : X.N.Nodup) (hi : X.N[i]? = some x) (hx : Loc X.env.scope x) (ha : PE X a (tVar i)) (he : FD X w e f)
    (hs : swapsWith (.BoolOp .Or [a, e] pos2) (some (.Name x pos')) pos.line X.env = pure false) (hf : X.fn x = true ∨ X.env.scope.names.lookup x = some .local) :
    SD X w (.Assign [.Name x pos'] (.BoolOp .Or [a, e] pos2) pos) (dOrO i f) :=
  ps_imp (ps_set hN hi hx (pe_orT ha (pe_one he)) hs hf) fun D σ H ⟨B, A, M, ds, g, rel, p⟩ => by
    unfold dOrO at p
    split at p
    · rename_i l hd
      obtain ⟨q, xs, e1, e2, e3, m⟩ := rel.sl i _ hd
      have hl : xs.length = l.length := e3.length
      by_cases hE : l.isEmpty = true
      · rw [if_pos hE] at p
        have hx0 : xs.isEmpty = true := by
          cases l with
          | nil => cases xs with
            | nil => rfl
            | cons _ _ => cases hl
          | cons _ _ => cases hE
        refine ⟨.ref q, e1, false, .inl ⟨xs, SqL.of e2, by rw [hx0]; rfl⟩, ?_⟩
        exact own_go (i := i) (ff := f) ⟨B, A, M, ds, g, rel, p⟩
      · rw [if_neg hE] at p
        have hx0 : xs.isEmpty = false := by
          cases l with
          | nil => exact absurd rfl hE
          | cons _ _ => cases xs with
            | nil => cases hl
            | cons _ _ => rfl
        refine ⟨.ref q, e1, true, .inl ⟨xs, SqL.of e2, by rw [hx0]; rfl⟩, ?_⟩
        show D.nx (σ.set i (some (.ref q))) H
        rw [set_self e1]
        exact p A M H σ rel (Inc.refl A M)
    · exact p.elim
end DL

/-! DL, part 44: max of three whole numbers; x in a tuple of data of any depth. -/
namespace DL
open PySem L2 PyProof PyProof.Rows
def oMax3 (_ : Gl) : List Dat → Option Dat
  | [.int i, .int j, .int k] => some (.int (if (if i < j then j else i) < k then k else (if i < j then j else i)))
  | _ => none
theorem nu_max3 (i j k : Int) : nuMax3 (.int i) (.int j) (.int k) = some (.int (if (if i < j then j else i) < k then k else (if i < j then j else i))) := by
  have e : ∀ a b : Int, nuMax2 (.int a) (.int b) = some (.int (if a < b then b else a)) := fun a b => by
    show some (if decide (a < b) = true then V.int b else V.int a) = _
    by_cases h : a < b
    · rw [decide_eq_true h, if_pos h]; rfl
    · rw [decide_eq_false h, if_neg h]; rfl
  show (nuMax2 (.int i) (.int j)).bind (fun m => nuMax2 m (.int k)) = _
  rw [e i j]
  exact e _ k
theorem r_max3 {G : Gm} : R1ok G (rNuC3 nuMax3) oMax3 := fun A M H g vs l z Q wd gl rv eo q => by
  unfold oMax3 at eo
  split at eo
  · rename_i i j k
    cases eo
    cases rv with
    | cons r0 r =>
      cases r with
      | cons r1 r =>
        cases r with
        | cons r2 r =>
          cases r
          have e := Rb.int r0
          subst e
          have e := Rb.int r1
          subst e
          have e := Rb.int r2
          subst e
          exact ⟨.int i, .int j, .int k, _, rfl, nu_max3 i j k, q _ A M H wd.refl gl (.int _)⟩
  · cases eo
/-! ### x in a tuple -/
def oInT (d e : Dat) : Option Bool := match e with
  | .tup l => match toPy d, toPys l with
    | some p, some ps => if SeqAt.shaped p = true ∧ SeqAt.shaped (.tuple ps) = true then some (ps.any fun z => PyData.eqv z p) else none
    | _, _ => none
  | _ => none
def rInT (K : PySem.W.Frag) : R2 := fun x y H Q => ∃ d ds, Dp K H x d ∧ Dp K H y (.tuple ds) ∧ SeqAt.shaped d = true ∧ SeqAt.shaped (.tuple ds) = true ∧ Q (.bl (ds.any fun z => PyData.eqv z d)) H
theorem op_inT {X : Cx} (hu : X.A.units + 65 < cLine) : OpR X (compareOp .In) (rInT X.K) := by
  intro pins s σ H x y v u Q I rx ry h
  obtain ⟨d, ds, hd, he, sd, se, q⟩ := h
  obtain ⟨as, r1⟩ := Dp.reads I d x v hd rx
  obtain ⟨bs, r2⟩ := Dp.reads I (.tuple ds) y u he ry
  exact SeqAt.in_tuple_reads r2 r1 (SeqAt.canLay_of_shaped se) (SeqAt.canLay_of_shaped sd) (room_in_shaped sd hu) ⟨.bl _, H, I, rfl, q⟩
theorem toPy_tup {l : List Dat} {ps : List PyData} (h : toPys l = some ps) : toPy (.tup l) = some (.tuple ps) := by
  unfold toPy
  rw [h]
theorem r_inT {G : Gm} : R2T G (rInT G.K) oInT := fun A M H g x y d e b Q wd gl rx ry eo q => by
  unfold oInT at eo
  split at eo
  · rename_i l
    split at eo
    · rename_i p ps h1 h2
      split at eo
      · rename_i hs
        cases eo
        exact ⟨p, ps, rx.dp wd h1, ry.dp wd (toPy_tup h2), hs.1, hs.2, q⟩
      · cases eo
    · cases eo
  · cases eo
end DL

/-! DL, part 45: a dict of one's own lent to an expression; d[name] = v; dict(d); dict == dict; a rule == a dict. -/
namespace DL
open PySem L2 PySem.Spec PyProof.Rows

/-! ### lent -/
mutual
def noDct : Dat → Bool
  | .dct _ _ => false
  | .tup l => noDcts l
  | .lst l => noDcts l
  | .rul a b c => noDct a && noDct b && noDct c
  | _ => true
def noDcts : List Dat → Bool
  | [] => true
  | d :: l => noDct d && noDcts l
end
def noDctO : GObj → Bool
  | .lst l => noDcts l
  | .ins _ l => noDcts l
def noDctG (g : Gl) : Bool := g.all noDctO
def remH (M : Hp) (p : Addr) : Hp := fun a => if a = p then none else M a
section
variable {G : Gm} {A : List Addr} {M : Hp} {p : Addr} {kv : List (Key × V)}
theorem rem_ne {a : Addr} (h : a ≠ p) : remH M p a = M a := if_neg h
theorem rem_some {a : Addr} {o : HO} (hp : M p = some (.dK kv)) (h : M a = some o) (n : ∀ k, o ≠ .dK k) : remH M p a = some o := by
  rw [rem_ne]
  · exact h
  · intro e
    subst e
    rw [hp] at h
    cases h
    exact n _ rfl
theorem rem_rd {a : Addr} {u : HO} (hp : M p = some (.dK kv)) (h : Rd M a u) (n : ∀ k, u ≠ .dK k) : Rd (remH M p) a u := by
  rcases h with h | ⟨o, h⟩
  · exact .inl (rem_some hp h n)
  · exact .inr ⟨o, rem_some hp h (fun k z => nomatch z)⟩
theorem n_tup {l : List Dat} (n : noDct (.tup l) = true) : noDcts l = true := by unfold noDct at n; exact n
theorem n_lst {l : List Dat} (n : noDct (.lst l) = true) : noDcts l = true := by unfold noDct at n; exact n
theorem n_dct {ks : List Str} {l : List Dat} (n : noDct (.dct ks l) = true) : False := by unfold noDct at n; cases n
theorem n_rul {a b c : Dat} (n : noDct (.rul a b c) = true) : noDct a = true ∧ noDct b = true ∧ noDct c = true := by
  unfold noDct at n
  rw [Bool.and_eq_true, Bool.and_eq_true] at n
  exact ⟨n.1.1, n.1.2, n.2⟩
theorem n_cons {d : Dat} {l : List Dat} (n : noDcts (d :: l) = true) : noDct d = true ∧ noDcts l = true := by
  unfold noDcts at n
  rw [Bool.and_eq_true] at n
  exact n
theorem sqt_rem {K : PySem.W.Frag} {a : Addr} {xs : List V} (hp : M p = some (.dK kv)) (h : SqT K M a xs) : SqT K (remH M p) a xs := h.imp (fun h => rem_rd hp h fun _ z => nomatch z) id
theorem sql_rem {K : PySem.W.Frag} {a : Addr} {xs : List V} (hp : M p = some (.dK kv)) (h : SqL K M a xs) : SqL K (remH M p) a xs := h.imp (fun h => rem_rd hp h fun _ z => nomatch z) id
mutual
theorem Rp.rem (hp : M p = some (.dK kv)) : ∀ {v : V} {d : Dat}, Rp G A M v d → noDct d = true → Rp G A (remH M p) v d
  | _, _, .non, _ => .non
  | _, _, .bl b, _ => .bl b
  | _, _, .int i, _ => .int i
  | _, _, .str x, _ => .str x
  | _, _, .tup h r, n => .tup (sqt_rem hp h) (RpA.rem hp r (n_tup n))
  | _, _, .lst h r, n => .lst (rem_some hp h fun _ z => nomatch z) (RpA.rem hp r (n_lst n))
  | _, _, .dct _ _ _, n => (n_dct n).elim
  | _, _, .rul h r1 r2 r3, n => .rul (rem_some hp h fun _ z => nomatch z) (Rp.rem hp r1 (n_rul n).1) (Rp.rem hp r2 (n_rul n).2.1) (Rp.rem hp r3 (n_rul n).2.2)
  | _, _, .scr h, _ => .scr (sql_rem hp h)
  | _, _, .mref h, _ => .mref h
theorem RpA.rem (hp : M p = some (.dK kv)) : ∀ {vs : List V} {ds : List Dat}, RpA G A M vs ds → noDcts ds = true → RpA G A (remH M p) vs ds
  | _, _, .nil, _ => .nil
  | _, _, .cons h r, n => .cons (Rp.rem hp h (n_cons n).1) (RpA.rem hp r (n_cons n).2)
end
theorem GlOk.rem {H : Hp} {g : Gl} (hp : M p = some (.dK kv)) (gl : GlOk G A M H g) (n : noDctG g = true) : GlOk G A (remH M p) H g := by
  refine ⟨gl.len, gl.nd, fun k a o h1 h2 => ?_⟩
  have q := gl.ob k a o h1 h2
  have n1 : noDctO o = true := List.all_eq_true.mp n o (List.mem_of_getElem? h2)
  cases o with
  | lst l =>
    obtain ⟨xs, e, r⟩ := q
    exact ⟨xs, e, RpA.rem hp r n1⟩
  | ins ks l =>
    obtain ⟨dx, xs, e, el, r⟩ := q
    exact ⟨dx, xs, e, el, RpA.rem hp r n1⟩
theorem ErOk.rem {H : Hp} {e : Er} {cls : Value} {d : Option Addr} (hp : M p = some (.dK kv)) (h : ErOk G A M H e cls d) (n : noDcts e.vs = true) : ErOk G A (remH M p) H e cls d := by
  obtain ⟨h1, h2, h3⟩ := h
  refine ⟨h1, h2, ?_⟩
  rcases h3 with h3 | ⟨dd, xs, e1, e2, e3⟩
  · exact .inl h3
  · exact .inr ⟨dd, xs, e1, e2, RpA.rem hp e3 n⟩
theorem Grow.rem {A A1 : List Addr} {M M1 H H1 : Hp} {o : HO} (gr : Grow [] A A1 (upd M p o) M1 H H1) (hm : M p = none) : Grow [] A A1 M (remH M1 p) H H1 := by
  refine ⟨gr.keep, fun a u h => ?_, fun a u h => ?_, fun a u h => ?_, gr.aex, fun a h => ?_⟩
  · have ne : a ≠ p := ne_of_none h hm
    rw [rem_ne ne]
    exact gr.mex a u (by rw [upd_ne ne]; exact h)
  · by_cases e : a = p
    · subst e
      unfold remH at h
      rw [if_pos rfl] at h
      cases h
    · rw [rem_ne e] at h
      exact gr.mh a u h
  · by_cases e : a = p
    · subst e
      unfold remH at h
      rw [if_pos rfl] at h
      cases h
    · rw [rem_ne e] at h
      rcases gr.mnew a u h with h | h
      · rw [upd_ne e] at h
        exact .inl h
      · exact .inr h
  · by_cases e : a = p
    · subst e
      unfold remH
      rw [if_pos rfl]
    · rw [rem_ne e]
      exact gr.mA a h
end
def lendR (r : Rs Dat) : Rs Dat := match r with
  | .ok d g => if (noDct d && noDctG g) = true then .ok d g else .no
  | .er e g => if (noDcts e.vs && noDctG g) = true then .er e g else .no
  | .no => .no
def lendB (r : Rs Bool) : Rs Bool := match r with
  | .ok d g => if noDctG g = true then .ok d g else .no
  | .er e g => if (noDcts e.vs && noDctG g) = true then .er e g else .no
  | .no => .no
def dLend (i : Nat) (f : DE) : DE := fun ds g => match ds[i]? with
  | some (.ownD ks l) => lendR (f (ds.set i (.sh (.dct ks l))) g)
  | _ => .no
def dLendT (i : Nat) (f : DT) : DT := fun ds g => match ds[i]? with
  | some (.ownD ks l) => lendB (f (ds.set i (.sh (.dct ks l))) g)
  | _ => .no
section
variable {X : Cx} {w : Wc} {e : Expr} {i : Nat}
theorem k_lend {f : DE} (he : KD X w e f) : KD X w e (dLend i f) :=
  pe_imp he fun σ H Q ⟨B, A, M, ds, g, rel, p⟩ => by
    unfold dLend at p
    split at p
    · rename_i ks l hd
      obtain ⟨q, xs, e1, e2, el, e3, m⟩ := rel.sl i _ hd
      have hm : M q = none := m.1
      have hr : Rp w.G A (upd M q (.dK ((ks.map Sum.inr).zip xs))) (.ref q) (.dct ks l) := .dct upd_same el (e3.mono (fun _ _ z => z) fun a u ha => by rw [upd_ne (ne_of_none ha hm)]; exact ha)
      obtain ⟨rel2, _⟩ := rel.frz (by rw [hd]; rfl) e1 e2 m hr
      refine ⟨B, A, _, _, g, rel2, ?_⟩
      cases hf : f (ds.set i (.sh (.dct ks l))) g with
      | no => rw [hf] at p; exact p.elim
      | ok d g1 =>
        rw [hf] at p
        have p : (if (noDct d && noDctG g1) = true then Rs.ok d g1 else .no).Post (QE w.G A M H Q) (EE w A M H σ) := p
        by_cases hn : (noDct d && noDctG g1) = true
        · rw [if_pos hn] at p
          rw [Bool.and_eq_true] at hn
          intro v A1 M1 H1 gr gl r
          have hp : M1 q = some (.dK ((ks.map Sum.inr).zip xs)) := gr.mex _ _ upd_same
          exact p v A1 (remH M1 q) H1 (gr.rem hm) (gl.rem hp hn.2) (r.rem hp hn.1)
        · rw [if_neg hn] at p
          exact p.elim
      | er er g1 =>
        rw [hf] at p
        have p : (if (noDcts er.vs && noDctG g1) = true then (Rs.er er g1 : Rs Dat) else .no).Post (QE w.G A M H Q) (EE w A M H σ) := p
        by_cases hn : (noDcts er.vs && noDctG g1) = true
        · rw [if_pos hn] at p
          rw [Bool.and_eq_true] at hn
          intro cls dd A1 M1 H1 gr gl eo
          have hp : M1 q = some (.dK ((ks.map Sum.inr).zip xs)) := gr.mex _ _ upd_same
          exact p cls dd A1 (remH M1 q) H1 (gr.rem hm) (gl.rem hp hn.2) (eo.rem hp hn.1)
        · rw [if_neg hn] at p
          exact p.elim
    · exact p.elim
theorem t_lend {f : DT} (he : TD X w e f) : TD X w e (dLendT i f) :=
  pt_imp he fun σ H Q ⟨B, A, M, ds, g, rel, p⟩ => by
    unfold dLendT at p
    split at p
    · rename_i ks l hd
      obtain ⟨q, xs, e1, e2, el, e3, m⟩ := rel.sl i _ hd
      have hm : M q = none := m.1
      have hr : Rp w.G A (upd M q (.dK ((ks.map Sum.inr).zip xs))) (.ref q) (.dct ks l) := .dct upd_same el (e3.mono (fun _ _ z => z) fun a u ha => by rw [upd_ne (ne_of_none ha hm)]; exact ha)
      obtain ⟨rel2, _⟩ := rel.frz (by rw [hd]; rfl) e1 e2 m hr
      refine ⟨B, A, _, _, g, rel2, ?_⟩
      cases hf : f (ds.set i (.sh (.dct ks l))) g with
      | no => rw [hf] at p; exact p.elim
      | ok d g1 =>
        rw [hf] at p
        have p : (if noDctG g1 = true then Rs.ok d g1 else .no).Post (QT w.G A M H Q) (EE w A M H σ) := p
        by_cases hn : noDctG g1 = true
        · rw [if_pos hn] at p
          intro A1 M1 H1 gr gl
          have hp : M1 q = some (.dK ((ks.map Sum.inr).zip xs)) := gr.mex _ _ upd_same
          exact p A1 (remH M1 q) H1 (gr.rem hm) (gl.rem hp hn)
        · rw [if_neg hn] at p
          exact p.elim
      | er er g1 =>
        rw [hf] at p
        have p : (if (noDcts er.vs && noDctG g1) = true then (Rs.er er g1 : Rs Bool) else .no).Post (QT w.G A M H Q) (EE w A M H σ) := p
        by_cases hn : (noDcts er.vs && noDctG g1) = true
        · rw [if_pos hn] at p
          rw [Bool.and_eq_true] at hn
          intro cls dd A1 M1 H1 gr gl eo
          have hp : M1 q = some (.dK ((ks.map Sum.inr).zip xs)) := gr.mex _ _ upd_same
          exact p cls dd A1 (remH M1 q) H1 (gr.rem hm) (gl.rem hp hn.2) (eo.rem hp hn.1)
        · rw [if_neg hn] at p
          exact p.elim
    · exact p.elim
end
end DL

/-! DL, part 46: d[name] = v; dict(d); dict == dict; a rule == a dict. -/
namespace DL
open PySem L2 PySem.Spec PyProof.Rows

/-! ### d[name] = v, the name worked out -/
def dPutK (i : Nat) (fk fe : DE) : DS := fun ds g => match ds[i]? with
  | some (.ownD ks l) => if ks.length < 1000 then (fe ds g).bind fun d g => (fk ds g).bind fun y g => match y with
    | .str k => .ok (.nx (ds.set i (.ownD (putD ks l k d).1 (putD ks l k d).2))) g
    | _ => .no else .no
  | _ => .no
theorem s_dputK {X : Cx} {w : Wc} {i : Nat} {o key value : Expr} {fk fe : DE} {pos pos' : Pos} (hu : X.A.units + 1 < cLine) (ho : PE X o (tVar i)) (hk : KD X w key fk) (hv : KD X w value fe) (hs : swapsWith value (some (.Subscript o key pos')) pos.line X.env = pure false) :
    SD X w (.Assign [.Subscript o key pos'] value pos) (dPutK i fk fe) :=
  ps_imp (ps_dput hu ho hk hv hs) fun D σ H ⟨B, A, M, ds, g, rel, p⟩ => by
    unfold dPutK at p
    split at p
    · rename_i ks l hd
      by_cases hkl : ks.length < 1000
      · rw [if_pos hkl] at p
        refine ⟨B, A, M, ds, g, rel, (Rs.post_bind p).imp (fun d g1 p1 v A1 M1 H1 gr gl rv => ?_) fun e g z => rel.es z⟩
        have rel1 := rel.grow gr gl
        obtain ⟨q0, xs0, e10, _⟩ := rel1.sl i _ hd
        refine ⟨.ref q0, e10, B, A1, M1, ds, g1, rel1, (Rs.post_bind p1).imp (fun y g2 p2 u A2 M2 H2 gr2 gl2 ru => ?_) fun e g z => rel1.es z⟩
        split at p2
        · rename_i k
          have rel2 := rel1.grow gr2 gl2
          cases ru
          obtain ⟨q, xs, e1, e2, el, e3, m⟩ := rel2.sl i _ hd
          rw [e10] at e1
          cases e1
          have rv2 := rv.grow gr2
          have hlen : (((ks.map (Sum.inr : Str → Key)).zip xs)).length < sizeLine := by
            rw [List.length_zip, List.length_map]
            have h1 : (1000 : Nat) < sizeLine := by rw [sizeLine_eq]; decide
            omega
          refine ⟨q0, _, rfl, DPut.k (k := Sum.inr k) e2 hlen, ?_⟩
          have keyE : ∃ ys, putK ((ks.map (Sum.inr : Str → Key)).zip xs) (Sum.inr k) v = (((putD ks l k d).1).map Sum.inr).zip ys ∧ (putD ks l k d).1.length = ys.length ∧ RpA w.G A2 M2 ys (putD ks l k d).2 := by
            unfold putD
            by_cases hm : k ∈ ks
            · rw [if_pos hm]
              unfold putK
              rw [any_key el, if_pos (decide_eq_true hm)]
              exact put_map rv2 el e3
            · rw [if_neg hm, putK_new v (valV_none hm)]
              refine ⟨xs ++ [v], ?_, by simp [el], e3.append (.cons rv2 .nil)⟩
              rw [List.map_append, List.map_cons, List.map_nil, zip_snoc (by rw [List.length_map]; exact el)]
          obtain ⟨ys, k1, k2, k3⟩ := keyE
          rw [k1]
          exact p2 A2 M2 _ σ (rel2.mut (by rw [hd]; rfl) e10 ⟨q0, ys, rfl, upd_same, k2, k3, m⟩ rfl) (gr.trans gr2 gl (fun _ h => nomatch h)).inc
        · exact p2.elim
      · rw [if_neg hkl] at p
        exact p.elim
    · exact p.elim
/-! ### dict(d) -/
def oDictD (_ : Gl) : List Dat → Option Dat
  | [.dct ks l] => some (.dct ks l)
  | _ => none
theorem r_dictD {G : Gm} : R1ok G (fun xs H Q => ∃ (a : Addr) (kvs : List (Key × V)), xs = [.ref a] ∧ Rd H a (.dK kvs) ∧ ∀ p, H p = none → Q (.ref p) (upd H p (.dK kvs))) oDictD := fun A M H g vs l z Q wd gl rv eo q => by
  unfold oDictD at eo
  split at eo
  · rename_i ks l
    cases eo
    cases rv with
    | cons r0 r =>
      cases r
      obtain ⟨a, xs, rfl, ha, na, el, r⟩ := Rb.dct r0 wd
      refine ⟨a, _, rfl, .inl ha, fun p hp => ?_⟩
      have gn := Grow.new (o := .dK ((ks.map Sum.inr).zip xs)) wd gl hp
      exact q (.ref p) A _ _ gn (gl.new wd hp) (.dct upd_same el (r.grow gn))
  · cases eo
/-! ### dict == dict -/
def eqDc (d e : Dat) : Option Bool := match d, e with
  | .dct ks l, .dct ks' l' => if ks = ks' ∧ ks.Nodup then eqD (.tup l) (.tup l') else none
  | _, _ => none
def rEqDc (K : PySem.W.Frag) : R2 := fun x y H Q => ∃ (a b : Addr) (ks : List Str) (xs ys : List V) (ps qs : List PyData), x = .ref a ∧ y = .ref b ∧ H a = some (.dK ((ks.map Sum.inr).zip xs)) ∧ H b = some (.dK ((ks.map Sum.inr).zip ys)) ∧ ks.length = xs.length ∧ ks.length = ys.length ∧ ks.Nodup ∧
  DpAll K H xs ps ∧ DpAll K H ys qs ∧ PyData.canLayAll0 ps = true ∧ PyData.canLayAll0 qs = true ∧ PyData.depthAll ps ≤ 64 ∧ Q (.bl (PyData.eqvAll ps qs)) H
section
variable {X : Cx} {pins : List (Addr × Obj)} {σ : L2.St} {H : Hp} {s : Shared}
theorem hits_data (I : Inv X pins σ H s) (hu : X.A.units + 65 < cLine) {kb : List (Key × V)} {vb : List (Key × Value)} (rb : KV kb vb) : ∀ {ks : List Str} {xs ys : List V} {ps qs : List PyData} {va : List (Key × Value)},
    KV ((ks.map Sum.inr).zip xs) va → ks.length = xs.length → ks.length = ys.length → (∀ p ∈ (ks.map (Sum.inr : Str → Key)).zip ys, valV kb p.1 = some p.2) → DpAll X.K H xs ps → DpAll X.K H ys qs → PyData.canLayAll0 ps = true → PyData.canLayAll0 qs = true → PyData.depthAll ps ≤ 64 →
    PySem.W.KeqHits X.A.in1 s vb va (PyData.eqvAll ps qs)
  | [], xs, ys, ps, qs, va, ra, h1, h2, hv, dx, dy, c1, c2, hd => by
    cases xs with
    | cons x xs => cases h1
    | nil =>
      cases ys with
      | cons y ys => cases h2
      | nil =>
        cases dx
        cases dy
        unfold KV at ra
        cases ra
        exact .nil
  | k :: ks, xs, ys, ps, qs, va, ra, h1, h2, hv, dx, dy, c1, c2, hd => by
    cases xs with
    | nil => cases h1
    | cons x xs =>
      cases ys with
      | nil => cases h2
      | cons y ys =>
        cases dx with
        | @cons _ _ p ps hx dx =>
          cases dy with
          | @cons _ _ q qs hy dy =>
            unfold KV at ra
            cases ra with
            | @cons _ e _ vs h t =>
              obtain ⟨ek, rx⟩ := h
              have e0 := hv (Sum.inr k, y) List.mem_cons_self
              have rr : RelO (some y) (valueAt vb (Sum.inr k)) := by rw [← e0]; exact rb.val (Sum.inr k)
              obtain ⟨y', hy', ry⟩ := rr.some_of
              obtain ⟨k', v⟩ := e
              have ek : (Sum.inr k : Key) = k' := ek
              subst ek
              have rx : RelV x v := rx
              obtain ⟨as, r1⟩ := Dp.reads I p x v hx rx
              obtain ⟨bs, r2⟩ := Dp.reads I q y y' hy ry
              rw [PyData.canLayAll0, Bool.and_eq_true] at c1 c2
              rw [PyData.depthAll] at hd
              have room : X.A.in1.units + min p.depth q.depth < cLine := by
                have h5 : min p.depth q.depth ≤ p.depth := Nat.min_le_left _ _
                show X.A.units + 1 + _ < _
                omega
              have eq1 := SeqAt.eqAt_reads p q X.A.in1 s v y' as bs r1 r2 c1.1 c2.1 room
              rw [PyData.eqvAll]
              exact .hit hy' eq1 (hits_data I hu rb t (Nat.succ.inj h1) (Nat.succ.inj h2) (fun p hp => hv p (List.mem_cons_of_mem _ hp)) dx dy c1.2 c2.2 (by omega))
theorem zip_nodup {ks : List Str} {ys : List V} (h : ks.Nodup) (hl : ks.length = ys.length) : (((ks.map (Sum.inr : Str → Key)).zip ys).map (·.1)).Nodup := by
  rw [List.map_fst_zip (by rw [List.length_map]; omega)]
  exact h.map Sum.inr fun a b hne z => hne (Sum.inr.inj z)
theorem op_eqDc (hu : X.A.units + 65 < cLine) : OpR X (compareOp .Eq) (rEqDc X.K) := by
  intro pins s σ H x y v u Q I rx ry h
  obtain ⟨a, b, ks, xs, ys, ps, qs, rfl, rfl, ea, eb, h1, h2, nd, dx, dy, c1, c2, hd, q⟩ := h
  obtain rfl : v = Value.ref a := rx
  obtain rfl : u = Value.ref b := ry
  obtain ⟨_, ya, va, ra, da⟩ := (show ObjOk X.prog X.w H s.heap a (.dK _) from I.hok a _ ea)
  obtain ⟨_, yb, vb, rb, db⟩ := (show ObjOk X.prog X.w H s.heap b (.dK _) from I.hok b _ eb)
  have hl : va.length = vb.length := by
    rw [← ra.length, ← rb.length, List.length_zip, List.length_zip]
    omega
  exact PySem.W.keq_eq (knd := mixKind X.prog X.w) (r := PyData.eqvAll ps qs) ya yb da db (by omega) (fun _ => hits_data I hu rb ra h1 h2 (val_nodup (zip_nodup nd h2)) dx dy c1 c2 hd) (fin_bl I q (by simp [hl]))
end
theorem pys_tup {l : List Dat} {p : PyData} (h : toPy (.tup l) = some p) : ∃ ps, toPys l = some ps ∧ p = .tuple ps := by
  unfold toPy at h
  cases e : toPys l with
  | none => rw [e] at h; cases h
  | some ps => rw [e] at h; cases h; exact ⟨ps, rfl, rfl⟩
theorem shaped_tup {ps : List PyData} (h : SeqAt.shaped (.tuple ps) = true) : PyData.canLayAll0 ps = true ∧ PyData.depthAll ps ≤ 64 := by
  have h' := Bool.and_eq_true_iff.mp h
  have h1 := h'.1
  have h2 := of_decide_eq_true h'.2
  rw [PyData.canLay0] at h1
  rw [PyData.depth] at h2
  exact ⟨h1, by omega⟩
theorem RpA.dps {G : Gm} {A : List Addr} {M H : Hp} (hM : Same M H) {xs : List V} {l : List Dat} {ps : List PyData} (r : RpA G A M xs l) (h : toPys l = some ps) : DpAll G.K H xs ps := RpA.dp hM r h
theorem r_eqDc {G : Gm} : R2T G (rEqDc G.K) eqDc := fun A M H g x y d e b Q wd gl rx ry eo q => by
  unfold eqDc at eo
  split at eo
  · rename_i ks l ks' l'
    split at eo
    · rename_i hc
      obtain ⟨rfl, nd⟩ := hc
      obtain ⟨p, p', h1, h2, h3, h4, h5⟩ := eqD_some eo
      obtain ⟨ps, t1, rfl⟩ := pys_tup h1
      obtain ⟨qs, t2, rfl⟩ := pys_tup h2
      obtain ⟨a, xs, rfl, ha, na, el, r⟩ := Rb.dct rx wd
      obtain ⟨a', xs', rfl, ha', na', el', r'⟩ := Rb.dct ry wd
      obtain ⟨c1, d1⟩ := shaped_tup h3
      obtain ⟨c2, d2⟩ := shaped_tup h4
      rw [PyData.eqv] at h5
      refine ⟨a, a', ks, xs, xs', ps, qs, rfl, rfl, ha, ha', el, el', nd, RpA.dps wd.mh r t1, RpA.dps wd.mh r' t2, c1, c2, d1, ?_⟩
      rw [h5]
      exact q
    · cases eo
  · cases eo
/-! ### a rule == a dict -/
def eqRD : Dat → Dat → Option Bool
  | .rul a b c, .rul a' b' c' => eqD (.tup [a, b, c]) (.tup [a', b', c'])
  | .rul _ _ _, .dct _ _ => some false
  | _, _ => none
def EqFD (F : Fn) : Prop := ∀ d e z g, eqRD d e = some z → F [d, e] g = .ok (.bl z) g
structure CalED (P : Program) (w : World) (mg : Str → Option Value) (base : Heap) (G : Gm) (k : Nat) (F : Fn) : Prop where
  ok : ∃ (f : Addr) (fd : FuncData) (ps : List Str), FnOk P w G.K mg base (L2.CX P w) k f fd ps (spF G 2 F) ∧ Meth G.K G.rC "__eq__" f ∧ Binds G.K fd ps []
  nf : PySem.W.notFirst G.K G.rC (.type "dict") = true
  sem : EqFD F
def rQRD (C : Addr) (sp : Sp) : R2 := fun x y H Q => ∃ a b dx fs o, x = .ref a ∧ y = .ref b ∧ H a = some (.ins C dx fs) ∧ H b = some o ∧ ((∃ dy gs, o = .ins C dy gs) ∨ ∃ kvs, o = .dK kvs) ∧ sp [.ref a, .ref b] H (fun v H' => ∃ r : Bool, v = .bl r ∧ Q (.bl r) H') (fun _ _ _ => False)
section
variable {X : Cx} {k : Nat} {f C : Addr} {fd : FuncData} {ps : List Str} {sp : Sp}
theorem op_eqRD (Fk : FnOk X.prog X.w X.K X.mg X.base (L2.CX X.prog X.w) k f fd ps sp) (hr : Room (k + 1) X.A) (hM : Meth X.K C "__eq__" f) (hb : Binds X.K fd ps []) (hn : PySem.W.notFirst X.K C (.type "dict") = true) : OpR X (compareOp .Eq) (rQRD C sp) := by
  intro pins s σ H x y v u Q I rx ry h
  obtain ⟨a, b, dx, fs, o, rfl, rfl, ha, hb', hk, hsp⟩ := h
  cases rx
  cases ry
  obtain ⟨mA, J, _⟩ := ins_get I.hok ha
  obtain ⟨od, J, _⟩ := J.look
  obtain ⟨m, hF⟩ := I.fr
  have hl := Fk.len _ _ _ _ hsp
  have back : wpAny (model X.prog X.w) X.A (call (.ref f) [.ref a, .ref b]) (PySem.W.CmpBack (EP X pins σ Q)) X.xe s := by
    refine wpAny_call (codeAny_mono (Fk.run X.A X.stack s H ⟨[.ref a, .ref b], []⟩ [.ref a, .ref b] [.ref a, .ref b] _ _ (hr.mono (Nat.le_succ _)) I.env0 (by
      have := hb s [.ref a, .ref b] I.kIn (by simpa using hl)
      simpa using this) (.cons rfl (.cons rfl .nil)) hsp) fun r s' hq => ?_)
    cases r with
    | error e => exact passAt takesN σ pins H s e s' I hq
    | ok fl =>
      cases fl with
      | ret w =>
        obtain ⟨z, H', I', rz, r, ez, q⟩ := I.after hq
        subst ez
        cases rz
        exact ⟨.bl r, H', I', rfl, q⟩
      | next => exact False.elim hq
      | brk => exact False.elim hq
      | cont => exact False.elim hq
  show wpAny (model X.prog X.w) X.A (richCompare .Eq (.ref a) (.ref b)) (EP X pins σ Q) X.xe s
  rcases hk with ⟨dy, gs, rfl⟩ | ⟨kvs, rfl⟩
  · obtain ⟨mB, J', _⟩ := ins_get I.hok hb'
    obtain ⟨od', J', _⟩ := J'.look
    exact PySem.W.cmp_K (op := .Eq) (tb := .ref C) hr.units0 hF I.ok.mod.kin J J'.type (by simp [PySem.W.notFirst]) hM.at_ hM.fn back
  · obtain ⟨_, _, vs, _, o, es, ep, g1, g2, _⟩ := (show ObjOk X.prog X.w H s.heap b (.dK kvs) from I.hok b _ hb')
    have lk : PySem.W.Looks (model X.prog X.w) s.heap (typeOf (.ref b)) (.type "dict") := fun A Q E s k q => wpAny_typeOf_ref (k _ _ g1) (by rw [g2.1]; exact q)
    exact PySem.W.cmp_K (op := .Eq) (tb := .type "dict") hr.units0 hF I.ok.mod.kin J lk hn hM.at_ hM.fn back
end
/-- operators whose second value is a kept one -/
theorem bin2K {w : Wc} {fa fb : DE} {α : Type} {r : R2} {o : Dat → Dat → Option α} {σ : L2.St} {H : Hp} {Q : VK} {P : List Addr → Hp → Hp → α → Gl → Prop}
    (h : ∃ B A M ds g, Rel w B A M H σ ds g ∧ (d2 o fa fb ds g).Post (P A M H) (EE w A M H σ))
    (hon : ∀ A M H A1 M1 H1 g1 z g, P A M H z g → Grow [] A A1 M M1 H H1 → GlOk w.G A1 M1 H1 g1 → P A1 M1 H1 z g)
    (k : ∀ A M H g x y d e z, Wd A M H → GlOk w.G A M H g → Rb w.G A M H x d → Rp w.G A M y e → o d e = some z → P A M H z g → r x y H Q) : tOp r (bD w fa) (tD w fb) σ H Q := by
  obtain ⟨B, A, M, ds, g, rel, p⟩ := h
  refine ⟨B, A, M, ds, g, rel, (Rs.post_bind p).imp (fun d g1 p1 x A1 M1 H1 gr1 gl1 r1 => ?_) fun _ _ z => z⟩
  have p1' := Rs.post_bind p1
  refine ⟨B, A1, M1, ds, g1, rel.grow gr1 gl1, p1'.imp (fun e g2 p2 y A2 M2 H2 gr2 gl2 r2 => ?_) fun e g z => EE.on z gr1 gl1⟩
  obtain ⟨z, eo, qz⟩ := post_opt p2
  exact k A2 M2 H2 g2 x y d e z gr2.wd gl2 (r1.grow gr2) r2 eo (hon _ _ _ _ _ _ _ _ _ qz (gr1.trans gr2 gl1 (fun _ h => nomatch h)) gl2)
theorem r_eqRD {G : Gm} {F : Fn} (hF : EqFD F) (A : List Addr) (M H : Hp) (g : Gl) (x y : V) (d e : Dat) (z : Bool) (Q : VK) (wd : Wd A M H) (gl : GlOk G A M H g) (rx : Rb G A M H x d) (ry : Rp G A M y e) (h : eqRD d e = some z)
    (q : ∀ A' M' H', Grow [] A A' M M' H H' → GlOk G A' M' H' g → Q (.bl z) H') : rQRD G.rC (spF G 2 F) x y H Q := by
  have fin : ∀ {p1 p2 : Addr} {d e : Dat}, Rp G A M (.ref p1) d → Rp G A M (.ref p2) e → eqRD d e = some z → spF G 2 F [.ref p1, .ref p2] H (fun v H' => ∃ r : Bool, v = .bl r ∧ Q (.bl r) H') (fun _ _ _ => False) := fun {p1 p2 d e} r1 r2 h => by
    refine ⟨rfl, A, M, [d, e], g, wd, gl, .cons r1 (.cons r2 .nil), ?_⟩
    rw [hF _ _ _ g h]
    exact fun v A' M' H' gr gl' rv => by
      cases rv
      exact ⟨z, rfl, q A' M' H' gr gl'⟩
  have h0 := h
  unfold eqRD at h
  split at h
  · rename_i a1 a2 a3 b1 b2 b3
    obtain ⟨p1, dx, fs, rfl, h1, r1⟩ := rul_ins wd rx
    obtain ⟨p2, dy, gs, rfl, h2, r2⟩ := rul_ins wd (.fz ry)
    exact ⟨p1, p2, dx, fs, _, rfl, rfl, h1, h2, .inl ⟨dy, gs, rfl⟩, fin r1 r2 h0⟩
  · rename_i a1 a2 a3 ks l
    obtain ⟨p1, dx, fs, rfl, h1, r1⟩ := rul_ins wd rx
    have r' := ry
    cases ry with
    | @dct p2 _ xs _ h2 el rr => exact ⟨p1, p2, dx, fs, _, rfl, rfl, h1, wd.mh _ _ h2, .inr ⟨_, rfl⟩, fin r1 r' h0⟩
  · cases h
section
variable {X : Cx} {w : Wc} {a b : Expr} {fa fb : DE} {pos : Pos} {k j : Nat} {F : Fn}
theorem t_eqRD (c : CalED X.prog X.w X.mg X.base w.G k F) (hK : X.K = w.G.K) (hr : Room j X.A) (hj : k + 1 ≤ j) (ha : BD X w a fa) (hb : KD X w b fb) (hm : behindInMarks .Eq b = false) : TD X w (.Compare a [.Eq] [b] pos) (d2 eqRD fa fb) := by
  obtain ⟨f, fd, ps, hF, hM, hB⟩ := c.ok
  have hn := c.nf
  rw [← hK] at hF hM hB hn
  exact pt_imp (pt_cmpR (op_eqRD hF (hr.mono hj) hM hB hn) ha hb hm) fun σ H Q h => bin2K (P := fun A M H => QT w.G A M H Q) h (fun _ _ _ _ _ _ _ _ _ q g l => q.on g l) fun A M H g x y d e z wd gl rx ry eo q =>
    r_eqRD c.sem A M H g x y d e z _ wd gl rx ry eo fun A' M' H' gr gl' => ⟨z, rfl, q A' M' H' gr gl'⟩
theorem k_eqRD (c : CalED X.prog X.w X.mg X.base w.G k F) (hK : X.K = w.G.K) (hr : Room j X.A) (hj : k + 1 ≤ j) (ha : BD X w a fa) (hb : KD X w b fb) (hm : behindInMarks .Eq b = false) : KD X w (.Compare a [.Eq] [b] pos) (dB (d2 eqRD fa fb)) := by
  obtain ⟨f, fd, ps, hF, hM, hB⟩ := c.ok
  have hn := c.nf
  rw [← hK] at hF hM hB hn
  exact pe_imp (pe_cmpR (op_eqRD hF (hr.mono hj) hM hB hn) ha hb hm) fun σ H Q ⟨B, A, M, ds, g, rel, p⟩ => bin2K (P := fun A M H b g => QE w.G A M H Q (.bl b) g) ⟨B, A, M, ds, g, rel, (Rs.post_bind p).imp (fun _ _ z => z) fun _ _ z => z⟩ (fun _ _ _ _ _ _ _ _ _ q g l => QE.on q g l)
    fun A M H g x y d e z wd gl rx ry eo q => r_eqRD c.sem A M H g x y d e z _ wd gl rx ry eo fun A' M' H' gr gl' => q (.bl z) A' M' H' gr gl' (.bl z)
end
/-! ### isinstance(x, Rule), x a rule or a dict -/
def oIsRD : Dat → Option Dat
  | .rul _ _ _ => some (.bl true)
  | .dct _ _ => some (.bl false)
  | _ => none
section
variable {X : Cx} {w : Wc} {a : Expr} {fe : DE} {p pos pT : Pos} {y : Str}
theorem k_isRD (c : C8.InsC w.G.K w.G.rC) (hd0 : PySem.W.kitOne w.G.K (.type "dict") (.ref w.G.rC) = some false) (hK : X.K = w.G.K) (hg : L2.Gl X "isinstance") (hm : X.mg "isinstance" = none) (ha : BD X w a fe) (hg2 : L2.Gl X y) (hm2 : X.mg y = some (.ref w.G.rC)) (hd : (y == ("__debug__" : Str)) = false)
    (h1 : starEach [a, .Name y pT] X.env = (false, eval a X.env) :: starEach [.Name y pT] X.env) (h2 : starEach [.Name y pT] X.env = (false, eval (.Name y pT) X.env) :: starEach [] X.env) (h3 : (backTo pos (starEach [.Name y pT] X.env)).any (·.1) = false) :
    KD X w (.Call (.Name "isinstance" p) [a, .Name y pT] [] pos) (d1 oIsRD fe) := by
  rw [← hK] at c hd0
  refine pe_imp (pe_callB call_isi hg hm (by decide +kernel) (pa_cons ha (pa_cons (pe_glob (v := .ref w.G.rC) hg2 hm2 rfl hd) pa_nil h2) h1) (by decide) (by decide) h1 h3) fun σ H Q ⟨B, A, M, ds, g, rel, p⟩ => ⟨B, A, M, ds, g, rel, (Rs.post_bind p).imp (fun d g1 p1 v A1 M1 H1 gr gl r => ?_) fun _ _ z => z⟩
  obtain ⟨z, ez, qz⟩ := post_opt p1
  unfold oIsRD at ez
  split at ez
  · cases ez
    obtain ⟨q, dx, fs, rfl, h4, r4⟩ := rul_ins gr.wd r
    exact ⟨.ref q, .ref w.G.rC, _, _, true, rfl, .own _, .base (.ins h4 c.cl c.ha c.hn c.htk c.hm), c.me, qz (.bl true) A1 M1 H1 gr gl (.bl true)⟩
  · cases ez
    obtain ⟨q, xs, rfl, h4, _⟩ := Rb.dct r gr.wd
    exact ⟨.ref q, .ref w.G.rC, _, _, false, rfl, .own _, .base (.dK h4), hd0, qz (.bl false) A1 M1 H1 gr gl (.bl false)⟩
  · cases ez
end
/-- a dict is no instance of a class of one's own -/
theorem kit_dict {K : PySem.W.Frag} {C : Addr} (h1 : PySem.W.isClsIn K C = true) (h2 : PySem.W.typeIn K (.ref C) = some (.type "type")) (h3 : PySem.W.subIn K (.type "dict") (.ref C) = some false) : PySem.W.kitOne K (.type "dict") (.ref C) = some false := by
  have h0 : (Value.type "dict" == Value.ref C) = false := rfl
  unfold PySem.W.isClsIn at h1
  unfold PySem.W.kitOne
  rw [h0]
  show PySem.W.kitCls K (.type "dict") (.ref C) = _
  unfold PySem.W.kitCls
  show (if ((PySem.W.clsIn K C).isSome && PySem.W.typeIn K (.ref C) == some (.type "type")) = true then PySem.W.subIn K (.type "dict") (.ref C) else none) = _
  rw [h1, h2, h3]
  exact if_pos (by simp)
end DL

namespace W
open PySem L2 DL
def fuel : Nat := 1000000
def erS : List Nat := [0]
def b_is_whole : DS := dRet (dAndV (d1 (oIsi "int") (dBor 0)) (dNotV (d1 (oIsi "bool") (dBor 0))))
def F_is_whole : DL.Fn := mkF 1 1 b_is_whole
def b_is_within : DS := dRet (dAndV (dCall F_is_whole (dCons (dVar 0) dNil)) (dB (d3 oLe oLe (dBor 1) (dBor 0) (dBor 2))))
def F_is_within : DL.Fn := mkF 3 3 b_is_within
def lp_common_1 : DS := dPar 0 1 (dCons (dVar 1) (dCons (d2 oSub (dBor 0) (d2 oMulI (d2 oDiv (dBor 0) (dBor 1)) (dBor 1))) dNil))
def b_common : DS := dSeq (dPar 0 1 (dCons (dCB oAbs (dCons (dBor 0) dNil)) (dCons (dCB oAbs (dCons (dBor 1) dNil)) dNil))) (dSeq (dWhile (d2 oGt (dBor 1) (dC (.int 0))) lp_common_1 fuel) (dRet (dVar 0)))
def F_common : DL.Fn := mkF 2 2 b_common
def b_is_fraction : DS := dSeq (dIfS (dOr (dNot (dT (d1 (oIsi "tuple") (dBor 0)))) (dOr (d2 neD (dCB oLen (dCons (dBor 0) dNil)) (dC (.int 2))) (dOr (dNot (dT (dCall F_is_whole (dCons (dIx (dBor 0) (dC (.int 0))) dNil)))) (dNot (dT (dCall F_is_whole (dCons (dIx (dBor 0) (dC (.int 1))) dNil))))))) (dRet (dC (.bl false))) dSkip) (dRet (dAndV (dB (d2 oGt (dIx (dBor 0) (dC (.int 1))) (dC (.int 0)))) (dB (d2 eqD (dCall F_common (dCons (dIx (dBor 0) (dC (.int 0))) (dCons (dIx (dBor 0) (dC (.int 1))) dNil))) (dC (.int 1))))))
def F_is_fraction : DL.Fn := mkF 1 1 b_is_fraction
def b_fraction : DS := dSeq (dIfS (d2 oLt (dBor 1) (dC (.int 0))) (dPar 0 1 (dCons (d1 oNeg (dBor 0)) (dCons (d1 oNeg (dBor 1)) dNil))) dSkip) (dSeq (dAsg 2 (dCall F_common (dCons (dVar 0) (dCons (dVar 1) dNil)))) (dRet (dTup (dCons (d2 oDiv (dBor 0) (dBor 2)) (dCons (d2 oDiv (dBor 1) (dBor 2)) dNil)))))
def F_fraction : DL.Fn := mkF 2 3 b_fraction
def b_added : DS := dRet (dCall F_fraction (dCons (d2 oAdd (d2 oMulI (dIx (dBor 0) (dC (.int 0))) (dIx (dBor 1) (dC (.int 1)))) (d2 oMulI (dIx (dBor 1) (dC (.int 0))) (dIx (dBor 0) (dC (.int 1))))) (dCons (d2 oMulI (dIx (dBor 0) (dC (.int 1))) (dIx (dBor 1) (dC (.int 1)))) dNil)))
def F_added : DL.Fn := mkF 2 2 b_added
def b_less : DS := dRet (dCall F_fraction (dCons (d2 oSub (d2 oMulI (dIx (dBor 0) (dC (.int 0))) (dIx (dBor 1) (dC (.int 1)))) (d2 oMulI (dIx (dBor 1) (dC (.int 0))) (dIx (dBor 0) (dC (.int 1))))) (dCons (d2 oMulI (dIx (dBor 0) (dC (.int 1))) (dIx (dBor 1) (dC (.int 1)))) dNil)))
def F_less : DL.Fn := mkF 2 2 b_less
def b_product : DS := dRet (dCall F_fraction (dCons (d2 oMulI (dIx (dBor 0) (dC (.int 0))) (dIx (dBor 1) (dC (.int 0)))) (dCons (d2 oMulI (dIx (dBor 0) (dC (.int 1))) (dIx (dBor 1) (dC (.int 1)))) dNil)))
def F_product : DL.Fn := mkF 2 2 b_product
def b_is_less : DS := dRet (dB (d2 oLt (d2 oMulI (dIx (dBor 0) (dC (.int 0))) (dIx (dBor 1) (dC (.int 1)))) (d2 oMulI (dIx (dBor 1) (dC (.int 0))) (dIx (dBor 0) (dC (.int 1))))))
def F_is_less : DL.Fn := mkF 2 2 b_is_less
def b_over : DS := dRet (dCall F_fraction (dCons (d2 oMulI (dIx (dBor 0) (dC (.int 0))) (dIx (dBor 1) (dC (.int 1)))) (dCons (d2 oMulI (dIx (dBor 0) (dC (.int 1))) (dIx (dBor 1) (dC (.int 0)))) dNil)))
def F_over : DL.Fn := mkF 2 2 b_over
def lp_total_1 : DS := dAsg 1 (dCall F_added (dCons (dVar 1) (dCons (dVar 2) dNil)))
def b_total : DS := dSeq (dAsg 1 (dC (.tup [(.int 0), (.int 1)]))) (dSeq (dFor (dSq (dVar 0)) (gN 2) lp_total_1) (dRet (dVar 1)))
def F_total : DL.Fn := mkF 1 3 b_total
def b_is_share : DS := dRet (dAndV (dCall F_is_fraction (dCons (dVar 0) dNil)) (dAndV (dB (d2 oGt (dIx (dBor 0) (dC (.int 0))) (dC (.int 0)))) (dAndV (dNotV (dCall F_is_less (dCons (dC (.tup [(.int 1), (.int 1)])) (dCons (dVar 0) dNil)))) (dB (d2 oLe (dIx (dBor 0) (dC (.int 1))) (dC (.int 9)))))))
def F_is_share : DL.Fn := mkF 1 1 b_is_share
def b_Rule : DS := dSeq (dIfS (dNot (dT (dCall F_is_within (dCons (dVar 1) (dCons (dC (.int 0)) (dCons (dC (.int 20)) dNil)))))) (dRaise1 0 "name" (dCons (dC (.str "first")) dNil)) dSkip) (dSeq (dIfS (dAnd (d2 oNotN (dBor 2) (dC .non)) (dNot (dT (dCall F_is_within (dCons (dVar 2) (dCons (dCB oMax (dCons (dFz (dLst (dCons (dC (.int 1)) (dCons (dVar 1) dNil)))) dNil)) (dCons (dC (.int 20)) dNil))))))) (dRaise1 0 "name" (dCons (dC (.str "second")) dNil)) dSkip) (dSeq (dIfS (dNot (dT (dCall F_is_share (dCons (dVar 3) dNil)))) (dRaise1 0 "name" (dCons (dC (.str "share")) dNil)) dSkip) (dSeq (dFld 0 "begun" (dVar 1)) (dSeq (dFld 0 "later" (dVar 2)) (dFld 0 "part" (dVar 3))))))
def F_Rule : In := mkI 3 4 b_Rule
def b_wanted : DS := dSeq (dOwn 2 (dIf (d2 oGt (dBor 1) (d1 (rulF "begun") (dBor 0))) (dLst (dCons (dC (.int 1)) dNil)) (dLst dNil))) (dSeq (dIfS (dAnd (d2 oNotN (d1 (rulF "later") (dBor 0)) (dC .non)) (d2 oGt (dBor 1) (d1 (rulF "later") (dBor 0)))) (dApp 2 (dCons (dC (.int 2)) dNil)) dSkip) (dRetO 2))
def F_wanted : DL.Fn := mkF 2 3 b_wanted
def b_need_number : DS := dIfS (dNot (dT (dCall F_is_within (dCons (dVar 0) (dCons (dVar 1) (dCons (dVar 2) dNil)))))) (dRaise1 1 "n" (dCons (dVar 0) dNil)) dSkip
def F_need_number : DL.Fn := mkF 3 3 b_need_number
def b_need_count : DS := dIfS (dNot (dT (dCall F_is_within (dCons (dVar 0) (dCons (dVar 1) (dCons (dVar 2) dNil)))))) (dRaise1 2 "value" (dCons (dVar 0) dNil)) dSkip
def F_need_count : DL.Fn := mkF 3 3 b_need_count
def b_need_sure : DS := dIfS (d2 neD (d1 (rulF "part") (dBor 0)) (dC (.tup [(.int 1), (.int 1)]))) (dRaise0 4) dSkip
def F_need_sure : DL.Fn := mkF 1 1 b_need_sure
def lp_choices_1 : DS := dAsg 2 (d2 oDiv (d2 oMulI (dBor 2) (d2 oSub (dBor 0) (dBor 3))) (d2 oAdd (dBor 3) (dC (.int 1))))
def b_choices : DS := dSeq (dAsg 2 (dC (.int 1))) (dSeq (dFor (dOpA rng1 (dCons (dVar 1) dNil)) (gN 3) lp_choices_1) (dRet (dIf (d3 oLe oLe (dC (.int 0)) (dBor 1) (dBor 0)) (dVar 2) (dC (.int 0)))))
def F_choices : DL.Fn := mkF 2 4 b_choices
def lp_still_free_1 : DS := dSeq (dAsg 5 (dCall F_product (dCons (d1 (rulF "part") (dBor 0)) (dCons (dTup (dCons (dCB oLen (dCons (dCall F_wanted (dCons (dVar 0) (dCons (dVar 4) dNil))) dNil)) (dCons (dVar 4) dNil))) dNil)))) (dApp 3 (dCons (dCall F_product (dCons (dIx (dBor 3) (d1 oNeg (dC (.int 1)))) (dCons (dCall F_less (dCons (dC (.tup [(.int 1), (.int 1)])) (dCons (dVar 5) dNil))) dNil))) dNil))
def b_still_free : DS := dSeq (dOwn 3 (dLst (dCons (dC (.tup [(.int 1), (.int 1)])) dNil))) (dSeq (dFor (dOpA rng2 (dCons (d2 oAdd (dBor 1) (dC (.int 1))) (dCons (d2 oAdd (dBor 2) (dC (.int 1))) dNil))) (gN 4) lp_still_free_1) (dRetO 3))
def F_still_free : DL.Fn := mkF 3 6 b_still_free
def lp_ends_within_1 : DE := d2 oMulI (dCall F_choices (dCons (d2 oSub (dBor 5) (dC (.int 1))) (dCons (d2 oSub (dBor 0) (dC (.int 1))) dNil))) (dCall F_choices (dCons (d2 oSub (dBor 2) (dBor 5)) (dCons (d2 oSub (dBor 1) (dBor 0)) dNil)))
def b_ends_within : DS := dSeq (dAsg 4 (dFz (dLc (dOpA rng2 (dCons (dC (.int 1)) (dCons (d2 oAdd (dCB oMin (dCons (dFz (dLst (dCons (dVar 3) (dCons (dVar 2) dNil)))) dNil)) (dC (.int 1))) dNil))) [5] (gN 5) tfT lp_ends_within_1))) (dRet (dCall F_fraction (dCons (dCB oSum (dCons (dBor 4) dNil)) (dCons (dCall F_choices (dCons (dVar 2) (dCons (dVar 1) dNil))) dNil))))
def F_ends_within : DL.Fn := mkF 4 6 b_ends_within
def lp_chance_by_2 : DE := dCall F_ends_within (dCons (dVar 8) (dCons (dVar 3) (dCons (dVar 1) (dCons (dVar 2) dNil))))
def lp_chance_by_1 : DS := dSeq (dAsg 6 (dFz (dLc (dSq (dCall F_wanted (dCons (dVar 0) (dCons (dVar 3) dNil)))) [8] (gN 8) tfT lp_chance_by_2))) (dSeq (dAsg 7 (dCall F_product (dCons (dCall F_product (dCons (d1 (rulF "part") (dBor 0)) (dCons (dTup (dCons (dC (.int 1)) (dCons (dVar 3) dNil))) dNil))) (dCons (dCall F_total (dCons (dVar 6) dNil)) dNil)))) (dAsg 5 (dCall F_added (dCons (dVar 5) (dCons (dCall F_product (dCons (dIx (dBor 4) (d2 oSub (dBor 3) (dC (.int 1)))) (dCons (dVar 7) dNil))) dNil)))))
def b_chance_by : DS := dSeq (dPar 4 5 (dCons (dCall F_still_free (dCons (dVar 0) (dCons (dC (.int 0)) (dCons (dVar 1) dNil)))) (dCons (dC (.tup [(.int 0), (.int 1)])) dNil))) (dSeq (dFor (dOpA rng2 (dCons (dC (.int 1)) (dCons (d2 oAdd (dBor 1) (dC (.int 1))) dNil))) (gN 3) lp_chance_by_1) (dRet (dVar 5)))
def F_chance_by : DL.Fn := mkF 3 9 b_chance_by
def b_none : DS := dSeq (dDrop (dCall F_need_number (dCons (dVar 1) (dCons (dC (.int 1)) (dCons (dC (.int 100)) dNil))))) (dRet (dIx (dCall F_still_free (dCons (dVar 0) (dCons (dC (.int 0)) (dCons (dVar 1) dNil)))) (d1 oNeg (dC (.int 1)))))
def F_none : DL.Fn := mkF 2 2 b_none
def b_chance : DS := dSeq (dDrop (dCall F_need_number (dCons (dVar 1) (dCons (dC (.int 1)) (dCons (dC (.int 100)) dNil))))) (dSeq (dDrop (dCall F_need_count (dCons (dVar 2) (dCons (dC (.int 1)) (dCons (dC (.int 5)) dNil))))) (dRet (dCall F_chance_by (dCons (dVar 0) (dCons (dVar 1) (dCons (dVar 2) dNil))))))
def F_chance : DL.Fn := mkF 3 3 b_chance
def lp_mean_rank_1 : DS := dSeq (dAsg 5 (dCall F_fraction (dCons (d2 oMulI (dCB oSum (dCons (dCall F_wanted (dCons (dVar 0) (dCons (dVar 4) dNil))) dNil)) (d2 oAdd (dBor 1) (dC (.int 1)))) (dCons (d2 oMulI (dBor 4) (d2 oAdd (dBor 4) (dC (.int 1)))) dNil)))) (dAsg 3 (dCall F_added (dCons (dVar 3) (dCons (dCall F_product (dCons (dIx (dBor 2) (d2 oSub (dBor 4) (dC (.int 1)))) (dCons (dCall F_product (dCons (d1 (rulF "part") (dBor 0)) (dCons (dVar 5) dNil))) dNil))) dNil))))
def b_mean_rank : DS := dSeq (dDrop (dCall F_need_number (dCons (dVar 1) (dCons (dC (.int 1)) (dCons (dC (.int 100)) dNil))))) (dSeq (dAsg 2 (dCall F_still_free (dCons (dVar 0) (dCons (dC (.int 0)) (dCons (dVar 1) dNil))))) (dSeq (dAsg 3 (dCall F_product (dCons (dIx (dBor 2) (d1 oNeg (dC (.int 1)))) (dCons (dTup (dCons (d2 oAdd (dBor 1) (dC (.int 1))) (dCons (dC (.int 1)) dNil))) dNil)))) (dSeq (dFor (dOpA rng2 (dCons (dC (.int 1)) (dCons (d2 oAdd (dBor 1) (dC (.int 1))) dNil))) (gN 4) lp_mean_rank_1) (dRet (dVar 3)))))
def F_mean_rank : DL.Fn := mkF 2 6 b_mean_rank
def b_paper : DS := dSeq (dDrop (dCall F_need_number (dCons (dVar 1) (dCons (dC (.int 1)) (dCons (dC (.int 100)) dNil))))) (dRet (dCall F_still_free (dCons (dVar 0) (dCons (dC (.int 0)) (dCons (dVar 1) dNil)))))
def F_paper : DL.Fn := mkF 2 2 b_paper
def lp_ahead_1 : DS := dSeq (dPar 6 7 (dCons (dCall F_chance_by (dCons (dVar 0) (dCons (dVar 5) (dCons (dVar 2) dNil)))) (dCons (dCall F_chance_by (dCons (dVar 1) (dCons (dVar 5) (dCons (dVar 2) dNil)))) dNil))) (dApp 4 (dCons (dIf (dT (dCall F_is_less (dCons (dVar 6) (dCons (dVar 7) dNil)))) (dC (.str "other")) (dIf (dT (dCall F_is_less (dCons (dVar 7) (dCons (dVar 6) dNil)))) (dC (.str "one")) (dC (.str "like")))) dNil))
def b_ahead : DS := dSeq (dDrop (dCall F_need_count (dCons (dVar 2) (dCons (dC (.int 1)) (dCons (dC (.int 5)) dNil))))) (dSeq (dDrop (dCall F_need_number (dCons (dVar 3) (dCons (dC (.int 1)) (dCons (dC (.int 100)) dNil))))) (dSeq (dOwn 4 (dLst dNil)) (dSeq (dFor (dOpA rng2 (dCons (dC (.int 1)) (dCons (d2 oAdd (dBor 3) (dC (.int 1))) dNil))) (gN 5) lp_ahead_1) (dRetO 4))))
def F_ahead : DL.Fn := mkF 4 8 b_ahead
def lp_fitting_1 : DE := dVar 4
def b_fitting : DS := dSeq (dDrop (dCall F_need_count (dCons (dVar 1) (dCons (dC (.int 1)) (dCons (dC (.int 5)) dNil))))) (dSeq (dIfS (dNot (dT (dCall F_is_fraction (dCons (dVar 2) dNil)))) (dRaise0 3) dSkip) (dSeq (dDrop (dCall F_need_number (dCons (dVar 3) (dCons (dC (.int 1)) (dCons (dC (.int 100)) dNil))))) (dRet (dFz (dLc (dOpA rng2 (dCons (dC (.int 1)) (dCons (d2 oAdd (dBor 3) (dC (.int 1))) dNil))) [4] (gN 4) (d2 eqD (dCall F_chance_by (dCons (dVar 0) (dCons (dVar 4) (dCons (dVar 1) dNil)))) (dBor 2)) lp_fitting_1)))))
def F_fitting : DL.Fn := mkF 4 5 b_fitting
def lp_sums_to_1 : DS := dAsg 1 (dCall F_added (dCons (dVar 1) (dCons (dTup (dCons (dC (.int 1)) (dCons (dVar 2) dNil))) dNil)))
def b_sums_to : DS := dSeq (dAsg 1 (dC (.tup [(.int 0), (.int 1)]))) (dSeq (dFor (dOpA rng2 (dCons (dC (.int 1)) (dCons (d2 oAdd (dBor 0) (dC (.int 1))) dNil))) (gN 2) lp_sums_to_1) (dRet (dVar 1)))
def F_sums_to : DL.Fn := mkF 1 3 b_sums_to
def lp_best_first_1 : DS := dSeq (dAsg 1 (d2 oAdd (dBor 1) (dC (.int 1)))) (dAsg 2 (dCall F_less (dCons (dVar 2) (dCons (dTup (dCons (dC (.int 1)) (dCons (dVar 1) dNil))) dNil))))
def b_best_first : DS := dSeq (dDrop (dCall F_need_number (dCons (dVar 0) (dCons (dC (.int 1)) (dCons (dC (.int 300)) dNil))))) (dSeq (dPar 1 2 (dCons (dC (.int 0)) (dCons (dCall F_less (dCons (dCall F_sums_to (dCons (d2 oSub (dBor 0) (dC (.int 1))) dNil)) (dCons (dTup (dCons (dC (.int 1)) (dCons (dC (.int 1)) dNil))) dNil))) dNil))) (dSeq (dWhile (dT (dCall F_is_less (dCons (dC (.tup [(.int 0), (.int 1)])) (dCons (dVar 2) dNil)))) lp_best_first_1 fuel) (dRet (dVar 1))))
def F_best_first : DL.Fn := mkF 1 3 b_best_first
def lp_turning_1 : DS := dSeq (dAsg 2 (dCall F_less (dCons (dVar 2) (dCons (dTup (dCons (dC (.int 1)) (dCons (d2 oSub (dBor 1) (dC (.int 1))) dNil))) dNil)))) (dAsg 1 (d2 oAdd (dBor 1) (dC (.int 1))))
def b_turning : DS := dSeq (dDrop (dCall F_need_count (dCons (dVar 0) (dCons (dC (.int 0)) (dCons (dC (.int 100)) dNil))))) (dSeq (dPar 1 2 (dCons (d2 oAdd (dBor 0) (dC (.int 1))) (dCons (dTup (dCons (dC (.int 1)) (dCons (dC (.int 1)) dNil))) dNil))) (dSeq (dWhile (dAnd (d2 oGt (dBor 0) (dC (.int 0))) (dNot (dT (dCall F_is_less (dCons (dVar 2) (dCons (dC (.tup [(.int 0), (.int 1)])) dNil)))))) lp_turning_1 fuel) (dRet (dIf (d2 oGt (dBor 0) (dC (.int 0))) (d2 oSub (dBor 1) (dC (.int 1))) (dC (.int 1))))))
def F_turning : DL.Fn := mkF 1 3 b_turning
def b__law_taken : DS := dSeq (dIfS (d2 oGt (dIx (dBor 0) (dC (.int 3))) (dC (.int 0))) (dSeq (dAsg 3 (d2 oMod (dCB oInt (dCons (dIx (dBor 0) (dC (.int 3))) dNil)) (dBor 1))) (dSeq (dSetM (d2 oDiv (dIx (dBor 0) (dC (.int 3))) (dBor 1)) (dBor 0) (dC (.int 3))) (dRet (dVar 3)))) dSkip) (dSeq (dSetM (d2 oAdd (dIx (dBor 0) (dC (.int 1))) (dC (.int 1))) (dBor 0) (dC (.int 1))) (dSeq (dIfS (d2 oGt (dIx (dBor 0) (dC (.int 1))) (dCB oLen (dCons (dIx (dBor 0) (dC (.int 0))) dNil))) (dSeq (dSetM (d2 oMod (dCB oInt (dCons (d2 oAdd (d2 oMulI (dIx (dBor 0) (dC (.int 2))) (dC (.int 48271))) (dC (.int 11))) dNil)) (dC (.int 2147483647))) (dBor 0) (dC (.int 2))) (dRet (d2 oMod (dCB oInt (dCons (d2 oDiv (dIx (dBor 0) (dC (.int 2))) (dC (.int 7))) dNil)) (dBor 1)))) dSkip) (dSeq (dAsg 2 (dIx (dIx (dBor 0) (dC (.int 0))) (d2 oSub (dIx (dBor 0) (dC (.int 1))) (dC (.int 1))))) (dSeq (dSetM (d2 oMod (dCB oInt (dCons (d2 oAdd (d2 oAdd (d2 oMulI (dIx (dBor 0) (dC (.int 2))) (dC (.int 48271))) (dBor 2)) (dC (.int 11))) dNil)) (dC (.int 2147483647))) (dBor 0) (dC (.int 2))) (dSeq (dIfS (d2 oGe (dBor 2) (d2 oPow (dC (.int 10)) (dC (.int 18)))) (dSetM (d2 oDiv (dBor 2) (dBor 1)) (dBor 0) (dC (.int 3))) dSkip) (dRet (d2 oMod (dCB oInt (dCons (dBor 2) dNil)) (dBor 1))))))))
def F__law_taken : DL.Fn := mkF 2 4 b__law_taken
def b__law_drawn : DS := dSeq (dOwnD 1 ["first", "second"] (dArgs [dIx (dFz (dLst (dCons (dC (.int 0)) (dCons (dC (.int 1)) (dCons (dC (.int 2)) (dCons (dC (.int 3)) (dCons (dC (.int 5)) (dCons (dC (.int 8)) dNil)))))))) (dCall F__law_taken (dCons (dVar 0) (dCons (dC (.int 6)) dNil))), dC .non])) (dSeq (dIfS (d2 eqD (dCall F__law_taken (dCons (dVar 0) (dCons (dC (.int 2)) dNil))) (dC (.int 0))) (dPutO 1 "second" (d2 oAdd (dCB oMax (dCons (dC (.int 1)) (dCons (d2 oGet (dBor 1) (dC (.str "first"))) dNil))) (dCall F__law_taken (dCons (dVar 0) (dCons (dC (.int 4)) dNil))))) dSkip) (dSeq (dPutO 1 "share" (dIx (dFz (dLst (dCons (dTup (dCons (dC (.int 1)) (dCons (dC (.int 1)) dNil))) (dCons (dTup (dCons (dC (.int 1)) (dCons (dC (.int 1)) dNil))) (dCons (dTup (dCons (dC (.int 1)) (dCons (dC (.int 2)) dNil))) (dCons (dTup (dCons (dC (.int 2)) (dCons (dC (.int 3)) dNil))) (dCons (dTup (dCons (dC (.int 8)) (dCons (dC (.int 9)) dNil))) (dCons (dTup (dCons (dC (.int 1)) (dCons (dC (.int 9)) dNil))) dNil)))))))) (dCall F__law_taken (dCons (dVar 0) (dCons (dC (.int 6)) dNil))))) (dRetO 1)))
def F__law_drawn : DL.Fn := mkF 1 2 b__law_drawn
def b__law_made : DS := dRet (dRule F_Rule (dCons (d2 oGet (dBor 0) (dC (.str "first"))) (dCons (d2 oGet (dBor 0) (dC (.str "second"))) (dCons (d2 oGet (dBor 0) (dC (.str "share"))) dNil))))
def F__law_made : DL.Fn := mkF 1 1 b__law_made
def b__law_wants : DS := dSeq (dAsg 2 (dFz (dIf (d2 oGt (dBor 1) (d2 oGet (dBor 0) (dC (.str "first")))) (dLst (dCons (dC (.int 1)) dNil)) (dLst dNil)))) (dRet (dIf (dAnd (d2 oNotN (d2 oGet (dBor 0) (dC (.str "second"))) (dC .non)) (d2 oGt (dBor 1) (d2 oGet (dBor 0) (dC (.str "second"))))) (dFz (d2 oCat (dBor 2) (dFz (dLst (dCons (dC (.int 2)) dNil))))) (dVar 2)))
def F__law_wants : DL.Fn := mkF 2 3 b__law_wants
def lp__law_frac_1 : DS := dPar 3 4 (dCons (dVar 4) (dCons (d2 oMod (dBor 3) (dBor 4)) dNil))
def b__law_frac : DS := dSeq (dPar 3 4 (dCons (dCB oAbs (dCons (dBor 0) dNil)) (dCons (dCB oAbs (dCons (dBor 1) dNil)) dNil))) (dSeq (dWhile (d2 oGt (dBor 4) (dC (.int 0))) lp__law_frac_1 fuel) (dSeq (dAsg 2 (dIf (d2 oGt (dBor 1) (dC (.int 0))) (dC (.int 1)) (d2 oSub (dC (.int 0)) (dC (.int 1))))) (dRet (dTup (dCons (d2 oDiv (d2 oMulI (dBor 2) (dBor 0)) (dBor 3)) (dCons (d2 oDiv (d2 oMulI (dBor 2) (dBor 1)) (dBor 3)) dNil))))))
def F__law_frac : DL.Fn := mkF 2 5 b__law_frac
def b__law_sum : DS := dRet (dCall F__law_frac (dCons (d2 oAdd (d2 oMulI (dIx (dBor 0) (dC (.int 0))) (dIx (dBor 1) (dC (.int 1)))) (d2 oMulI (dIx (dBor 1) (dC (.int 0))) (dIx (dBor 0) (dC (.int 1))))) (dCons (d2 oMulI (dIx (dBor 0) (dC (.int 1))) (dIx (dBor 1) (dC (.int 1)))) dNil)))
def F__law_sum : DL.Fn := mkF 2 2 b__law_sum
def b__law_times : DS := dRet (dCall F__law_frac (dCons (d2 oMulI (dIx (dBor 0) (dC (.int 0))) (dIx (dBor 1) (dC (.int 0)))) (dCons (d2 oMulI (dIx (dBor 0) (dC (.int 1))) (dIx (dBor 1) (dC (.int 1)))) dNil)))
def F__law_times : DL.Fn := mkF 2 2 b__law_times
def lp__law_total_1 : DS := dAsg 1 (dCall F__law_sum (dCons (dVar 1) (dCons (dVar 2) dNil)))
def b__law_total : DS := dSeq (dAsg 1 (dTup (dCons (dC (.int 0)) (dCons (dC (.int 1)) dNil)))) (dSeq (dFor (dSq (dVar 0)) (gN 2) lp__law_total_1) (dRet (dVar 1)))
def F__law_total : DL.Fn := mkF 1 3 b__law_total
def lp__law_free_1 : DS := dSeq (dAsg 4 (dCall F__law_times (dCons (d2 oGet (dBor 0) (dC (.str "share"))) (dCons (dTup (dCons (dCB oLen (dCons (dCall F__law_wants (dCons (dVar 0) (dCons (dVar 3) dNil))) dNil)) (dCons (dVar 3) dNil))) dNil)))) (dApp 2 (dCons (dCall F__law_times (dCons (dIx (dBor 2) (d1 oNeg (dC (.int 1)))) (dCons (dTup (dCons (d2 oSub (dIx (dBor 4) (dC (.int 1))) (dIx (dBor 4) (dC (.int 0)))) (dCons (dIx (dBor 4) (dC (.int 1))) dNil))) dNil))) dNil))
def b__law_free : DS := dSeq (dOwn 2 (dLst (dCons (dTup (dCons (dC (.int 1)) (dCons (dC (.int 1)) dNil))) dNil))) (dSeq (dFor (dOpA rng2 (dCons (dC (.int 1)) (dCons (d2 oAdd (dBor 1) (dC (.int 1))) dNil))) (gN 3) lp__law_free_1) (dRetO 2))
def F__law_free : DL.Fn := mkF 2 5 b__law_free
def lp__law_ends_1 : DE := dTup (dCons (dCB oInt (dCons (dB (d2 oLe (dBor 4) (dBor 1))) dNil)) (dCons (dC (.int 1)) dNil))
def lp__law_ends_3 : DS := dSeq (dAsg 7 (dCall F__law_times (dCons (dTup (dCons (dVar 4) (dCons (d2 oAdd (dBor 3) (dC (.int 1))) dNil))) (dCons (dIx (dBor 5) (dBor 4)) dNil)))) (dApp 6 (dCons (dCall F__law_sum (dCons (dVar 7) (dCons (dCall F__law_times (dCons (dTup (dCons (d2 oSub (d2 oAdd (dBor 3) (dC (.int 1))) (dBor 4)) (dCons (d2 oAdd (dBor 3) (dC (.int 1))) dNil))) (dCons (dIx (dBor 5) (d2 oSub (dBor 4) (dC (.int 1)))) dNil))) dNil))) dNil))
def lp__law_ends_2 : DS := dSeq (dParG 5 6 (dIx (dBor 2) (dC (.int 0))) (dLst dNil)) (dSeq (dFor (dOpA rng2 (dCons (dC (.int 1)) (dCons (d2 oAdd (dBor 3) (dC (.int 1))) dNil))) (gN 4) lp__law_ends_3) (dFrz 6 (dAsg 2 (dFz (d2 oCat (dFz (dLst (dCons (dVar 6) dNil))) (dBor 2))))))
def b__law_ends : DS := dSeq (dAsg 2 (dFz (dLst (dCons (dFz (dLc (dOpA rng2 (dCons (dC (.int 1)) (dCons (d2 oAdd (dBor 0) (dC (.int 1))) dNil))) [4] (gN 4) tfT lp__law_ends_1)) dNil)))) (dSeq (dFor (dOpA rng3 (dCons (d2 oSub (dBor 0) (dC (.int 1))) (dCons (dC (.int 0)) (dCons (d1 oNeg (dC (.int 1))) dNil)))) (gN 3) lp__law_ends_2) (dRet (dVar 2)))
def F__law_ends : DL.Fn := mkF 2 8 b__law_ends
def lp__law_chance_2 : DE := dIx (dIx (dBor 5) (d2 oSub (dBor 3) (dC (.int 1)))) (d2 oSub (dBor 9) (dC (.int 1)))
def lp__law_chance_1 : DS := dSeq (dAsg 7 (dCall F__law_total (dCons (dFz (dLc (dSq (dCall F__law_wants (dCons (dVar 0) (dCons (dVar 3) dNil)))) [9] (gN 9) tfT lp__law_chance_2)) dNil))) (dSeq (dAsg 8 (dCall F__law_times (dCons (dCall F__law_times (dCons (d2 oGet (dBor 0) (dC (.str "share"))) (dCons (dTup (dCons (dC (.int 1)) (dCons (dVar 3) dNil))) dNil))) (dCons (dVar 7) dNil)))) (dAsg 6 (dCall F__law_sum (dCons (dVar 6) (dCons (dCall F__law_times (dCons (dIx (dBor 4) (d2 oSub (dBor 3) (dC (.int 1)))) (dCons (dVar 8) dNil))) dNil)))))
def b__law_chance : DS := dSeq (dAsgT (gT3 4 5 6) (dTup (dCons (dCall F__law_free (dCons (dVar 0) (dCons (dVar 1) dNil))) (dCons (dCall F__law_ends (dCons (dVar 1) (dCons (dVar 2) dNil))) (dCons (dTup (dCons (dC (.int 0)) (dCons (dC (.int 1)) dNil))) dNil))))) (dSeq (dFor (dOpA rng2 (dCons (dC (.int 1)) (dCons (d2 oAdd (dBor 1) (dC (.int 1))) dNil))) (gN 3) lp__law_chance_1) (dRet (dVar 6)))
def F__law_chance : DL.Fn := mkF 3 10 b__law_chance
def b__law_drawn_Y : DSY := dSeqY (dOwnD 1 ["first", "second"] (dArgs [dIx (dFz (dLst (dCons (dC (.int 0)) (dCons (dC (.int 1)) (dCons (dC (.int 2)) (dCons (dC (.int 3)) (dCons (dC (.int 5)) (dCons (dC (.int 8)) dNil)))))))) (dCall F__law_taken (dCons (dVar 0) (dCons (dC (.int 6)) dNil))), dC .non])) (dSeqY (dIfS (d2 eqD (dCall F__law_taken (dCons (dVar 0) (dCons (dC (.int 2)) dNil))) (dC (.int 0))) (dPutO 1 "second" (d2 oAdd (dCB oMax (dCons (dC (.int 1)) (dCons (d2 oGet (dBor 1) (dC (.str "first"))) dNil))) (dCall F__law_taken (dCons (dVar 0) (dCons (dC (.int 4)) dNil))))) dSkip) (dSeqY (dPutO 1 "share" (dIx (dFz (dLst (dCons (dTup (dCons (dC (.int 1)) (dCons (dC (.int 1)) dNil))) (dCons (dTup (dCons (dC (.int 1)) (dCons (dC (.int 1)) dNil))) (dCons (dTup (dCons (dC (.int 1)) (dCons (dC (.int 2)) dNil))) (dCons (dTup (dCons (dC (.int 2)) (dCons (dC (.int 3)) dNil))) (dCons (dTup (dCons (dC (.int 8)) (dCons (dC (.int 9)) dNil))) (dCons (dTup (dCons (dC (.int 1)) (dCons (dC (.int 9)) dNil))) dNil)))))))) (dCall F__law_taken (dCons (dVar 0) (dCons (dC (.int 6)) dNil))))) (dRetY 1)))
def F__law_drawn_Y : FnY := mkY 1 2 b__law_drawn_Y
def b_told_of : DS := dRet (dTup (dCons (d1 (rulF "begun") (dBor 0)) (dCons (d1 (rulF "later") (dBor 0)) (dCons (d1 (rulF "part") (dBor 0)) dNil))))
def F_told_of : DL.Fn := mkF 1 1 b_told_of
def b_Rule_eq : DS := dRet (dAndV (d1 oIsRD (dBor 1)) (dB (d2 eqD (dCall F_told_of (dCons (dVar 0) dNil)) (dCall F_told_of (dCons (dVar 1) dNil)))))
def F_Rule_eq : DL.Fn := mkF 2 2 b_Rule_eq
def b_Rule_start : DS := dRet (dCB oMax (dCons (dFz (dLst (dCons (dC (.int 2)) (dCons (d2 oAdd (d1 (rulF "begun") (dBor 0)) (dC (.int 1))) (dCons (dIf (d2 oIsN (d1 (rulF "later") (dBor 0)) (dC .non)) (dC (.int 0)) (d2 oAdd (d1 (rulF "later") (dBor 0)) (dC (.int 1)))) dNil))))) dNil))
def F_Rule_start : DL.Fn := mkF 1 1 b_Rule_start
def b__law_start : DS := dRet (dCB oMax3 (dCons (dC (.int 2)) (dCons (d2 oAdd (d2 oGet (dBor 0) (dC (.str "first"))) (dC (.int 1))) (dCons (dIf (d2 oIsN (d2 oGet (dBor 0) (dC (.str "second"))) (dC .non)) (dC (.int 0)) (d2 oAdd (d2 oGet (dBor 0) (dC (.str "second"))) (dC (.int 1)))) dNil))))
def F__law_start : DL.Fn := mkF 1 1 b__law_start
def b__law_refused : DS := dSeq (dAsg 1 (dC .non)) (dSeq (dTry (dX (dCall F__law_made (dCons (dVar 0) dNil))) [⟨mEx erS 0, some 2, dAsg 1 (dXf 2 0 "name")⟩]) (dRet (dVar 1)))
def F__law_refused : DL.Fn := mkF 1 3 b__law_refused
def b__law_mark : DS := dRet (dAndV (d1 (oIsi "int") (dBor 0)) (dAndV (dNotV (d1 (oIsi "bool") (dBor 0))) (dAndV (dB (d2 oLe (dBor 1) (dBor 0))) (dB (d2 oLe (dBor 0) (dC (.int 20)))))))
def F__law_mark : DL.Fn := mkF 2 2 b__law_mark
def lp__law_wrong_3 : DE := dVar 5
def lp__law_wrong_2 : DE := dTup (dCons (dVar 4) (dCons (dVar 1) dNil))
def lp__law_wrong_1 : DS := dAsg 3 (dFz (d2 oCat (dBor 3) (dFz (dLc (dOpA rng2 (dCons (dC (.int 1)) (dCons (dVar 1) dNil))) [4] (gN 4) (d2 eqD (dCB oLen (dCons (dFz (dLc (dOpA rng2 (dCons (dC (.int 2)) (dCons (dVar 1) dNil))) [5] (gN 5) (d2 eqD (d2 oAdd (d2 oMod (dBor 4) (dBor 5)) (d2 oMod (dBor 1) (dBor 5))) (dC (.int 0))) lp__law_wrong_3)) dNil)) (dC (.int 0))) lp__law_wrong_2))))
def b__law_wrong : DS := dSeq (dIfS (dNot (dT (dCall F__law_mark (dCons (d2 oGet (dBor 0) (dC (.str "first"))) (dCons (dC (.int 0)) dNil))))) (dRet (dC (.str "first"))) dSkip) (dSeq (dIfS (dAnd (d2 oNotN (d2 oGet (dBor 0) (dC (.str "second"))) (dC .non)) (dNot (dT (dCall F__law_mark (dCons (d2 oGet (dBor 0) (dC (.str "second"))) (dCons (dCB oMax (dCons (dC (.int 1)) (dCons (d2 oGet (dBor 0) (dC (.str "first"))) dNil))) dNil)))))) (dRet (dC (.str "second"))) dSkip) (dSeq (dPar 2 3 (dCons (d2 oGet (dBor 0) (dC (.str "share"))) (dCons (dFz (dLst (dCons (dTup (dCons (dC (.int 1)) (dCons (dC (.int 1)) dNil))) dNil))) dNil))) (dSeq (dFor (dOpA rng2 (dCons (dC (.int 2)) (dCons (dC (.int 10)) dNil))) (gN 1) lp__law_wrong_1) (dSeq (dIfS (dOr (dNot (dT (d1 (oIsi "tuple") (dBor 2)))) (d2 oNotIn (dBor 2) (dBor 3))) (dRet (dC (.str "share"))) dSkip) (dRet (dIf (dOr (dT (d1 (oIsi "bool") (dIx (dBor 2) (dC (.int 0))))) (dT (d1 (oIsi "bool") (dIx (dBor 2) (dC (.int 1)))))) (dC (.str "share")) (dC .non)))))))
def F__law_wrong : DL.Fn := mkF 1 6 b__law_wrong
def b_Rule_share : DS := dRet (d1 (rulF "part") (dBor 0))
def F_Rule_share : DL.Fn := mkF 1 1 b_Rule_share
def b_Rule_first : DS := dRet (d1 (rulF "begun") (dBor 0))
def F_Rule_first : DL.Fn := mkF 1 1 b_Rule_first
def b_Rule_second : DS := dRet (d1 (rulF "later") (dBor 0))
def F_Rule_second : DL.Fn := mkF 1 1 b_Rule_second
def lp_law_2 : DS := dSeq (dAsg 8 (dIx (dFz (dLst (dCons (dC (.str "first")) (dCons (dC (.str "second")) (dCons (dC (.str "share")) dNil))))) (dCall F__law_taken (dCons (dVar 1) (dCons (dC (.int 3)) dNil))))) (dPutK 4 (dVar 8) (dIx (dBor 2) (dCall F__law_taken (dCons (dVar 1) (dCons (dCB oLen (dCons (dBor 2) dNil)) dNil)))))
def lp_law_1 : DS := dSeq (dOwnY 4 (dCallY F__law_drawn_Y (dCons (dVar 1) dNil))) (dSeq (dAsg 5 (dLend 4 (dCall F__law_made (dCons (dVar 4) dNil)))) (dSeq (dIfS (dOr (d2 neD (dFz (dLst (dCons (dPropR F_Rule_first (dBor 5)) (dCons (dPropR F_Rule_second (dBor 5)) dNil)))) (dFz (dLst (dCons (d2 oGet (dBor 4) (dC (.str "first"))) (dCons (d2 oGet (dBor 4) (dC (.str "second"))) dNil))))) (dOr (d2 neD (dPropR F_Rule_share (dBor 5)) (d2 oGet (dBor 4) (dC (.str "share")))) (dLendT 4 (d2 eqRD (dBor 5) (dVar 4))))) (dRet (dC (.bl false))) dSkip) (dSeq (dIfS (d2 neD (dPropR F_Rule_start (dBor 5)) (dLend 4 (dCall F__law_start (dCons (dVar 4) dNil)))) (dRet (dC (.bl false))) dSkip) (dSeq (dAsg 6 (dIf (d2 eqD (dCall F__law_taken (dCons (dVar 1) (dCons (dC (.int 2)) dNil))) (dC (.int 0))) (dCall F__law_drawn (dCons (dVar 1) dNil)) (dCB oDictD (dCons (dBor 4) dNil)))) (dSeq (dIfS (d2 neD (dB (d2 eqRD (dCall F__law_made (dCons (dVar 6) dNil)) (dVar 5))) (dB (d2 eqDc (dBor 6) (dBor 4)))) (dRet (dC (.bl false))) dSkip) (dSeq (dFor (dOpA rng1 (dCons (d2 oAdd (dC (.int 1)) (dCall F__law_taken (dCons (dVar 1) (dCons (dC (.int 2)) dNil)))) dNil)) (gN 7) lp_law_2) (dIfS (d2 neD (dLend 4 (dCall F__law_refused (dCons (dVar 4) dNil))) (dLend 4 (dCall F__law_wrong (dCons (dVar 4) dNil)))) (dRet (dC (.bl false))) dSkip)))))))
def b_law : DS := dSeq (dAsg 1 (dMk (dLst (dCons (dVar 0) (dCons (dC (.int 0)) (dCons (dC (.int 241)) (dCons (dC (.int 0)) dNil))))))) (dSeq (dAsg 2 (dFz (dLst (dCons (dC (.int 0)) (dCons (dC (.int 1)) (dCons (dC (.int 2)) (dCons (dC (.int 8)) (dCons (dC (.int 20)) (dCons (dC (.int 21)) (dCons (d1 oNeg (dC (.int 1))) (dCons (dC .non) (dCons (dC (.bl true)) (dCons (dC (.str "1")) (dCons (dTup (dCons (dC (.int 1)) (dCons (dC (.int 1)) dNil))) (dCons (dTup (dCons (dC (.int 1)) (dCons (dC (.int 2)) dNil))) (dCons (dTup (dCons (dC (.int 2)) (dCons (dC (.int 4)) dNil))) (dCons (dTup (dCons (dC (.int 3)) (dCons (dC (.int 2)) dNil))) (dCons (dTup (dCons (dC (.int 0)) (dCons (dC (.int 1)) dNil))) (dCons (dTup (dCons (dC (.int 1)) (dCons (dC (.int 10)) dNil))) dNil))))))))))))))))))) (dSeq (dAsg 2 (dFz (d2 oCat (dBor 2) (dFz (dLst (dCons (dTup (dCons (dC (.int 1)) (dCons (dC (.int 0)) dNil))) (dCons (dFz (dLst (dCons (dC (.int 1)) (dCons (dC (.int 2)) dNil)))) (dCons (dTup (dCons (dC (.bl true)) (dCons (dC (.int 2)) dNil))) dNil)))))))) (dSeq (dFor (dOpA rng1 (dCons (dC (.int 8)) dNil)) (gN 3) lp_law_1) (dRet (dC (.bl true))))))
def F_law : DL.Fn := mkF 1 9 b_law
end W

/-! The fractions: what common, fraction, added .. make. -/
namespace W
open PySem L2 DL

theorem log_lt {n k : Nat} (hk : 0 < k) (h : n < 2 ^ k) : n.log2 < k := by
  by_cases h0 : n = 0
  · subst h0
    simpa using hk
  · exact (Nat.log2_lt h0).mpr h
abbrev Bd (k : Nat) (x : Int) : Prop := x.natAbs < 2 ^ k
theorem mul_ok {i j : Int} (hi : Bd 8000 i) (hj : Bd 8000 j) : mulOk i j = true := decide_eq_true (by
  have := log_lt (by decide) hi
  have := log_lt (by decide) hj
  omega)
theorem div_ok {i j : Int} (h : 0 < j) (hj : Bd 8000 j) : divOk i j = true := decide_eq_true ⟨h, by
  have := log_lt (by decide) hj
  omega⟩
theorem bd_nat {k n : Nat} (h : n < 2 ^ k) : Bd k (n : Int) := by show (n : Int).natAbs < _; rw [Int.natAbs_natCast]; exact h
def tCom : DT := d2 oGt (dBor 1) (dC (.int 0))
def bCom : DS := lp_common_1
theorem com_step {n : Nat} {a b : Nat} {g : Gl} (hb : 0 < b) (ha : a < 2 ^ 8000) (hb2 : b < 2 ^ 8000) : dWhile tCom bCom (n + 1) [.sh (.int a), .sh (.int b)] g = dWhile tCom bCom n [.sh (.int b), .sh (.int (a % b : Nat))] g := by
  have h1 : divOk (a : Int) (b : Int) = true := div_ok (by omega) (bd_nat hb2)
  have h2 : mulOk ((a : Int) / (b : Int)) (b : Int) = true := mul_ok (by
    have : ((a : Int) / (b : Int)) = ((a / b : Nat) : Int) := by simp
    rw [this]
    exact bd_nat (Nat.lt_of_le_of_lt (Nat.div_le_self a b) ha)) (bd_nat hb2)
  have e : (a : Int) - (a : Int) / (b : Int) * (b : Int) = ((a % b : Nat) : Int) := by
    have := Int.emod_def (a : Int) (b : Int)
    rw [Int.natCast_emod, this, Int.mul_comm]
  have h3 : decide ((0 : Int) < (b : Int)) = true := decide_eq_true (by omega)
  simp only [tCom, bCom, lp_common_1, EV1, EV2, EV3, EV4, h1, h2, h3, e, if_pos]
theorem com_end {n : Nat} {a : Nat} {g : Gl} : dWhile tCom bCom (n + 1) [.sh (.int a), .sh (.int (0 : Nat))] g = .ok (.nx [.sh (.int a), .sh (.int (0 : Nat))]) g := by
  have h3 : decide ((0 : Int) < ((0 : Nat) : Int)) = false := by decide
  simp only [tCom, EV1, EV2, EV3, EV4, h3]
  rfl
theorem com_go {g : Gl} : ∀ (k a b n : Nat), b < 2 ^ k → a < 2 ^ 8000 → b < 2 ^ 8000 → 2 * k + 1 ≤ n → dWhile tCom bCom n [.sh (.int a), .sh (.int b)] g = .ok (.nx [.sh (.int (Nat.gcd a b)), .sh (.int (0 : Nat))]) g
  | 0, a, b, n, h, ha, hb, hn => by
    have e : b = 0 := by omega
    subst e
    obtain ⟨m, rfl⟩ : ∃ m, n = m + 1 := ⟨n - 1, by omega⟩
    rw [com_end, Nat.gcd_zero_right]
  | k + 1, a, b, n, h, ha, hb, hn => by
    by_cases h0 : b = 0
    · subst h0
      obtain ⟨m, rfl⟩ : ∃ m, n = m + 1 := ⟨n - 1, by omega⟩
      rw [com_end, Nat.gcd_zero_right]
    · obtain ⟨m, rfl⟩ : ∃ m, n = m + 2 := ⟨n - 2, by omega⟩
      have hr : a % b < b := Nat.mod_lt _ (by omega)
      rw [com_step (n := m + 1) (by omega) ha hb]
      by_cases h1 : a % b = 0
      · rw [h1, com_end, Nat.gcd_comm a b, Nat.gcd_rec b a, h1, Nat.gcd_zero_left]
      · rw [com_step (n := m) (by omega) hb (by omega), com_go k (a % b) (b % (a % b)) m (by
          have h2 : b % (a % b) < a % b := Nat.mod_lt _ (by omega)
          have h3 := Nat.mod_add_div b (a % b)
          have h4 : 1 ≤ b / (a % b) := (Nat.one_le_div_iff (by omega)).mpr (by omega)
          have h5 : a % b ≤ (a % b) * (b / (a % b)) := Nat.le_mul_of_pos_right _ (by omega)
          have h6 : 2 ^ (k + 1) = 2 * 2 ^ k := by rw [Nat.pow_succ, Nat.mul_comm]
          omega) (by omega) (Nat.lt_trans (Nat.mod_lt _ (by omega)) (by omega)) (by omega)]
        congr 4
        rw [Nat.gcd_comm a b, Nat.gcd_rec b a, Nat.gcd_comm (a % b) (b % (a % b)), ← Nat.gcd_rec (a % b) b]
theorem common_ev {a b : Int} {g : Gl} (ha : Bd 8000 a) (hb : Bd 8000 b) : F_common [.int a, .int b] g = .ok (.int (Int.gcd a b)) g := by
  have e : dWhile tCom bCom fuel [.sh (.int a.natAbs), .sh (.int b.natAbs)] g = _ := com_go 8000 a.natAbs b.natAbs fuel hb ha hb (by decide)
  have e' : ∀ ds, dWhile (d2 oGt (dBor 1) (dC (.int 0))) lp_common_1 fuel ds g = dWhile tCom bCom fuel ds g := fun _ => rfl
  simp only [F_common, b_common, EV1, EV2, EV3, EV4, Nat.sub_self, e', e]
  rfl
/-! ### fractions -/
abbrev fr (q : Rat) : Dat := .tup [.int q.num, .int q.den]
theorem bd_mono {j k : Nat} {x : Int} (h : Bd j x) (hk : j ≤ k) : Bd k x := Nat.lt_of_lt_of_le h (Nat.pow_le_pow_right (by decide) hk)
theorem bd_mul {j k : Nat} {x y : Int} (h : Bd j x) (h2 : Bd k y) : Bd (j + k) (x * y) := by
  show (x * y).natAbs < _
  rw [Int.natAbs_mul, Nat.pow_add]
  exact Nat.mul_lt_mul'' h h2
theorem bd_add {k : Nat} {x y : Int} (h : Bd k x) (h2 : Bd k y) : Bd (k + 1) (x + y) := by
  show (x + y).natAbs < 2 ^ (k + 1)
  have h5 : (x + y).natAbs ≤ x.natAbs + y.natAbs := Int.natAbs_add_le x y
  have h6 : 2 ^ (k + 1) = 2 * 2 ^ k := by rw [Nat.pow_succ, Nat.mul_comm]
  have h3' : x.natAbs < 2 ^ k := h
  have h4' : y.natAbs < 2 ^ k := h2
  omega
theorem bd_neg {j : Nat} {x : Int} (h : Bd j x) : Bd j (-x) := by
  show (-x).natAbs < _
  rw [Int.natAbs_neg]
  exact h
theorem bd_gcd {j : Nat} {x y : Int} (h : Bd j y) (h0 : y ≠ 0) : Bd j (Int.gcd x y) := by
  have h1 : Int.gcd x y ≤ y.natAbs := Nat.le_of_dvd (by omega) (Nat.gcd_dvd_right _ _)
  exact bd_nat (Nat.lt_of_le_of_lt h1 h)
theorem fr_of {a b : Int} (hb : 0 < b) : fr (Rat.divInt a b) = .tup [.int (a / (Int.gcd a b)), .int (b / (Int.gcd a b))] := by
  show Dat.tup [.int (Rat.divInt a b).num, .int (Rat.divInt a b).den] = _
  rw [Rat.num_divInt, Rat.den_divInt, if_neg (by omega), Int.sign_eq_one_of_pos hb, Int.one_mul, Int.gcd_comm]
  congr 4
  have : (b.natAbs : Int) = b := by omega
  rw [Int.natCast_ediv, this]
theorem fraction_ev {a b : Int} {g : Gl} (h0 : b ≠ 0) (ha : Bd 8000 a) (hb : Bd 8000 b) : F_fraction [.int a, .int b] g = .ok (fr (Rat.divInt a b)) g := by
  have pos : ∀ x y : Int, 0 < y → Bd 8000 x → Bd 8000 y → F_common [.int x, .int y] g = .ok (.int (Int.gcd x y)) g ∧ divOk x (Int.gcd x y) = true ∧ divOk y (Int.gcd x y) = true := fun x y hy hx hb => by
    have h1 : Bd 8000 (Int.gcd x y) := bd_gcd hb (by omega)
    have h2 : (0 : Int) < Int.gcd x y := by
      have := Int.gcd_pos_of_ne_zero_right x (show y ≠ 0 by omega)
      omega
    exact ⟨common_ev hx hb, div_ok h2 h1, div_ok h2 h1⟩
  by_cases hb0 : b < 0
  · obtain ⟨p1, p2, p3⟩ := pos (-a) (-b) (by omega) (bd_neg ha) (bd_neg hb)
    have h3 : decide (b < 0) = true := decide_eq_true hb0
    simp only [F_fraction, b_fraction, EV1, EV2, EV3, EV4, Nat.reduceSub, h3, if_pos, p1, p2, p3, few, Nat.reduceAdd, Nat.reduceLeDiff]
    rw [← Rat.neg_divInt_neg, fr_of (by omega)]
  · obtain ⟨p1, p2, p3⟩ := pos a b (by omega) ha hb
    have h3 : decide (b < 0) = false := decide_eq_false hb0
    simp only [F_fraction, b_fraction, EV1, EV2, EV3, EV4, Nat.reduceSub, h3, p1, p2, p3, few, Nat.reduceAdd, Nat.reduceLeDiff, Bool.false_eq_true, if_false]
    rw [fr_of (by omega)]
def Sz (q : Rat) : Prop := Bd 3000 q.num ∧ Bd 3000 (q.den : Int)
theorem Sz.den {q : Rat} : (q.den : Int) ≠ 0 := by have := q.den_pos; omega
theorem sz_mul {x y : Int} (h : Bd 3000 x) (h2 : Bd 3000 y) : mulOk x y = true ∧ Bd 6000 (x * y) := ⟨mul_ok (bd_mono h (by decide)) (bd_mono h2 (by decide)), bd_mul h h2⟩
theorem den_mul {p q : Rat} : (p.den : Int) * (q.den : Int) ≠ 0 := Int.mul_ne_zero Sz.den Sz.den
theorem add_rat (p q : Rat) : Rat.divInt (p.num * q.den + q.num * p.den) (p.den * q.den) = p + q := by
  rw [← Rat.divInt_add_divInt _ _ Sz.den Sz.den, Rat.num_divInt_den, Rat.num_divInt_den]
theorem sub_rat (p q : Rat) : Rat.divInt (p.num * q.den - q.num * p.den) (p.den * q.den) = p - q := by
  rw [← Rat.divInt_sub_divInt _ _ Sz.den Sz.den, Rat.num_divInt_den, Rat.num_divInt_den]
theorem mul_rat (p q : Rat) : Rat.divInt (p.num * q.num) (p.den * q.den) = p * q := by
  rw [← Rat.divInt_mul_divInt, Rat.num_divInt_den, Rat.num_divInt_den]
theorem added_ev {p q : Rat} {g : Gl} (hp : Sz p) (hq : Sz q) : F_added [fr p, fr q] g = .ok (fr (p + q)) g := by
  obtain ⟨m1, b1⟩ := sz_mul hp.1 hq.2
  obtain ⟨m2, b2⟩ := sz_mul hq.1 hp.2
  obtain ⟨m3, b3⟩ := sz_mul hp.2 hq.2
  have e := fraction_ev (g := g) (den_mul (p := p) (q := q)) (bd_mono (bd_add b1 b2) (by decide)) (bd_mono b3 (by decide))
  rw [add_rat] at e
  simp only [F_added, b_added, EV1, EV2, EV3, EV4, EV5, Nat.reduceSub, m1, m2, m3, e, few, Nat.reduceAdd, Nat.reduceLeDiff]
theorem less_ev {p q : Rat} {g : Gl} (hp : Sz p) (hq : Sz q) : F_less [fr p, fr q] g = .ok (fr (p - q)) g := by
  obtain ⟨m1, b1⟩ := sz_mul hp.1 hq.2
  obtain ⟨m2, b2⟩ := sz_mul hq.1 hp.2
  obtain ⟨m3, b3⟩ := sz_mul hp.2 hq.2
  have e := fraction_ev (g := g) (den_mul (p := p) (q := q)) (bd_mono (bd_add b1 (bd_neg b2)) (by decide)) (bd_mono b3 (by decide))
  rw [← Int.sub_eq_add_neg, sub_rat] at e
  simp only [F_less, b_less, EV1, EV2, EV3, EV4, EV5, Nat.reduceSub, m1, m2, m3, e, few, Nat.reduceAdd, Nat.reduceLeDiff]
theorem product_ev {p q : Rat} {g : Gl} (hp : Sz p) (hq : Sz q) : F_product [fr p, fr q] g = .ok (fr (p * q)) g := by
  obtain ⟨m1, b1⟩ := sz_mul hp.1 hq.1
  obtain ⟨m3, b3⟩ := sz_mul hp.2 hq.2
  have e := fraction_ev (g := g) (den_mul (p := p) (q := q)) (bd_mono b1 (by decide)) (bd_mono b3 (by decide))
  rw [mul_rat] at e
  simp only [F_product, b_product, EV1, EV2, EV3, EV4, EV5, Nat.reduceSub, m1, m3, e, few, Nat.reduceAdd, Nat.reduceLeDiff]
theorem product_gen {a b c d : Int} {g : Gl} (ha : Bd 3000 a) (hb : Bd 3000 b) (hc : Bd 3000 c) (hd : Bd 3000 d) (b0 : b ≠ 0) (d0 : d ≠ 0) : F_product [.tup [.int a, .int b], .tup [.int c, .int d]] g = .ok (fr (Rat.divInt a b * Rat.divInt c d)) g := by
  obtain ⟨m1, b1⟩ := sz_mul ha hc
  obtain ⟨m3, b3⟩ := sz_mul hb hd
  have e := fraction_ev (g := g) (Int.mul_ne_zero b0 d0) (bd_mono b1 (by decide)) (bd_mono b3 (by decide))
  rw [← Rat.divInt_mul_divInt] at e
  simp only [F_product, b_product, EV1, EV2, EV3, EV4, EV5, Nat.reduceSub, m1, m3, e, few, Nat.reduceAdd, Nat.reduceLeDiff]
theorem product_by {p : Rat} {c d : Nat} {g : Gl} (hp : Sz p) (hc : c < 2 ^ 3000) (hd : d < 2 ^ 3000) (d0 : 0 < d) : F_product [fr p, .tup [.int c, .int d]] g = .ok (fr (p * ((c : Rat) / (d : Rat)))) g := by
  rw [product_gen hp.1 hp.2 (bd_nat hc) (bd_nat hd) Sz.den (by omega), Rat.num_divInt_den, Rat.divInt_eq_div]
  rfl
theorem is_less_ev {p q : Rat} {g : Gl} (hp : Sz p) (hq : Sz q) : F_is_less [fr p, fr q] g = .ok (.bl (decide (p < q))) g := by
  obtain ⟨m1, b1⟩ := sz_mul hp.1 hq.2
  obtain ⟨m2, b2⟩ := sz_mul hq.1 hp.2
  have e : decide (p.num * (q.den : Int) < q.num * (p.den : Int)) = decide (p < q) := decide_eq_decide.mpr (Rat.lt_iff p q).symm
  simp only [F_is_less, b_is_less, EV1, EV2, EV3, EV4, EV5, Nat.reduceSub, m1, m2, e]
end W

/-! Sizes of fractions; binomials. -/
namespace W
open PySem L2 DL

/-- q's parts are among D -/
def Dv (D : Nat) (q : Rat) : Prop := ∃ z : Int, q * (D : Rat) = (z : Rat)
theorem Dv.int (z : Int) : Dv 1 (z : Rat) := ⟨z, by grind⟩
theorem Dv.add {D : Nat} {p q : Rat} (h : Dv D p) (h2 : Dv D q) : Dv D (p + q) := by
  obtain ⟨a, ha⟩ := h
  obtain ⟨b, hb⟩ := h2
  exact ⟨a + b, by rw [Rat.intCast_add]; grind⟩
theorem Dv.sub {D : Nat} {p q : Rat} (h : Dv D p) (h2 : Dv D q) : Dv D (p - q) := by
  obtain ⟨a, ha⟩ := h
  obtain ⟨b, hb⟩ := h2
  exact ⟨a - b, by rw [Rat.intCast_sub]; grind⟩
theorem Dv.mul {D E : Nat} {p q : Rat} (h : Dv D p) (h2 : Dv E q) : Dv (D * E) (p * q) := by
  obtain ⟨a, ha⟩ := h
  obtain ⟨b, hb⟩ := h2
  exact ⟨a * b, by rw [Rat.intCast_mul, Rat.natCast_mul]; grind⟩
theorem Dv.mono {D E : Nat} {p : Rat} (h : Dv D p) (h2 : D ∣ E) : Dv E p := by
  obtain ⟨a, ha⟩ := h
  obtain ⟨c, rfl⟩ := h2
  exact ⟨a * c, by rw [Rat.intCast_mul, Rat.natCast_mul, Rat.intCast_natCast]; grind⟩
theorem Dv.of {q : Rat} : Dv q.den q := ⟨q.num, by
  have h : (q.den : Rat) ≠ 0 := by
    have := q.den_pos
    exact fun z => by
      have := Rat.natCast_eq_zero_iff.mp z
      omega
  have e : q = (q.num : Rat) / (q.den : Rat) := by
    have := Rat.num_divInt_den q
    rw [Rat.divInt_eq_div] at this
    exact this.symm
  grind⟩
theorem Dv.div {D : Nat} {a : Int} (h : 0 < D) : Dv D ((a : Rat) / (D : Rat)) := ⟨a, by
  have : (D : Rat) ≠ 0 := fun z => by
    have := Rat.natCast_eq_zero_iff.mp z
    omega
  grind⟩
/-- the parts of q are at most D -/
theorem Dv.den {D : Nat} {q : Rat} (h : Dv D q) (hD : 0 < D) : q.den ∣ D := by
  obtain ⟨z, hz⟩ := h
  have h0 : (D : Rat) ≠ 0 := fun e => by
    have := Rat.natCast_eq_zero_iff.mp e
    omega
  have e : q = Rat.divInt z D := by
    rw [Rat.divInt_eq_div]
    show q = (z : Rat) / ((D : Int) : Rat)
    rw [Rat.intCast_natCast]
    grind
  rw [e, Rat.den_divInt, if_neg (by omega), Int.natAbs_natCast]
  exact Nat.div_dvd_of_dvd (Int.gcd_dvd_natAbs_left _ _)
theorem nat_ne {n : Nat} (h : 0 < n) : (n : Rat) ≠ 0 := fun z => by
  have := Rat.natCast_eq_zero_iff.mp z
  omega
theorem num_eq (q : Rat) : (q.num : Rat) = q * (q.den : Rat) := by
  have h := nat_ne q.den_pos
  have := Rat.num_divInt_den q
  rw [Rat.divInt_eq_div] at this
  have e : (q.num : Rat) / (q.den : Rat) = q := this
  grind
theorem sz_of {D B : Nat} {q : Rat} (h : Dv D q) (hD : 0 < D) (h1 : -(B : Rat) ≤ q) (h2 : q ≤ (B : Rat)) (hs : D * B < 2 ^ 3000) (hd : D < 2 ^ 3000) : Sz q := by
  have hq : q.den ≤ D := Nat.le_of_dvd hD (h.den hD)
  have hp : (0 : Rat) ≤ (q.den : Rat) := Rat.natCast_nonneg
  have e := num_eq q
  have u1 : (q.num : Rat) ≤ ((B * q.den : Nat) : Int) := by
    rw [Rat.intCast_natCast, Rat.natCast_mul, e]
    exact Rat.mul_le_mul_of_nonneg_right h2 hp
  have u2 : (((-(B * q.den : Nat) : Int)) : Rat) ≤ (q.num : Rat) := by
    rw [Rat.intCast_neg, Rat.intCast_natCast, Rat.natCast_mul, e, ← Rat.neg_mul]
    exact Rat.mul_le_mul_of_nonneg_right h1 hp
  have v1 := Rat.intCast_le_intCast.mp u1
  have v2 := Rat.intCast_le_intCast.mp u2
  have hb : B * q.den ≤ D * B := by rw [Nat.mul_comm D B]; exact Nat.mul_le_mul_left B hq
  exact ⟨by show q.num.natAbs < _; omega, bd_nat (Nat.lt_of_le_of_lt hq hd)⟩

/-! ### binomials -/
def cho : Nat → Nat → Nat
  | _, 0 => 1
  | 0, _ + 1 => 0
  | n + 1, k + 1 => cho n k + cho n (k + 1)
theorem cho_zero (n : Nat) : cho n 0 = 1 := by cases n <;> rfl
theorem cho_succ (n k : Nat) : cho (n + 1) (k + 1) = cho n k + cho n (k + 1) := rfl
theorem cho_mul : ∀ n k : Nat, (k + 1) * cho n (k + 1) + k * cho n k = n * cho n k
  | 0, 0 => by rfl
  | 0, k + 1 => by simp [cho]
  | n + 1, 0 => by
    have h := cho_mul n 0
    rw [cho_succ, cho_zero, cho_zero] at *
    omega
  | n + 1, k + 1 => by
    have h1 := cho_mul n k
    have h2 := cho_mul n (k + 1)
    rw [cho_succ, cho_succ]
    generalize cho n k = a at *
    generalize cho n (k + 1) = b at *
    generalize cho n (k + 1 + 1) = c at *
    grind
theorem cho_mulI (n k : Nat) : (cho n k : Int) * ((n : Int) - k) = (cho n (k + 1) : Int) * ((k : Int) + 1) := by
  have h : (((k + 1) * cho n (k + 1) + k * cho n k : Nat) : Int) = ((n * cho n k : Nat) : Int) := congrArg _ (cho_mul n k)
  simp only [Int.natCast_add, Int.natCast_mul] at h
  grind
theorem cho_big : ∀ {n k : Nat}, n < k → cho n k = 0
  | 0, k + 1, _ => rfl
  | n + 1, k + 1, h => by rw [cho_succ, cho_big (by omega), cho_big (by omega)]
theorem cho_pos : ∀ {n k : Nat}, k ≤ n → 0 < cho n k
  | n, 0, _ => by rw [cho_zero]; decide
  | n + 1, k + 1, h => by
    rw [cho_succ]
    have := cho_pos (n := n) (k := k) (by omega)
    omega
theorem cho_le : ∀ n k : Nat, cho n k ≤ 2 ^ n
  | 0, 0 => by decide
  | 0, k + 1 => by show 0 ≤ _; omega
  | n + 1, 0 => by rw [cho_zero]; exact Nat.one_le_two_pow
  | n + 1, k + 1 => by
    rw [cho_succ, Nat.pow_succ]
    have := cho_le n k
    have := cho_le n (k + 1)
    omega
def fac : Nat → Nat
  | 0 => 1
  | n + 1 => fac n * (n + 1)
theorem fac_pos : ∀ n : Nat, 0 < fac n
  | 0 => by decide
  | n + 1 => Nat.mul_pos (fac_pos n) (by omega)
theorem cho_fac : ∀ n k m : Nat, n = k + m → cho n k * (fac k * fac m) = fac n
  | n, 0, m, h => by
    have e : m = n := by omega
    subst e
    rw [cho_zero]
    show 1 * (1 * fac m) = _
    omega
  | n, k + 1, 0, h => by
    subst h
    have h1 := cho_fac (k + 0) k 0 rfl
    have e : cho (k + 1 + 0) (k + 1) = cho k k + cho k (k + 1) := rfl
    rw [e, cho_big (show k < k + 1 by omega)]
    rw [Nat.add_zero] at *
    show (cho k k + 0) * (fac k * (k + 1) * 1) = fac k * (k + 1)
    have h2 : cho k k * (fac k * 1) = fac k := h1
    generalize fac k = f at *
    generalize cho k k = c at *
    grind
  | n, k + 1, m + 1, h => by
    subst h
    have h1 := cho_fac (k + (m + 1)) k (m + 1) rfl
    have h2 := cho_fac (k + 1 + m) (k + 1) m rfl
    have e : cho (k + 1 + (m + 1)) (k + 1) = cho (k + (m + 1)) k + cho (k + (m + 1)) (k + 1) := by
      rw [show k + 1 + (m + 1) = k + (m + 1) + 1 by omega]; rfl
    have e2 : k + 1 + m = k + (m + 1) := by omega
    rw [e2] at h2
    rw [e, show k + 1 + (m + 1) = (k + (m + 1)) + 1 by omega]
    show (_ + _) * (fac k * (k + 1) * (fac m * (m + 1))) = fac (k + (m + 1)) * (k + (m + 1) + 1)
    have h1' : cho (k + (m + 1)) k * (fac k * (fac m * (m + 1))) = fac (k + (m + 1)) := h1
    have h2' : cho (k + (m + 1)) (k + 1) * (fac k * (k + 1) * fac m) = fac (k + (m + 1)) := h2
    generalize fac (k + (m + 1)) = f at *
    generalize cho (k + (m + 1)) k = a at *
    generalize cho (k + (m + 1)) (k + 1) = b at *
    generalize fac k = x at *
    generalize fac m = y at *
    grind
theorem cho_dvd {n k : Nat} (h : k ≤ n) : cho n k ∣ fac n := ⟨_, (cho_fac n k (n - k) (by omega)).symm⟩
end W

/-! What the defs of the steps make. -/
namespace W
open PySem L2 DL

def sD : Option Nat → Dat
  | none => .non
  | some s => .int (s : Int)
abbrev rl (f : Nat) (s : Option Nat) (p : Rat) : Dat := .rul (.int f) (sD s) (fr p)
def lateW (s : Option Nat) (i : Nat) : Bool := match s with
  | none => false
  | some s => decide (s < i)
def wl (f : Nat) (s : Option Nat) (i : Nat) : List Nat := (if f < i then [1] else []) ++ (if lateW s i = true then [2] else [])
theorem wanted_ev {f i : Nat} {s : Option Nat} {p : Rat} {g : Gl} : F_wanted [rl f s p, .int i] g = .ok (.lst ((wl f s i).map fun k : Nat => .int k)) g := by
  have e1 : decide ((f : Int) < (i : Int)) = decide (f < i) := decide_eq_decide.mpr Int.ofNat_lt
  have hw : wl f s i = (if decide (f < i) = true then [1] else []) ++ (if lateW s i = true then [2] else []) := by
    unfold wl
    simp only [decide_eq_true_eq]
  rw [hw]
  cases s with
  | none =>
    cases hc : decide (f < i) <;>
      simp only [F_wanted, b_wanted, sD, lateW, EV1, EV2, EV3, EV4, ev_app, e1, hc, few, Nat.reduceAdd, Nat.reduceSub, Nat.reduceLeDiff, Nat.reduceLT, Bool.false_eq_true, if_true, if_false, Bool.not_true, Bool.not_false] <;> rfl
  | some s =>
    have e2 : decide ((s : Int) < (i : Int)) = decide (s < i) := decide_eq_decide.mpr Int.ofNat_lt
    cases hc : decide (f < i) <;> cases hd : decide (s < i) <;>
      simp only [F_wanted, b_wanted, sD, lateW, EV1, EV2, EV3, EV4, ev_app, e1, e2, hc, hd, few, Nat.reduceAdd, Nat.reduceSub, Nat.reduceLeDiff, Nat.reduceLT, Bool.false_eq_true, if_true, if_false, Bool.not_true, Bool.not_false] <;> rfl
theorem wl_le {f i : Nat} {s : Option Nat} (hi : 1 ≤ i) (hs : ∀ k, s = some k → 1 ≤ k) : (wl f s i).length ≤ i := by
  unfold wl lateW
  cases s with
  | none => simp only [List.length_append]; split <;> simp <;> omega
  | some k =>
    have := hs k rfl
    simp only [List.length_append, decide_eq_true_eq]
    split <;> split <;> simp <;> omega
/-! ### binomials -/
theorem rng1_ev {j : Int} (h : -100000 ≤ j ∧ j ≤ 100000) : rng1 [.int j] = some (rngL 0 j.toNat) := if_pos h
theorem rng2_ev {i j : Int} (h : (-100000 ≤ i ∧ i ≤ 100000) ∧ -100000 ≤ j ∧ j ≤ 100000) : rng2 [.int i, .int j] = some (rngL i (j - i).toNat) := if_pos h
theorem choices_ev {n k : Nat} {g : Gl} (hn : n ≤ 1000) (hk : k ≤ 1000) : F_choices [.int n, .int k] g = .ok (.int (cho n k)) g := by
  have bd : ∀ m, Bd 1001 (cho n m : Int) := fun m => bd_nat (Nat.lt_of_le_of_lt (cho_le n m) (Nat.pow_lt_pow_right (by decide) (by omega)))
  obtain ⟨ds', g', e, x, rfl, rfl⟩ := for_range (i := 3) (b := lp_choices_1) (lo := 0) (n := k) (ds := [.sh (.int n), .sh (.int k), .sh (.int 1), .unset]) (g := g)
    (fun m ds g' => ∃ x, ds = [.sh (.int n), .sh (.int k), .sh (.int (cho n m)), x] ∧ g' = g) (fun m ds g' hm ⟨x, e1, e2⟩ => by
      subst e1
      subst e2
      have b1 : Bd 1001 ((n : Int) - (0 + (m : Int))) := by
        show ((n : Int) - (0 + (m : Int))).natAbs < _
        refine Nat.lt_of_lt_of_le (m := 2 ^ 11) (by omega) (Nat.pow_le_pow_right (by decide) (by decide))
      have h1 : mulOk (cho n m) ((n : Int) - (0 + (m : Int))) = true := mul_ok (bd_mono (bd m) (by decide)) (bd_mono b1 (by decide))
      have h2 : divOk ((cho n m : Int) * ((n : Int) - (0 + (m : Int)))) (0 + (m : Int) + 1) = true := div_ok (by omega) (by
        show (0 + (m : Int) + 1).natAbs < _
        refine Nat.lt_of_lt_of_le (m := 2 ^ 11) (by omega) (Nat.pow_le_pow_right (by decide) (by decide)))
      have h3 : (cho n m : Int) * ((n : Int) - (0 + (m : Int))) / (0 + (m : Int) + 1) = (cho n (m + 1) : Int) := by
        rw [Int.zero_add, cho_mulI]
        exact Int.mul_ediv_cancel _ (by omega)
      refine ⟨_, _, ?_, .sh (.int (0 + (m : Int))), rfl, rfl⟩
      simp only [lp_choices_1, EV1, EV2, EV3, EV4, h1, h2, h3]) ⟨.unset, by rw [cho_zero]; rfl, rfl⟩
  have hr := rng1_ev (j := (k : Int)) (by omega)
  rw [Int.toNat_natCast] at hr
  by_cases hkn : k ≤ n
  · have e1 : decide ((0 : Int) ≤ (k : Int)) = true := decide_eq_true (by omega)
    have e2 : decide ((k : Int) ≤ (n : Int)) = true := decide_eq_true (by omega)
    simp only [F_choices, b_choices, EV1, EV2, EV3, EV4, Nat.reduceSub, hr, e, e1, e2, if_true]
  · have e1 : decide ((0 : Int) ≤ (k : Int)) = true := decide_eq_true (by omega)
    have e2 : decide ((k : Int) ≤ (n : Int)) = false := decide_eq_false (by omega)
    simp only [F_choices, b_choices, EV1, EV2, EV3, EV4, Nat.reduceSub, hr, e, e1, e2, if_true, Bool.false_eq_true, if_false]
    rw [cho_big (by omega)]
    rfl
/-! ### sums -/
theorem total_ev {l : List Rat} {g : Gl} (h1 : ∀ q ∈ l, Sz q) (h2 : ∀ k, Sz (l.take k).sum) : F_total [.lst (l.map fr)] g = .ok (fr l.sum) g := by
  obtain ⟨ds', g', e, x, rfl, rfl⟩ := for_map (i := 2) (b := lp_total_1) (f := fr) (l := l) (ds := [.sh (.lst (l.map fr)), .sh (fr 0), .unset]) (g := g)
    (fun m ds g' => ∃ x, ds = [.sh (.lst (l.map fr)), .sh (fr (l.take m).sum), x] ∧ g' = g) (fun m a ds g' hm ⟨x, e1, e2⟩ => by
      subst e1
      subst e2
      have ha : a ∈ l := List.mem_of_getElem? hm
      have es : (l.take (m + 1)).sum = (l.take m).sum + a := by
        rw [List.take_succ, hm, List.sum_append]
        show _ + (a + 0) = _
        rw [Rat.add_zero]
      have := added_ev (g := g') (h2 m) (h1 a ha)
      rw [← es] at this
      refine ⟨_, _, ?_, .sh (fr a), rfl, rfl⟩
      simp only [lp_total_1, EV1, EV2, EV3, EV4, this]) ⟨.unset, rfl, rfl⟩
  rw [List.take_length] at e
  have e' : forGo (gN 2) lp_total_1 (l.map fr) [.sh (.lst (l.map fr)), .sh (.tup [.int 0, .int 1]), .unset] g' = _ := e
  simp only [F_total, b_total, EV1, EV2, EV3, EV4, Nat.reduceSub, e']
/-! ### how like it is that none is taken -/
def fq (p : Rat) (w : Nat → Nat) (low : Nat) : Nat → Rat
  | 0 => 1
  | k + 1 => fq p w low k * (1 - p * ((w (low + k + 1) : Rat) / ((low + k + 1 : Nat) : Rat)))
def dn (d low : Nat) : Nat → Nat
  | 0 => 1
  | k + 1 => dn d low k * (d * (low + k + 1))
theorem dn_pos {d low : Nat} (hd : 0 < d) : ∀ k, 0 < dn d low k
  | 0 => Nat.one_pos
  | k + 1 => Nat.mul_pos (dn_pos hd k) (Nat.mul_pos hd (by omega))
theorem dn_le {d low N : Nat} (hd : d ≤ 9) : ∀ k, low + k ≤ N → dn d low k ≤ (9 * N) ^ k
  | 0, _ => by simp [dn]
  | k + 1, h => by
    show dn d low k * (d * (low + k + 1)) ≤ _
    rw [Nat.pow_succ]
    exact Nat.mul_le_mul (dn_le hd k (by omega)) (Nat.mul_le_mul hd (by omega))
theorem big900 : ∀ k, k ≤ 100 → 900 ^ k < 2 ^ 1000 := fun k h => Nat.lt_of_le_of_lt (Nat.pow_le_pow_right (by decide) h) (by decide +kernel)
/-- p's parts are d, p lies between 0 and 1 -/
structure Pr (p : Rat) : Prop where
  den : p.den ≤ 9
  nn : 0 ≤ p
  le : p ≤ 1
theorem Dv.one : Dv 1 1 := ⟨1, by grind⟩
theorem wi_dv {p : Rat} {i w : Nat} (hi : 0 < i) : Dv (p.den * i) (p * ((w : Rat) / (i : Rat))) := by
  refine Dv.of.mul ?_
  have := Dv.div (D := i) (a := (w : Int)) hi
  rw [Rat.intCast_natCast] at this
  exact this
theorem wi_le {i w : Nat} (hi : 0 < i) (hw : w ≤ i) : 0 ≤ (w : Rat) / (i : Rat) ∧ (w : Rat) / (i : Rat) ≤ 1 := by
  have h1 : (0 : Rat) < (i : Rat) := Rat.natCast_pos.mpr hi
  have h2 : (0 : Rat) ≤ (w : Rat) := Rat.natCast_nonneg
  have h3 : (w : Rat) ≤ (i : Rat) := Rat.natCast_le_natCast.mpr hw
  have h4 : (0 : Rat) ≤ (i : Rat)⁻¹ := Rat.le_of_lt (Rat.inv_pos.mpr h1)
  refine ⟨?_, ?_⟩
  · rw [Rat.div_def]
    exact Rat.mul_nonneg h2 h4
  · have h5 := Rat.mul_le_mul_of_nonneg_right h3 h4
    have h6 := nat_ne hi
    rw [Rat.div_def]
    grind
theorem unit_mul {a b : Rat} (a0 : 0 ≤ a) (a1 : a ≤ 1) (b0 : 0 ≤ b) (b1 : b ≤ 1) : 0 ≤ a * b ∧ a * b ≤ 1 := by
  have h := Rat.mul_le_mul_of_nonneg_left b1 a0
  rw [Rat.mul_one] at h
  exact ⟨Rat.mul_nonneg a0 b0, by grind⟩
theorem unit_not {a : Rat} (h : 0 ≤ a ∧ a ≤ 1) : 0 ≤ 1 - a ∧ 1 - a ≤ 1 := by grind
theorem fq_dv {p : Rat} {w : Nat → Nat} {low : Nat} : ∀ k, Dv (dn p.den low k) (fq p w low k)
  | 0 => Dv.one
  | k + 1 => (fq_dv k).mul ((Dv.one.mono (Nat.one_dvd _)).sub (wi_dv (by omega)))
theorem fq_unit {p : Rat} {w : Nat → Nat} {low : Nat} (hp : Pr p) (hw : ∀ i, 1 ≤ i → w i ≤ i) : ∀ k, 0 ≤ fq p w low k ∧ fq p w low k ≤ 1
  | 0 => by show (0 : Rat) ≤ 1 ∧ (1 : Rat) ≤ 1; decide
  | k + 1 => by
    obtain ⟨h1, h2⟩ := fq_unit (p := p) (w := w) (low := low) hp hw k
    obtain ⟨h3, h4⟩ := wi_le (i := low + k + 1) (w := w (low + k + 1)) (by omega) (hw _ (by omega))
    obtain ⟨h5, h6⟩ := unit_not (unit_mul hp.nn hp.le h3 h4)
    exact unit_mul h1 h2 h5 h6
theorem unit_sz {D : Nat} {q : Rat} (h : Dv D q) (hD : 0 < D) (hu : 0 ≤ q ∧ q ≤ 1) (hs : D < 2 ^ 3000) : Sz q := sz_of (B := 1) h hD (by grind) (by grind) (by omega) hs
theorem two_le : (2 : Nat) ^ 1000 ≤ 2 ^ 3000 := Nat.pow_le_pow_right (by decide) (by decide)
theorem fq_sz {p : Rat} {w : Nat → Nat} {low k : Nat} (hp : Pr p) (hw : ∀ i, 1 ≤ i → w i ≤ i) (hk : low + k ≤ 100) : Sz (fq p w low k) :=
  unit_sz (fq_dv k) (dn_pos p.den_pos k) (fq_unit hp hw k) (Nat.lt_of_le_of_lt (dn_le hp.den k hk) (Nat.lt_of_lt_of_le (big900 k (by omega)) two_le))
theorem small {n : Nat} (h : n < 2 ^ 1000) : n < 2 ^ 3000 := Nat.lt_of_lt_of_le h two_le
theorem smaller {n : Nat} (h : n ≤ 1000) : n < 2 ^ 3000 := Nat.lt_of_lt_of_le (m := 2 ^ 11) (by omega) (Nat.pow_le_pow_right (by decide) (by decide))
theorem Pr.sz {p : Rat} (hp : Pr p) : Sz p := unit_sz Dv.of p.den_pos ⟨hp.nn, hp.le⟩ (smaller (by have := hp.den; omega))
theorem one_sz : Sz 1 := unit_sz Dv.one (by decide) (by decide) (smaller (by decide))
theorem still_free_ev {f : Nat} {s : Option Nat} {p : Rat} {low n : Nat} {g : Gl} (hp : Pr p) (hs : ∀ k, s = some k → 1 ≤ k) (hl : low ≤ n) (hn : n ≤ 100) :
    F_still_free [rl f s p, .int low, .int n] g = .ok (.lst ((List.range (n - low + 1)).map fun k => fr (fq p (fun i => (wl f s i).length) low k))) g := by
  have hw : ∀ i, 1 ≤ i → (fun i => (wl f s i).length) i ≤ i := fun i hi => wl_le hi hs
  generalize hF : (fun k => fr (fq p (fun i => (wl f s i).length) low k)) = F
  obtain ⟨ds', g', e, x, y, rfl, rfl⟩ := for_range (i := 4) (b := lp_still_free_1)
    (lo := (low : Int) + 1) (n := n - low) (ds := [.sh (rl f s p), .sh (.int low), .sh (.int n), .own [fr 1], .unset, .unset]) (g := g)
    (fun m ds g' => ∃ x y, ds = [.sh (rl f s p), .sh (.int low), .sh (.int n), .own ((List.range (m + 1)).map F), x, y] ∧ g' = g) (fun m ds g' hm ⟨x, y, e1, e2⟩ => by
      subst e1
      subst e2
      have ei : (low : Int) + 1 + (m : Int) = ((low + m + 1 : Nat) : Int) := by omega
      have e1 : (List.range (m + 1)).map F = (List.range m).map F ++ [F m] := by rw [List.range_succ, List.map_append]; rfl
      have e2 : (List.range (m + 1 + 1)).map F = (List.range (m + 1)).map F ++ [F (m + 1)] := by rw [List.range_succ, List.map_append]; rfl
      have hlen : ((List.range m).map F ++ [F m]).length < 100000 := by rw [List.length_append, List.length_map, List.length_range, List.length_singleton]; omega
      have w1 := wanted_ev (f := f) (s := s) (p := p) (i := low + m + 1) (g := g')
      have p1 := product_by (p := p) (c := (wl f s (low + m + 1)).length) (d := low + m + 1) (g := g') hp.sz (smaller (by have := wl_le (f := f) (i := low + m + 1) (by omega) hs; omega)) (smaller (by omega)) (by omega)
      have hx := wi_le (i := low + m + 1) (w := (wl f s (low + m + 1)).length) (by omega) (hw _ (by omega))
      have hu := unit_mul hp.nn hp.le hx.1 hx.2
      have hd : p.den * (low + m + 1) ≤ 9 * 100 := Nat.mul_le_mul hp.den (by omega)
      have sz1 : Sz (p * (((wl f s (low + m + 1)).length : Rat) / ((low + m + 1 : Nat) : Rat))) := unit_sz (wi_dv (by omega)) (Nat.mul_pos p.den_pos (by omega)) hu (smaller (by omega))
      have l1 := less_ev (g := g') one_sz sz1
      have sz2 : Sz (1 - p * (((wl f s (low + m + 1)).length : Rat) / ((low + m + 1 : Nat) : Rat))) := unit_sz ((Dv.one.mono (Nat.one_dvd _)).sub (wi_dv (by omega))) (Nat.mul_pos p.den_pos (by omega)) (unit_not hu) (smaller (by omega))
      have p2 : F_product [F m, fr (1 - p * (((wl f s (low + m + 1)).length : Rat) / ((low + m + 1 : Nat) : Rat)))] g' = .ok (F (m + 1)) g' := by
        rw [← hF]
        exact product_ev (fq_sz hp hw (by omega)) sz2
      refine ⟨_, _, ?_, .sh (.int ((low : Int) + 1 + (m : Int))), .sh (fr (p * (((wl f s (low + m + 1)).length : Rat) / ((low + m + 1 : Nat) : Rat)))), rfl, rfl⟩
      have l1' : F_less [.tup [.int 1, .int 1], fr (p * (((wl f s (low + m + 1)).length : Rat) / ((low + m + 1 : Nat) : Rat)))] g' = _ := l1
      rw [e2]
      simp only [lp_still_free_1, EV1, EV2, EV3, EV4, EV5, ev_app, ei, e1, w1, List.length_map, p1, p2, l1', hlen, few, Nat.reduceAdd, Nat.reduceLeDiff]) ⟨.unset, .unset, by rw [← hF]; rfl, rfl⟩
  have hr := rng2_ev (i := (low : Int) + 1) (j := (n : Int) + 1) (by omega)
  rw [show ((n : Int) + 1 - ((low : Int) + 1)).toNat = n - low by omega] at hr
  have e' : forGo (gN 4) _ (rngL ((low : Int) + 1) (n - low)) [.sh (rl f s p), .sh (.int low), .sh (.int n), .own [.tup [.int 1, .int 1]], .unset, .unset] g' = _ := e
  simp only [F_still_free, b_still_free, EV1, EV2, EV3, EV4, hr, e', few, Nat.reduceAdd, Nat.reduceSub, Nat.reduceLeDiff]
end W

/-! The chance. -/
namespace W
open PySem L2 DL

theorem intsD_map : ∀ l : List Int, intsD (l.map Dat.int) = some l
  | [] => rfl
  | a :: l => by
    show (match intsD (l.map Dat.int) with
      | some r => some (a :: r)
      | none => none) = _
    rw [intsD_map l]
theorem sum_cast : ∀ l : List Nat, (l.map fun k : Nat => (k : Int)).sum = (l.sum : Int)
  | [] => rfl
  | a :: l => by
    rw [List.map_cons, List.sum_cons, List.sum_cons, sum_cast l, Int.natCast_add]
theorem oSum_nat {l : List Nat} {g : Gl} : oSum g [.lst (l.map fun k : Nat => .int k)] = some (.int (l.sum : Nat)) := by
  have e : (l.map fun k : Nat => Dat.int (k : Int)) = (l.map fun k : Nat => (k : Int)).map Dat.int := by rw [List.map_map]; rfl
  rw [e]
  show (match intsD ((l.map fun k : Nat => (k : Int)).map Dat.int) with
    | some ns => some (Dat.int ns.sum)
    | none => none) = _
  rw [intsD_map, ← sum_cast]
theorem sum_le {α : Type} {f : α → Nat} {B : Nat} : ∀ {l : List α}, (∀ a ∈ l, f a ≤ B) → (l.map f).sum ≤ l.length * B
  | [], _ => by simp
  | a :: l, h => by
    rw [List.map_cons, List.sum_cons, List.length_cons, Nat.succ_mul]
    have h1 := h a List.mem_cons_self
    have h2 := sum_le (l := l) fun x hx => h x (List.mem_cons_of_mem _ hx)
    omega
def eT (st i n r : Nat) : Nat := cho r (st - 1) * cho (n - (r + 1)) (i - st)
def eS (st i n j : Nat) : Nat := ((List.range (min j n)).map (eT st i n)).sum
def ends (st i n j : Nat) : Rat := (eS st i n j : Rat) / (cho n i : Rat)
theorem pow_split (a b : Nat) : 2 ^ a * 2 ^ b = 2 ^ (a + b) := (Nat.pow_add 2 a b).symm
theorem eT_le {st i n r : Nat} (hr : r ≤ 100) (hn : n ≤ 100) : eT st i n r ≤ 2 ^ 200 := by
  have h1 : cho r (st - 1) ≤ 2 ^ 100 := Nat.le_trans (cho_le _ _) (Nat.pow_le_pow_right (by decide) hr)
  have h2 : cho (n - (r + 1)) (i - st) ≤ 2 ^ 100 := Nat.le_trans (cho_le _ _) (Nat.pow_le_pow_right (by decide) (by omega))
  have h3 := Nat.mul_le_mul h1 h2
  rw [pow_split] at h3
  exact h3
theorem eS_le {st i n j : Nat} (hn : n ≤ 100) : eS st i n j ≤ 100 * 2 ^ 200 := by
  have h := sum_le (l := List.range (min j n)) (f := eT st i n) (B := 2 ^ 200) fun a ha => eT_le (by have := List.mem_range.mp ha; omega) hn
  rw [List.length_range] at h
  exact Nat.le_trans h (Nat.mul_le_mul_right _ (by omega))
theorem ends_ev {st i n j : Nat} {g : Gl} (h1 : 1 ≤ st) (h2 : st ≤ i) (h3 : i ≤ n) (hn : n ≤ 100) (hj1 : 1 ≤ j) (hj : j ≤ 100) : F_ends_within [.int st, .int i, .int n, .int j] g = .ok (fr (ends st i n j)) g := by
  have c1 := choices_ev (n := n) (k := i) (g := g) (by omega) (by omega)
  have hm : oMin g [.lst [.int j, .int n]] = some (.int (min j n : Nat)) := by
    show some (Dat.int (if (n : Int) < (j : Int) then (n : Int) else (j : Int))) = _
    congr 2
    split <;> omega
  have hr := rng2_ev (i := 1) (j := ((min j n : Nat) : Int) + 1) (by omega)
  rw [show (((min j n : Nat) : Int) + 1 - 1).toNat = min j n by omega] at hr
  have hl : (rngL 1 (min j n)).length ≤ few := by rw [rngL_len]; show _ ≤ 100000; omega
  have e : lcGo (gN 5) tfT lp_ends_within_1 [.sh (.int st), .sh (.int i), .sh (.int n), .sh (.int j), .unset, .unset]
      (rngL 1 (min j n)) g = _ := lc_range (f := fun r => .int (eT st i n r : Nat)) fun k hk => by
    have c2 := choices_ev (n := k) (k := st - 1) (g := g) (by omega) (by omega)
    have c3 := choices_ev (n := n - (k + 1)) (k := i - st) (g := g) (by omega) (by omega)
    rw [Int.natCast_sub (by omega)] at c2
    rw [Int.natCast_sub (by omega), Int.natCast_sub (by omega)] at c3
    have i1 : (1 : Int) + (k : Int) - 1 = (k : Int) := by omega
    have i2 : (n : Int) - (1 + (k : Int)) = (n : Int) - ((k + 1 : Nat) : Int) := by omega
    have i3 : ((1 : Nat) : Int) = 1 := rfl
    have bd : ∀ a b : Nat, a ≤ 1000 → Bd 1001 (cho a b : Int) := fun a b ha => bd_nat (Nat.lt_of_le_of_lt (cho_le a b) (Nat.pow_lt_pow_right (by decide) (by omega)))
    have m1 : mulOk (cho k (st - 1)) (cho (n - (k + 1)) (i - st)) = true := mul_ok (bd_mono (bd _ _ (by omega)) (by decide)) (bd_mono (bd _ _ (by omega)) (by decide))
    rw [i3] at c2
    simp only [lp_ends_within_1, EV1, EV2, EV3, EV4, i1, i2, c2, c3, m1]
    rw [← Int.natCast_mul]
    rfl
  have hS : oSum g [.lst ((List.range (min j n)).map fun r => Dat.int (eT st i n r : Nat))] = some (.int (eS st i n j : Nat)) := by
    have := oSum_nat (l := (List.range (min j n)).map (eT st i n)) (g := g)
    rw [List.map_map] at this
    exact this
  have hf := fraction_ev (a := (eS st i n j : Int)) (b := (cho n i : Int)) (g := g) (by have := cho_pos h3; omega) (bd_nat (Nat.lt_of_le_of_lt (eS_le hn) (Nat.lt_of_lt_of_le (m := 2 ^ 207) (by decide +kernel) (Nat.pow_le_pow_right (by decide) (by decide)))))
    (bd_nat (Nat.lt_of_le_of_lt (cho_le n i) (Nat.pow_lt_pow_right (by decide) (by omega))))
  rw [Rat.divInt_eq_div] at hf
  simp only [F_ends_within, b_ends_within, EV1, EV2, EV3, EV4, Nat.reduceSub, few, Nat.reduceAdd, Nat.reduceLeDiff, hm, hr, hl, dwipe, e, hS, c1, hf]
  rfl
theorem ends_dv {st i n j : Nat} (h : i ≤ n) : Dv (cho n i) (ends st i n j) := by
  have := Dv.div (D := cho n i) (a := (eS st i n j : Int)) (cho_pos h)
  rw [Rat.intCast_natCast] at this
  exact this
theorem div_nn {a b : Nat} : 0 ≤ (a : Rat) / (b : Rat) := by
  rw [Rat.div_def]
  by_cases h : b = 0
  · subst h
    have : ((0 : Nat) : Rat)⁻¹ = 0 := by simp
    rw [this, Rat.mul_zero]
    exact Rat.le_refl
  · exact Rat.mul_nonneg Rat.natCast_nonneg (Rat.le_of_lt (Rat.inv_pos.mpr (Rat.natCast_pos.mpr (by omega))))
theorem div_le {a b : Nat} (hb : 0 < b) : (a : Rat) / (b : Rat) ≤ (a : Rat) := by
  have h1 : (0 : Rat) < (b : Rat) := Rat.natCast_pos.mpr hb
  have h4 : (0 : Rat) ≤ (b : Rat)⁻¹ := Rat.le_of_lt (Rat.inv_pos.mpr h1)
  have h6 := nat_ne hb
  have h7 : (b : Rat)⁻¹ ≤ 1 := by
    have h5 : (1 : Rat) ≤ (b : Rat) := Rat.natCast_le_natCast (a := 1).mpr hb
    have := Rat.mul_le_mul_of_nonneg_right h5 h4
    grind
  have := Rat.mul_le_mul_of_nonneg_left h7 (Rat.natCast_nonneg (a := a))
  rw [Rat.div_def]
  grind
theorem ends_bd {st i n j : Nat} (h : i ≤ n) (hn : n ≤ 100) : 0 ≤ ends st i n j ∧ ends st i n j ≤ ((100 * 2 ^ 200 : Nat) : Rat) :=
  ⟨div_nn, Rat.le_trans (div_le (cho_pos h)) (Rat.natCast_le_natCast.mpr (eS_le hn))⟩
theorem sum_dv {D : Nat} : ∀ {l : List Rat}, (∀ q ∈ l, Dv D q) → Dv D l.sum
  | [], _ => (⟨0, by simp⟩ : Dv D 0)
  | a :: l, h => by
    rw [List.sum_cons]
    exact (h a List.mem_cons_self).add (sum_dv fun x hx => h x (List.mem_cons_of_mem _ hx))
theorem sum_bd {B : Nat} : ∀ {l : List Rat}, (∀ q ∈ l, 0 ≤ q ∧ q ≤ (B : Rat)) → 0 ≤ l.sum ∧ l.sum ≤ ((l.length * B : Nat) : Rat)
  | [], _ => by simp
  | a :: l, h => by
    rw [List.sum_cons, List.length_cons, Nat.succ_mul, Rat.natCast_add]
    obtain ⟨h1, h2⟩ := h a List.mem_cons_self
    obtain ⟨h3, h4⟩ := sum_bd (l := l) fun x hx => h x (List.mem_cons_of_mem _ hx)
    grind
/-! ### the chance -/
def eSum (f : Nat) (s : Option Nat) (i n j : Nat) : Rat := ((wl f s i).map fun st => ends st i n j).sum
def cT (f : Nat) (s : Option Nat) (p : Rat) (n j k : Nat) : Rat := fq p (fun i => (wl f s i).length) 0 k * (p * (((1 : Nat) : Rat) / ((k + 1 : Nat) : Rat)) * eSum f s (k + 1) n j)
def cq (f : Nat) (s : Option Nat) (p : Rat) (n j : Nat) : Nat → Rat
  | 0 => 0
  | m + 1 => cq f s p n j m + cT f s p n j m
theorem wl_mem {f i st : Nat} {s : Option Nat} (h : st ∈ wl f s i) (hi : 1 ≤ i) (hs : ∀ k, s = some k → 1 ≤ k) : 1 ≤ st ∧ st ≤ 2 ∧ st ≤ i := by
  unfold wl lateW at h
  rcases List.mem_append.mp h with h | h
  · split at h
    · have := List.mem_singleton.mp h
      omega
    · cases h
  · cases s with
    | none => cases h
    | some k =>
      have := hs k rfl
      simp only [decide_eq_true_eq] at h
      split at h
      · have := List.mem_singleton.mp h
        omega
      · cases h
theorem wl_two {f i : Nat} {s : Option Nat} : (wl f s i).length ≤ 2 := by
  unfold wl
  rw [List.length_append]
  split <;> split <;> decide
abbrev bE : Nat := 2 * (100 * 2 ^ 200)
theorem eSum_dv {f i n j : Nat} {s : Option Nat} (h : i ≤ n) : Dv (cho n i) (eSum f s i n j) := sum_dv fun q hq => by
  obtain ⟨st, _, rfl⟩ := List.mem_map.mp hq
  exact ends_dv h
theorem take_bd {l : List Rat} {B k : Nat} (h : ∀ q ∈ l, 0 ≤ q ∧ q ≤ (B : Rat)) (hl : l.length ≤ 2) : 0 ≤ (l.take k).sum ∧ (l.take k).sum ≤ ((2 * B : Nat) : Rat) := by
  obtain ⟨h1, h2⟩ := sum_bd (l := l.take k) (B := B) fun x hx => h x (List.mem_of_mem_take hx)
  refine ⟨h1, Rat.le_trans h2 (Rat.natCast_le_natCast.mpr (Nat.mul_le_mul_right _ ?_))⟩
  rw [List.length_take]
  omega
theorem eSum_bd {f i n j : Nat} {s : Option Nat} (h : i ≤ n) (hn : n ≤ 100) : 0 ≤ eSum f s i n j ∧ eSum f s i n j ≤ (bE : Rat) := by
  have := take_bd (l := (wl f s i).map fun st => ends st i n j) (k := 2) (fun q hq => by
    obtain ⟨st, _, rfl⟩ := List.mem_map.mp hq
    exact ends_bd h hn) (by rw [List.length_map]; exact wl_two)
  rw [List.take_of_length_le (by rw [List.length_map]; exact wl_two)] at this
  exact this
theorem nn_le {q : Rat} {B : Nat} (h : 0 ≤ q ∧ q ≤ (B : Rat)) : -(B : Rat) ≤ q ∧ q ≤ (B : Rat) := ⟨by have := Rat.natCast_nonneg (a := B); grind, h.2⟩
theorem total_wl {f i n j : Nat} {s : Option Nat} {g : Gl} (h : i ≤ n) (hn : n ≤ 100) : F_total [.lst ((wl f s i).map fun st => fr (ends st i n j))] g = .ok (fr (eSum f s i n j)) g := by
  have hb : ∀ q ∈ (wl f s i).map fun st => ends st i n j, 0 ≤ q ∧ q ≤ ((100 * 2 ^ 200 : Nat) : Rat) := fun q hq => by
    obtain ⟨st, _, rfl⟩ := List.mem_map.mp hq
    exact ends_bd h hn
  have hd : ∀ q ∈ (wl f s i).map fun st => ends st i n j, Dv (cho n i) q := fun q hq => by
    obtain ⟨st, _, rfl⟩ := List.mem_map.mp hq
    exact ends_dv h
  have hc : cho n i ≤ 2 ^ 100 := Nat.le_trans (cho_le n i) (Nat.pow_le_pow_right (by decide) hn)
  have hs1 : cho n i * bE < 2 ^ 3000 := Nat.lt_of_le_of_lt (Nat.mul_le_mul_right _ hc) (small (by decide +kernel))
  have hs2 : cho n i < 2 ^ 3000 := Nat.lt_of_le_of_lt hc (small (by decide +kernel))
  have := total_ev (l := (wl f s i).map fun st => ends st i n j) (g := g) (fun q hq => by
    obtain ⟨h1, h2⟩ := nn_le (B := bE) ⟨(hb q hq).1, Rat.le_trans (hb q hq).2 (Rat.natCast_le_natCast.mpr (Nat.le_mul_of_pos_left _ (by decide)))⟩
    exact sz_of (hd q hq) (cho_pos h) h1 h2 hs1 hs2) fun k => by
    obtain ⟨h1, h2⟩ := nn_le (take_bd (k := k) hb (by rw [List.length_map]; exact wl_two))
    exact sz_of (sum_dv fun x hx => hd x (List.mem_of_mem_take hx)) (cho_pos h) h1 h2 hs1 hs2
  rw [List.map_map] at this
  exact this
theorem fac_le {N : Nat} : ∀ n, n ≤ N → fac n ≤ N ^ n
  | 0, _ => by simp [fac]
  | n + 1, h => by
    show fac n * (n + 1) ≤ _
    rw [Nat.pow_succ]
    exact Nat.mul_le_mul (fac_le n (by omega)) h
theorem dn_dvd {d low : Nat} : ∀ {k m : Nat}, k ≤ m → dn d low k ∣ dn d low m
  | k, 0, h => by
    have e : k = 0 := by omega
    subst e
    exact Nat.dvd_refl _
  | k, m + 1, h => by
    by_cases e : k = m + 1
    · subst e
      exact Nat.dvd_refl _
    · exact Nat.dvd_trans (dn_dvd (show k ≤ m by omega)) (Nat.dvd_mul_right _ _)
theorem dn_nat {d low N k : Nat} (hd : d ≤ 9) (h : low + k ≤ N) (hN : N ≤ 100) : dn d low k < 2 ^ 1000 := Nat.lt_of_le_of_lt (dn_le (N := 100) hd k (by omega)) (big900 k (by omega))
theorem fac_nat {n : Nat} (h : n ≤ 100) : fac n ≤ 2 ^ 700 := Nat.le_trans (fac_le (N := 100) n h) (Nat.le_trans (Nat.pow_le_pow_right (by decide) h) (by decide +kernel))
theorem cT_dv {f n j k : Nat} {s : Option Nat} {p : Rat} (h : k + 1 ≤ n) : Dv (dn p.den 0 n * fac n) (cT f s p n j k) := by
  have h1 := (fq_dv (p := p) (w := fun i => (wl f s i).length) (low := 0) k).mul ((wi_dv (p := p) (i := k + 1) (w := 1) (by omega)).mul (eSum_dv (f := f) (s := s) (j := j) h))
  refine Dv.mono h1 ?_
  have e : dn p.den 0 k * (p.den * (k + 1) * cho n (k + 1)) = dn p.den 0 (k + 1) * cho n (k + 1) := by
    show _ = dn p.den 0 k * (p.den * (0 + k + 1)) * _
    rw [Nat.zero_add]
    simp only [Nat.mul_assoc]
  rw [e]
  exact Nat.mul_dvd_mul (dn_dvd h) (cho_dvd h)
theorem mul_bd {a b : Rat} {B : Nat} (h : 0 ≤ a ∧ a ≤ 1) (h2 : 0 ≤ b ∧ b ≤ (B : Rat)) : 0 ≤ a * b ∧ a * b ≤ (B : Rat) := by
  have := Rat.mul_le_mul_of_nonneg_right h.2 h2.1
  exact ⟨Rat.mul_nonneg h.1 h2.1, by grind⟩
theorem cT_bd {f n j k : Nat} {s : Option Nat} {p : Rat} (hp : Pr p) (hs : ∀ k, s = some k → 1 ≤ k) (h : k + 1 ≤ n) (hn : n ≤ 100) : 0 ≤ cT f s p n j k ∧ cT f s p n j k ≤ (bE : Rat) := by
  have h1 := fq_unit (p := p) (w := fun i => (wl f s i).length) (low := 0) hp (fun i hi => wl_le hi hs) k
  have h2 := wi_le (i := k + 1) (w := 1) (by omega) (by omega)
  exact mul_bd h1 (mul_bd (unit_mul hp.nn hp.le h2.1 h2.2) (eSum_bd h hn))
theorem cq_dv {f n j : Nat} {s : Option Nat} {p : Rat} : ∀ {m : Nat}, m ≤ n → Dv (dn p.den 0 n * fac n) (cq f s p n j m)
  | 0, _ => (⟨0, by show (0 : Rat) * _ = _; rw [Rat.zero_mul]; rfl⟩ : Dv _ 0)
  | m + 1, h => (cq_dv (by omega)).add (cT_dv h)
theorem cq_bd {f n j : Nat} {s : Option Nat} {p : Rat} (hp : Pr p) (hs : ∀ k, s = some k → 1 ≤ k) (hn : n ≤ 100) : ∀ {m : Nat}, m ≤ n → 0 ≤ cq f s p n j m ∧ cq f s p n j m ≤ ((m * bE : Nat) : Rat)
  | 0, _ => by
    show (0 : Rat) ≤ 0 ∧ (0 : Rat) ≤ _
    exact ⟨Rat.le_refl, Rat.natCast_nonneg⟩
  | m + 1, h => by
    obtain ⟨h1, h2⟩ := cq_bd (f := f) (s := s) (p := p) (j := j) hp hs hn (m := m) (by omega)
    obtain ⟨h3, h4⟩ := cT_bd (f := f) (s := s) (p := p) (n := n) (j := j) (k := m) hp hs h hn
    rw [Nat.succ_mul, Rat.natCast_add]
    show 0 ≤ cq f s p n j m + cT f s p n j m ∧ cq f s p n j m + cT f s p n j m ≤ _
    grind
theorem cD_lt {p : Rat} {n : Nat} (hp : Pr p) (hn : n ≤ 100) : dn p.den 0 n * fac n * (100 * bE) < 2 ^ 3000 := by
  have h1 := dn_nat (d := p.den) (low := 0) (N := n) (k := n) hp.den (by omega) hn
  have h2 := fac_nat hn
  refine Nat.lt_of_le_of_lt (Nat.mul_le_mul_right _ (Nat.mul_le_mul (Nat.le_of_lt h1) h2)) ?_
  rw [pow_split]
  exact Nat.lt_of_lt_of_le (m := 2 ^ 2000) (by decide +kernel) (Nat.pow_le_pow_right (by decide) (by decide))
theorem cD_pos {p : Rat} {n : Nat} : 0 < dn p.den 0 n * fac n := Nat.mul_pos (dn_pos p.den_pos n) (fac_pos n)
theorem cq_sz {f n j m : Nat} {s : Option Nat} {p : Rat} (hp : Pr p) (hs : ∀ k, s = some k → 1 ≤ k) (hn : n ≤ 100) (h : m ≤ n) : Sz (cq f s p n j m) := by
  obtain ⟨h1, h2⟩ := cq_bd (f := f) (s := s) (p := p) (j := j) hp hs hn h
  obtain ⟨h3, h4⟩ := nn_le (B := 100 * bE) ⟨h1, Rat.le_trans h2 (Rat.natCast_le_natCast.mpr (Nat.mul_le_mul_right _ (by omega)))⟩
  have := cD_lt (p := p) (n := n) hp hn
  exact sz_of (cq_dv h) cD_pos h3 h4 this (Nat.lt_of_le_of_lt (Nat.le_mul_of_pos_right _ (by decide +kernel)) this)
theorem cT_sz {f n j k : Nat} {s : Option Nat} {p : Rat} (hp : Pr p) (hs : ∀ k, s = some k → 1 ≤ k) (hn : n ≤ 100) (h : k + 1 ≤ n) : Sz (cT f s p n j k) := by
  obtain ⟨h1, h2⟩ := cT_bd (f := f) (s := s) (p := p) (j := j) hp hs h hn
  obtain ⟨h3, h4⟩ := nn_le (B := 100 * bE) ⟨h1, Rat.le_trans h2 (Rat.natCast_le_natCast.mpr (Nat.le_mul_of_pos_left _ (by decide)))⟩
  have := cD_lt (p := p) (n := n) hp hn
  exact sz_of (cT_dv h) cD_pos h3 h4 this (Nat.lt_of_le_of_lt (Nat.le_mul_of_pos_right _ (by decide +kernel)) this)
theorem chance_by_ev {f n j : Nat} {s : Option Nat} {p : Rat} {g : Gl} (hp : Pr p) (hs : ∀ k, s = some k → 1 ≤ k) (hn : n ≤ 100) (hj1 : 1 ≤ j) (hj : j ≤ 100) : F_chance_by [rl f s p, .int n, .int j] g = .ok (fr (cq f s p n j n)) g := by
  have hw : ∀ i, 1 ≤ i → (fun i => (wl f s i).length) i ≤ i := fun i hi => wl_le hi hs
  have e0 := still_free_ev (f := f) (s := s) (low := 0) (n := n) (g := g) hp hs (by omega) hn
  generalize hF : (fun k => fr (fq p (fun i => (wl f s i).length) 0 k)) = F at e0
  rw [Nat.sub_zero] at e0
  generalize hL : (List.range (n + 1)).map F = L at e0
  have hLl : L.length = n + 1 := by rw [← hL, List.length_map, List.length_range]
  obtain ⟨ds', g', e, x, y, z, u, rfl, rfl⟩ := for_range (i := 3) (b := lp_chance_by_1)
    (lo := 1) (n := n) (ds := [.sh (rl f s p), .sh (.int n), .sh (.int j), .unset, .sh (.lst L), .sh (fr 0), .unset, .unset, .unset]) (g := g)
    (fun m ds g' => ∃ x y z u, ds = [.sh (rl f s p), .sh (.int n), .sh (.int j), x, .sh (.lst L), .sh (fr (cq f s p n j m)), y, z, u] ∧ g' = g) (fun m ds g' hm ⟨x, y, z, u, e1, e2⟩ => by
      subst e1
      subst e2
      have ei : (1 : Int) + (m : Int) = ((m + 1 : Nat) : Int) := by omega
      have w1 := wanted_ev (f := f) (s := s) (p := p) (i := m + 1) (g := g')
      have hwl : ((wl f s (m + 1)).map fun k : Nat => Dat.int k).length ≤ 100000 := by
        rw [List.length_map]
        have := wl_two (f := f) (s := s) (i := m + 1)
        omega
      have l1 : ∀ y z : Slot, lcGo (gN 8) tfT lp_chance_by_2 [.sh (rl f s p), .sh (.int n), .sh (.int j), .sh (.int ((m + 1 : Nat) : Int)), .sh (.lst L), .sh (fr (cq f s p n j m)), y, z, .unset]
          ((wl f s (m + 1)).map fun k : Nat => Dat.int k) g' = .ok ((wl f s (m + 1)).map fun st => fr (ends st (m + 1) n j)) g' := fun y z => lc_map fun st hst => by
        obtain ⟨h1, h2, h3⟩ := wl_mem hst (by omega) hs
        have := ends_ev (st := st) (i := m + 1) (n := n) (j := j) (g := g') h1 h3 (by omega) hn hj1 hj
        simp only [lp_chance_by_2, EV1, EV2, EV3, EV4, this]
      have t1 := total_wl (f := f) (i := m + 1) (n := n) (j := j) (s := s) (g := g') (by omega) hn
      have p1 := product_by (p := p) (c := 1) (d := m + 1) (g := g') hp.sz (smaller (by omega)) (smaller (by omega)) (by omega)
      have hx := wi_le (i := m + 1) (w := 1) (by omega) (by omega)
      have hu := unit_mul hp.nn hp.le hx.1 hx.2
      have hd : p.den * (m + 1) ≤ 9 * 100 := Nat.mul_le_mul hp.den (by omega)
      have sz1 : Sz (p * (((1 : Nat) : Rat) / ((m + 1 : Nat) : Rat))) := unit_sz (wi_dv (by omega)) (Nat.mul_pos p.den_pos (by omega)) hu (smaller (by omega))
      have hc : cho n (m + 1) ≤ 2 ^ 100 := Nat.le_trans (cho_le n _) (Nat.pow_le_pow_right (by decide) hn)
      have hb := eSum_bd (f := f) (s := s) (i := m + 1) (n := n) (j := j) (by omega) hn
      have hv := eSum_dv (f := f) (s := s) (i := m + 1) (n := n) (j := j) (by omega)
      have sz2 : Sz (eSum f s (m + 1) n j) := sz_of hv (cho_pos (by omega)) (nn_le hb).1 (nn_le hb).2 (Nat.lt_of_le_of_lt (Nat.mul_le_mul_right _ hc) (small (by decide +kernel))) (Nat.lt_of_le_of_lt hc (small (by decide +kernel)))
      have p2 := product_ev (g := g') sz1 sz2
      have hD : p.den * (m + 1) * cho n (m + 1) ≤ 900 * 2 ^ 100 := Nat.mul_le_mul hd hc
      have hb2 := mul_bd hu hb
      have sz3 : Sz (p * (((1 : Nat) : Rat) / ((m + 1 : Nat) : Rat)) * eSum f s (m + 1) n j) := sz_of ((wi_dv (by omega)).mul hv) (Nat.mul_pos (Nat.mul_pos p.den_pos (by omega)) (cho_pos (by omega))) (nn_le hb2).1 (nn_le hb2).2
        (Nat.lt_of_le_of_lt (Nat.mul_le_mul_right _ hD) (small (by decide +kernel))) (Nat.lt_of_le_of_lt hD (small (by decide +kernel)))
      have a1 : atI L (((m + 1 : Nat) : Int) - 1) = some (F m) := by
        rw [atI_nat (by omega) (by rw [hLl]; omega), show (((m + 1 : Nat) : Int) - 1).toNat = m by omega, ← hL, List.getElem?_map, List.getElem?_range (by omega)]
        rfl
      have p3 : F_product [F m, fr (p * (((1 : Nat) : Rat) / ((m + 1 : Nat) : Rat)) * eSum f s (m + 1) n j)] g' = .ok (fr (cT f s p n j m)) g' := by
        rw [← hF]
        exact product_ev (fq_sz hp hw (by omega)) sz3
      have d1 := added_ev (g := g') (cq_sz (f := f) (s := s) (j := j) hp hs hn (show m ≤ n by omega)) (cT_sz (f := f) (s := s) (j := j) hp hs hn (show m + 1 ≤ n by omega))
      have p1' : F_product [fr p, .tup [.int 1, .int ((m + 1 : Nat) : Int)]] g' = _ := p1
      refine ⟨_, _, ?_, .sh (.int ((m + 1 : Nat) : Int)), .sh (.lst ((wl f s (m + 1)).map fun st => fr (ends st (m + 1) n j))), .sh (fr (p * (((1 : Nat) : Rat) / ((m + 1 : Nat) : Rat)) * eSum f s (m + 1) n j)), u, rfl, rfl⟩
      simp only [lp_chance_by_1, EV1, EV2, EV3, EV4, EV5, ei, w1, hwl, dwipe, l1, t1, p1', p2, a1, p3, d1, few, Nat.reduceAdd, Nat.reduceLeDiff]
      rfl) ⟨.unset, .unset, .unset, .unset, rfl, rfl⟩
  have hr := rng2_ev (i := 1) (j := (n : Int) + 1) (by omega)
  rw [show ((n : Int) + 1 - 1).toNat = n by omega] at hr
  have e' : forGo (gN 3) _ (rngL 1 n) [.sh (rl f s p), .sh (.int n), .sh (.int j), .unset, .sh (.lst L), .sh (.tup [.int 0, .int 1]), .unset, .unset, .unset] g' = _ := e
  have e0' : F_still_free [rl f s p, .int 0, .int n] g' = _ := e0
  simp only [F_chance_by, b_chance_by, EV1, EV2, EV3, EV4, hr, e0', e', few, Nat.reduceAdd, Nat.reduceSub, Nat.reduceLeDiff]
end W

/-! What the rules ask; the draw. -/
namespace W
open PySem L2 DL

theorem is_whole_ev {i : Int} {g : Gl} : F_is_whole [.int i] g = .ok (.bl true) g := by
  have h1 : oIsi "int" (.int i) = some (.bl true) := rfl
  have h2 : oIsi "bool" (.int i) = some (.bl false) := rfl
  simp only [F_is_whole, b_is_whole, EV1, EV2, EV3, EV4, Nat.reduceAdd, Nat.reduceSub, h1, h2, if_true, Bool.not_false]
theorem is_within_ev {v lo hi : Int} {g : Gl} : F_is_within [.int v, .int lo, .int hi] g = .ok (.bl (decide (lo ≤ v) && decide (v ≤ hi))) g := by
  cases h1 : decide (lo ≤ v) <;>
    simp only [F_is_within, b_is_within, EV1, EV2, EV3, EV4, Nat.reduceAdd, Nat.reduceSub, is_whole_ev, h1, if_true, Bool.true_and, Bool.false_and, Bool.false_eq_true, if_false]
theorem need_number_ev {v lo hi : Int} {g : Gl} (h1 : lo ≤ v) (h2 : v ≤ hi) : F_need_number [.int v, .int lo, .int hi] g = .ok .non g := by
  have e : (decide (lo ≤ v) && decide (v ≤ hi)) = true := by rw [decide_eq_true h1, decide_eq_true h2]; rfl
  simp only [F_need_number, b_need_number, EV1, EV2, EV3, EV4, Nat.reduceAdd, Nat.reduceSub, is_within_ev, e, Bool.not_true, Bool.false_eq_true, if_false]
theorem need_count_ev {v lo hi : Int} {g : Gl} (h1 : lo ≤ v) (h2 : v ≤ hi) : F_need_count [.int v, .int lo, .int hi] g = .ok .non g := by
  have e : (decide (lo ≤ v) && decide (v ≤ hi)) = true := by rw [decide_eq_true h1, decide_eq_true h2]; rfl
  simp only [F_need_count, b_need_count, EV1, EV2, EV3, EV4, Nat.reduceAdd, Nat.reduceSub, is_within_ev, e, Bool.not_true, Bool.false_eq_true, if_false]
theorem is_fraction_ev {q : Rat} {g : Gl} (hq : Sz q) : F_is_fraction [fr q] g = .ok (.bl true) g := by
  have h1 : oIsi "tuple" (fr q) = some (.bl true) := rfl
  have h2 : decide ((0 : Int) < (q.den : Int)) = true := decide_eq_true (by have := q.den_pos; omega)
  have h3 := common_ev (a := q.num) (b := (q.den : Int)) (g := g) (bd_mono hq.1 (by decide)) (bd_mono hq.2 (by decide))
  have h4 : Int.gcd q.num (q.den : Int) = 1 := q.reduced
  have h5 : neD (.int ((0 : Nat) + 1 + 1 : Nat)) (.int 2) = some false := rfl
  rw [h4] at h3
  simp only [F_is_fraction, b_is_fraction, EV1, EV2, EV3, EV4, EV5, Nat.reduceAdd, Nat.reduceSub, is_whole_ev, h1, h2, h3, h5, Bool.not_true, Bool.not_false, Bool.false_eq_true, if_false, if_true]
  rfl
theorem is_share_ev {p : Rat} {g : Gl} (hp : Pr p) (h0 : 0 < p) : F_is_share [fr p] g = .ok (.bl true) g := by
  have h1 : decide ((0 : Int) < p.num) = true := decide_eq_true (by have := (Rat.lt_iff 0 p).mp h0; simpa using this)
  have h2 := is_less_ev (g := g) one_sz hp.sz
  have h3 : decide (1 < p) = false := decide_eq_false (by have := hp.le; grind)
  have h4 : decide ((p.den : Int) ≤ 9) = true := decide_eq_true (by have := hp.den; omega)
  rw [h3] at h2
  have h2' : F_is_less [.tup [.int 1, .int 1], fr p] g = _ := h2
  simp only [F_is_share, b_is_share, EV1, EV2, EV3, EV4, EV5, Nat.reduceAdd, Nat.reduceSub, is_fraction_ev hp.sz, h1, h2', h4, Bool.not_false, if_true]
/-- the parts of a rule that stands -/
structure Ok (f : Nat) (s : Option Nat) (p : Rat) : Prop where
  hf : f ≤ 20
  hs : ∀ k, s = some k → 1 ≤ k ∧ f ≤ k ∧ k ≤ 20
  hp : Pr p
  h0 : 0 < p
theorem Ok.s1 {f : Nat} {s : Option Nat} {p : Rat} (h : Ok f s p) : ∀ k, s = some k → 1 ≤ k := fun k e => (h.hs k e).1
theorem fld_ev {i : Nat} {f : Str} {fe : DE} {ds : DEnv} {ks : List Str} {l : List Dat} {d : Dat} {g g' : Gl} (h : ds[i]? = some (.self ks l)) (h1 : f ∉ ks) (h2 : ks.length < 900) (h3 : fe ds g = .ok d g') : dFld i f fe ds g = .ok (.nx (ds.set i (.self (ks ++ [f]) (l ++ [d])))) g' := by
  unfold dFld
  rw [h]
  show (if f ∉ ks ∧ ks.length < 900 then _ else _) = _
  rw [if_pos ⟨h1, h2⟩, h3]
  rfl
abbrev kR : List Str := ["begun", "later", "part"]
theorem rule_ev {f : Nat} {s : Option Nat} {p : Rat} {g : Gl} (h : Ok f s p) : F_Rule [.int f, sD s, fr p] g = .ok (kR, [.int f, sD s, fr p]) g := by
  have hf : (decide ((0 : Int) ≤ (f : Int)) && decide ((f : Int) ≤ 20)) = true := by
    have := h.hf
    rw [decide_eq_true (by omega), decide_eq_true (by omega)]; rfl
  have hsh := is_share_ev (g := g) h.hp h.h0
  have n1 : (("later" : Str) ∉ (["begun"] : List Str)) := by decide +kernel
  have n2 : (("part" : Str) ∉ (["begun", "later"] : List Str)) := by decide +kernel
  have f1 : ∀ (d : Dat) (l : List Slot), dFld 0 "begun" (dVar 1) (.self [] [] :: .sh d :: l) g = .ok (.nx (.self ["begun"] [d] :: .sh d :: l)) g := fun d l => fld_ev (ks := []) (l := []) rfl (fun h => nomatch h) (by decide) rfl
  have f2 : ∀ (c d : Dat) (l : List Slot), dFld 0 "later" (dVar 2) (.self ["begun"] [c] :: .sh c :: .sh d :: l) g = .ok (.nx (.self ["begun", "later"] [c, d] :: .sh c :: .sh d :: l)) g := fun c d l => fld_ev (ks := ["begun"]) (l := [c]) rfl n1 (by decide) rfl
  have f3 : ∀ (c d e : Dat) (l : List Slot), dFld 0 "part" (dVar 3) (.self ["begun", "later"] [c, d] :: .sh c :: .sh d :: .sh e :: l) g = .ok (.nx (.self ["begun", "later", "part"] [c, d, e] :: .sh c :: .sh d :: .sh e :: l)) g := fun c d e l => fld_ev (ks := ["begun", "later"]) (l := [c, d]) rfl n2 (by decide) rfl
  cases s with
  | none =>
    simp only [F_Rule, b_Rule, sD, EV1, EV2, EV3, EV4, Nat.reduceAdd, Nat.reduceSub, is_within_ev, hf, hsh, f1, f2, f3, Bool.not_true, Bool.not_false, Bool.false_eq_true, if_false, if_true]
    rfl
  | some k =>
    obtain ⟨h1, h2, h3⟩ := h.hs k rfl
    have hk : (decide ((if (f : Int) > 1 then (f : Int) else 1) ≤ (k : Int)) && decide ((k : Int) ≤ 20)) = true := by
      rw [decide_eq_true (by split <;> omega), decide_eq_true (by omega)]; rfl
    simp only [F_Rule, b_Rule, sD, EV1, EV2, EV3, EV4, few, Nat.reduceAdd, Nat.reduceSub, Nat.reduceLeDiff, is_within_ev, hf, hk, hsh, f1, f2, f3, Bool.not_true, Bool.not_false, Bool.false_eq_true, if_false, if_true]
    rfl
theorem rulOf_ev {a b c : Dat} : rulOf (kR, [a, b, c]) = some (.rul a b c) := by
  show (if kR = kR then some (Dat.rul a b c) else none) = _
  exact if_pos rfl
theorem chance_ev {f n j : Nat} {s : Option Nat} {p : Rat} {g : Gl} (h : Ok f s p) (hn1 : 1 ≤ n) (hn : n ≤ 100) (hj1 : 1 ≤ j) (hj : j ≤ 5) : F_chance [rl f s p, .int n, .int j] g = .ok (fr (cq f s p n j n)) g := by
  simp only [F_chance, b_chance, EV1, EV2, EV3, EV4, Nat.reduceAdd, Nat.reduceSub, need_number_ev (v := (n : Int)) (lo := 1) (hi := 100) (by omega) (by omega), need_count_ev (v := (j : Int)) (lo := 1) (hi := 5) (by omega) (by omega),
    chance_by_ev (g := g) (f := f) (s := s) h.hp h.s1 hn hj1 (show j ≤ 100 by omega)]
theorem law_made_ev {f : Nat} {s : Option Nat} {p : Rat} {g : Gl} (h : Ok f s p) : F__law_made [.dct ["first", "second", "share"] [.int f, sD s, fr p]] g = .ok (rl f s p) g := by
  have k1 : oGet (.dct ["first", "second", "share"] [.int f, sD s, fr p]) (.str "first") = some (.int f) := rfl
  have k2 : oGet (.dct ["first", "second", "share"] [.int f, sD s, fr p]) (.str "second") = some (sD s) := rfl
  have k3 : oGet (.dct ["first", "second", "share"] [.int f, sD s, fr p]) (.str "share") = some (fr p) := rfl
  simp only [F__law_made, b__law_made, EV1, EV2, EV3, EV4, Nat.reduceAdd, Nat.reduceSub, k1, k2, k3, rule_ev h, rulOf_ev]
/-! ### the draw -/
def Row (ns : List Int) (r g : Gl) : Prop := ∃ a b c : Int, g = .lst [.scr ns, .int a, .int b, .int c] :: r ∧ 0 ≤ a ∧ b.natAbs < 2 ^ 40
theorem EV6 :
    (∀ (l : List Dat) (g : Gl) (d k : Dat), msetD (.lst l :: g) (.mref 0) d k = (setAtD l d k).map fun l' => .lst l' :: g) ∧ (∀ (l : List Dat) (g : Gl) (i : Int), oIx (.lst l :: g) (.mref 0) (.int i) = atI l i) ∧ (∀ (a b c d x : Dat), setAtD [a, b, c, d] x (.int 1) = some [a, x, c, d]) ∧
    (∀ (a b c d x : Dat), setAtD [a, b, c, d] x (.int 2) = some [a, b, x, d]) ∧ (∀ (a b c d x : Dat), setAtD [a, b, c, d] x (.int 3) = some [a, b, c, x]) ∧ (∀ (α β : Type) (f : α → β) (a : α), Option.map f (some a) = some (f a)) ∧ (oPow (.int 10) (.int 18) = some (.int 1000000000000000000)) := by
  refine ⟨?_, ?_, ?_, ?_, ?_, ?_, ?_⟩ <;> intros
  · rename_i l g d k
    show (match setAtD l d k with
      | some l' => some ((.lst l :: g : Gl).set 0 (.lst l'))
      | none => none) = _
    cases setAtD l d k <;> rfl
  all_goals rfl
theorem taken_ev {ns : List Int} {r g : Gl} {m : Int} (h : Row ns r g) (hm : 0 < m) (hm2 : m < 1000) : ∃ (z : Int) (g' : Gl), F__law_taken [.mref 0, .int m] g = .ok (.int z) g' ∧ 0 ≤ z ∧ z < m ∧ Row ns r g' := by
  obtain ⟨a, b, c, rfl, ha, hb⟩ := h
  have dv : ∀ x : Int, divOk x m = true := fun x => div_ok hm (Nat.lt_of_lt_of_le (m := 2 ^ 11) (by omega) (Nat.pow_le_pow_right (by decide) (by decide)))
  by_cases hc : 0 < c
  · refine ⟨c % m, .lst [.scr ns, .int a, .int b, .int (c / m)] :: r, ?_, Int.emod_nonneg c (by omega), Int.emod_lt_of_pos c hm, a, b, c / m, rfl, ha, hb⟩
    simp only [F__law_taken, b__law_taken, EV1, EV2, EV3, EV4, EV5, EV6, Nat.reduceAdd, Nat.reduceSub, decide_eq_true hc, dv, hm, if_true]
  · have hc' : decide (0 < c) = false := decide_eq_false hc
    have m1 : mulOk b 48271 = true := mul_ok (bd_mono (j := 40) hb (by decide)) (Nat.lt_of_lt_of_le (m := 2 ^ 17) (by decide) (Nat.pow_le_pow_right (by decide) (by decide)))
    have bd : ∀ x : Int, (x % 2147483647).natAbs < 2 ^ 40 := fun x => by
      have h1 := Int.emod_nonneg x (show (2147483647 : Int) ≠ 0 by decide)
      have h2 := Int.emod_lt_of_pos x (show (0 : Int) < 2147483647 by decide)
      omega
    by_cases hl : (ns.length : Int) < a + 1
    · refine ⟨((b * 48271 + 11) % 2147483647 / 7) % m, .lst [.scr ns, .int (a + 1), .int ((b * 48271 + 11) % 2147483647), .int c] :: r, ?_, Int.emod_nonneg _ (by omega), Int.emod_lt_of_pos _ hm, a + 1, _, c, rfl, by omega, bd _⟩
      have d7 : divOk ((b * 48271 + 11) % 2147483647) 7 = true := div_ok (by decide) (Nat.lt_of_lt_of_le (m := 2 ^ 3) (by decide) (Nat.pow_le_pow_right (by decide) (by decide)))
      simp only [F__law_taken, b__law_taken, EV1, EV2, EV3, EV4, EV5, EV6, Nat.reduceAdd, Nat.reduceSub, hc', decide_eq_true hl, m1, d7, hm, if_true, Bool.false_eq_true, if_false, Int.reduceLT]
    · obtain ⟨x, hx⟩ : ∃ x, ns[a.toNat]? = some x := ⟨_, List.getElem?_eq_getElem (by omega)⟩
      have hat : atI ns (a + 1 - 1) = some x := by rw [atI_nat (by omega) (by omega), show (a + 1 - 1).toNat = a.toNat by omega]; exact hx
      by_cases hb2 : (1000000000000000000 : Int) ≤ x
      · refine ⟨x % m, .lst [.scr ns, .int (a + 1), .int ((b * 48271 + x + 11) % 2147483647), .int (x / m)] :: r, ?_, Int.emod_nonneg _ (by omega), Int.emod_lt_of_pos _ hm, a + 1, _, _, rfl, by omega, bd _⟩
        simp only [F__law_taken, b__law_taken, EV1, EV2, EV3, EV4, EV5, EV6, Nat.reduceAdd, Nat.reduceSub, hc', decide_eq_false hl, hat, decide_eq_true hb2, m1, dv, hm, if_true, Bool.false_eq_true, if_false, Int.reduceLT]
      · refine ⟨x % m, .lst [.scr ns, .int (a + 1), .int ((b * 48271 + x + 11) % 2147483647), .int c] :: r, ?_, Int.emod_nonneg _ (by omega), Int.emod_lt_of_pos _ hm, a + 1, _, _, rfl, by omega, bd _⟩
        simp only [F__law_taken, b__law_taken, EV1, EV2, EV3, EV4, EV5, EV6, Nat.reduceAdd, Nat.reduceSub, hc', decide_eq_false hl, hat, decide_eq_false hb2, m1, dv, hm, if_true, Bool.false_eq_true, if_false, Int.reduceLT]
end W

/-! What is drawn, as one of a list. -/
namespace W
open PySem L2 DL

def firsts : List Int := [0, 1, 2, 3, 5, 8]
def shares : List Dat := [.tup [.int 1, .int 1], .tup [.int 1, .int 1], .tup [.int 1, .int 2], .tup [.int 2, .int 3], .tup [.int 8, .int 9], .tup [.int 1, .int 9]]
def big1 (f : Int) : Int := if f > 1 then f else 1
def seconds (f : Int) : List Dat := .non :: [0, 1, 2, 3].map fun k : Int => .int (big1 f + k)
/-- every dict that can be drawn -/
def drawns : List Dat := firsts.flatMap fun f => (seconds f).flatMap fun s => shares.map fun p => .dct ["first", "second", "share"] [.int f, s, p]
theorem atI_ex {l : List Dat} {z : Int} (h0 : 0 ≤ z) (h1 : z < l.length) : ∃ x ∈ l, atI l z = some x := by
  obtain ⟨k, rfl⟩ : ∃ k : Nat, z = (k : Int) := ⟨z.toNat, by omega⟩
  have hk : k < l.length := by omega
  refine ⟨l[k], List.getElem_mem hk, ?_⟩
  have e : atI l ((k : Nat) : Int) = l[k]? := by
    rw [atI_nat (by omega) (by omega), Int.toNat_natCast]
  rw [e, List.getElem?_eq_getElem hk]
theorem drawn_fin {ns : List Int} {r g : Gl} (h : Row ns r g) : ∃ (d : Dat) (g' : Gl), F__law_drawn [.mref 0] g = .ok d g' ∧ d ∈ drawns ∧ Row ns r g' := by
  obtain ⟨z1, g1, e1, a1, b1, h1⟩ := taken_ev h (m := 6) (by decide) (by decide)
  obtain ⟨f0, hf0, ef⟩ := atI_ex (l := [Dat.int 0, .int 1, .int 2, .int 3, .int 5, .int 8]) a1 b1
  obtain ⟨f, rfl, hf⟩ : ∃ f : Int, f0 = .int f ∧ f ∈ firsts := by
    simp only [List.mem_cons, List.not_mem_nil, or_false] at hf0
    rcases hf0 with rfl | rfl | rfl | rfl | rfl | rfl <;> exact ⟨_, rfl, by decide⟩
  obtain ⟨z2, g2, e2, a2, b2, h2⟩ := taken_ev h1 (m := 2) (by decide) (by decide)
  have g0 : ∀ a b : Dat, oGet (.dct ["first", "second"] [a, b]) (.str "first") = some a := fun _ _ => rfl
  have p2 : ∀ a b d : Dat, putD ["first", "second"] [a, b] "second" d = ((["first", "second"] : List Str), [a, d]) := fun _ _ _ => rfl
  have p3 : ∀ a b d : Dat, putD ["first", "second"] [a, b] "share" d = ((["first", "second", "share"] : List Str), [a, b, d]) := fun _ _ _ => rfl
  by_cases hz : z2 = 0
  · obtain ⟨z3, g3, e3, a3, b3, h3⟩ := taken_ev h2 (m := 4) (by decide) (by decide)
    obtain ⟨z4, g4, e4, a4, b4, h4⟩ := taken_ev h3 (m := 6) (by decide) (by decide)
    obtain ⟨p, hp, ep⟩ := atI_ex (l := shares) a4 b4
    have ep' : atI [Dat.tup [.int 1, .int 1], .tup [.int 1, .int 1], .tup [.int 1, .int 2], .tup [.int 2, .int 3], .tup [.int 8, .int 9], .tup [.int 1, .int 9]] z4 = some p := ep
    refine ⟨.dct ["first", "second", "share"] [.int f, .int (big1 f + z3), p], g4, ?_, ?_, h4⟩
    · have em : (if f > 1 then f else 1) = big1 f := rfl
      simp only [F__law_drawn, b__law_drawn, EV1, EV2, EV3, EV4, ev_put, Nat.reduceAdd, Nat.reduceSub, Nat.reduceLeDiff, Nat.reduceLT, few, e1, ef, e2, decide_eq_true hz, if_true, e3, e4, g0, p2, p3, em, ep']
    · refine List.mem_flatMap.mpr ⟨f, hf, List.mem_flatMap.mpr ⟨.int (big1 f + z3), ?_, List.mem_map.mpr ⟨p, hp, rfl⟩⟩⟩
      refine List.mem_cons_of_mem _ (List.mem_map.mpr ⟨z3, ?_, rfl⟩)
      have : z3 = 0 ∨ z3 = 1 ∨ z3 = 2 ∨ z3 = 3 := by omega
      rcases this with rfl | rfl | rfl | rfl <;> decide
  · obtain ⟨z4, g4, e4, a4, b4, h4⟩ := taken_ev h2 (m := 6) (by decide) (by decide)
    obtain ⟨p, hp, ep⟩ := atI_ex (l := shares) a4 b4
    have ep' : atI [Dat.tup [.int 1, .int 1], .tup [.int 1, .int 1], .tup [.int 1, .int 2], .tup [.int 2, .int 3], .tup [.int 8, .int 9], .tup [.int 1, .int 9]] z4 = some p := ep
    refine ⟨.dct ["first", "second", "share"] [.int f, .non, p], g4, ?_, ?_, h4⟩
    · simp only [F__law_drawn, b__law_drawn, EV1, EV2, EV3, EV4, ev_put, Nat.reduceAdd, Nat.reduceSub, Nat.reduceLeDiff, Nat.reduceLT, few, e1, ef, e2, decide_eq_false hz, Bool.false_eq_true, if_false, e4, p3, ep']
    · exact List.mem_flatMap.mpr ⟨f, hf, List.mem_flatMap.mpr ⟨.non, List.mem_cons_self, List.mem_map.mpr ⟨p, hp, rfl⟩⟩⟩
/-- one reckoning for a whole list -/
theorem of_map {α β : Type} {f h : α → β} {l : List α} (e : l.map f = l.map h) : ∀ a ∈ l, f a = h a := List.map_inj_left.mp e
end W

/-! values that stand and values that do not -/
namespace W
open PySem L2 DL
abbrev kD : List Str := ["first", "second", "share"]
theorem seq_ev {a b : DS} {ds ds' : DEnv} {g g' : Gl} (h : a ds g = .ok (.nx ds') g') : dSeq a b ds g = b ds' g' := by
  unfold dSeq
  rw [h]
  rfl
theorem seq_assoc (a b c : DS) : dSeq a (dSeq b c) = dSeq (dSeq a b) c := by
  funext ds g
  unfold dSeq
  cases a ds g with
  | no => rfl
  | er e g1 => rfl
  | ok o g1 => cases o <;> rfl
theorem seqY_ev {a : DS} {b : DSY} {ds ds' : DEnv} {g g' : Gl} (h : a ds g = .ok (.nx ds') g') : dSeqY a b ds g = b ds' g' := by
  unfold dSeqY
  rw [h]
  rfl
def oddL : List Dat := [.int 0, .int 1, .int 2, .int 8, .int 20, .int 21, .int (-1), .non, .bl true, .str "1", .tup [.int 1, .int 1], .tup [.int 1, .int 2], .tup [.int 2, .int 4], .tup [.int 3, .int 2], .tup [.int 0, .int 1], .tup [.int 1, .int 10], .tup [.int 1, .int 0], .lst [.int 1, .int 2], .tup [.bl true, .int 2]]
def badL : List Dat := [.non, .bl true, .str "1", .tup [.int 1, .int 1], .tup [.int 1, .int 2], .tup [.int 2, .int 4], .tup [.int 3, .int 2], .tup [.int 0, .int 1], .tup [.int 1, .int 10], .tup [.int 1, .int 0], .lst [.int 1, .int 2], .tup [.bl true, .int 2]]
theorem bad_w (lo : Int) (g : Gl) : badL.map (fun a => F_is_within [a, .int lo, .int 20] g) = badL.map fun _ => .ok (.bl false) g := by kernel_rfl
theorem bad_m (lo : Int) (g : Gl) : badL.map (fun a => F__law_mark [a, .int lo] g) = badL.map fun _ => .ok (.bl false) g := by kernel_rfl
def Bad (a : Dat) : Prop := ∀ (lo : Int) (g : Gl), F_is_within [a, .int lo, .int 20] g = .ok (.bl false) g ∧ F__law_mark [a, .int lo] g = .ok (.bl false) g
theorem bad_all : ∀ a ∈ badL, Bad a := fun a h lo g => ⟨of_map (bad_w lo g) a h, of_map (bad_m lo g) a h⟩
def V1 (a : Dat) : Prop := (∃ z : Int, a = .int z) ∨ Bad a
def V2 (b : Dat) : Prop := b = .non ∨ (isN b = false ∧ V1 b)
theorem odd_v1 : ∀ a ∈ oddL, V1 a := fun a h => by
  have : (∃ z : Int, a = .int z) ∨ a ∈ badL := by
    simp only [oddL, List.mem_cons, List.not_mem_nil, or_false] at h
    rcases h with rfl | rfl | rfl | rfl | rfl | rfl | rfl | h
    · exact .inl ⟨_, rfl⟩
    · exact .inl ⟨_, rfl⟩
    · exact .inl ⟨_, rfl⟩
    · exact .inl ⟨_, rfl⟩
    · exact .inl ⟨_, rfl⟩
    · exact .inl ⟨_, rfl⟩
    · exact .inl ⟨_, rfl⟩
    · exact .inr (by simp only [badL, List.mem_cons, List.not_mem_nil, or_false]; exact h)
  exact this.imp id (bad_all a)
theorem odd_v2 : ∀ a ∈ oddL, V2 a := fun a h => by
  by_cases e : a = .non
  · exact .inl e
  · refine .inr ⟨?_, odd_v1 a h⟩
    cases a <;> first | rfl | exact absurd rfl e
def okC : Dat → Bool
  | .tup [.int a, .int b] => decide ((a, b) ∈ [((1 : Int), (1 : Int)), (1, 2), (2, 3), (8, 9), (1, 9)])
  | _ => false
def allC : List Dat := shares ++ oddL
def wT : DS := dSeq (dPar 2 3 (dCons (d2 oGet (dBor 0) (dC (.str "share"))) (dCons (dFz (dLst (dCons (dTup (dCons (dC (.int 1)) (dCons (dC (.int 1)) dNil))) dNil))) dNil))) (dSeq (dFor (dOpA rng2 (dCons (dC (.int 2)) (dCons (dC (.int 10)) dNil))) (gN 1) lp__law_wrong_1) (dSeq (dIfS (dOr (dNot (dT (d1 (oIsi "tuple") (dBor 2)))) (d2 oNotIn (dBor 2) (dBor 3))) (dRet (dC (.str "share"))) dSkip) (dRet (dIf (dOr (dT (d1 (oIsi "bool") (dIx (dBor 2) (dC (.int 0))))) (dT (d1 (oIsi "bool") (dIx (dBor 2) (dC (.int 1)))))) (dC (.str "share")) (dC .non)))))
theorem c_share (g : Gl) : allC.map (fun c => F_is_share [c] g) = allC.map fun c => .ok (.bl (okC c)) g := by kernel_rfl
theorem c_wrong (a b : Dat) (g : Gl) : allC.map (fun c => wT [.sh (.dct kD [a, b, c]), .unset, .unset, .unset, .unset, .unset] g) = allC.map fun c => .ok (.rt (if okC c = true then .non else .str "share")) g := by kernel_rfl
def big (z : Int) : Int := if z > 1 then z else 1
structure Chk (a b c : Dat) (t1 t2 t3 : Bool) : Prop where
  w1 : ∀ g, F_is_within [a, .int 0, .int 20] g = .ok (.bl t1) g
  l1 : ∀ g, F__law_mark [a, .int 0] g = .ok (.bl t1) g
  s2 : t1 = true → ∃ z : Int, a = .int z ∧ ((b = .non ∧ t2 = true) ∨ (isN b = false ∧ (∀ g, F_is_within [b, .int (big z), .int 20] g = .ok (.bl t2) g) ∧ ∀ g, F__law_mark [b, .int (big z)] g = .ok (.bl t2) g))
  c1 : ∀ g, F_is_share [c] g = .ok (.bl t3) g
  c2 : ∀ g, wT [.sh (.dct kD [a, b, c]), .unset, .unset, .unset, .unset, .unset] g = .ok (.rt (if t3 = true then .non else .str "share")) g
theorem mark_int (v lo : Int) (g : Gl) : F__law_mark [.int v, .int lo] g = .ok (.bl (decide (lo ≤ v) && decide (v ≤ 20))) g := by
  have i1 : oIsi "int" (.int v) = some (.bl true) := rfl
  have i2 : oIsi "bool" (.int v) = some (.bl false) := rfl
  by_cases h : lo ≤ v
  · have d1 : decide (lo ≤ v) = true := decide_eq_true h
    simp only [F__law_mark, b__law_mark, EV1, EV2, EV3, EV4, Nat.reduceAdd, Nat.reduceSub, i1, i2, d1, Bool.not_false, Bool.true_and, if_true]
  · have d1 : decide (lo ≤ v) = false := decide_eq_false h
    simp only [F__law_mark, b__law_mark, EV1, EV2, EV3, EV4, Nat.reduceAdd, Nat.reduceSub, i1, i2, d1, Bool.not_false, Bool.false_and, Bool.false_eq_true, if_true, if_false]
theorem chk_ex {a b c : Dat} (ha : V1 a) (hb : V2 b) (hc : c ∈ allC) : ∃ t1 t2 t3, Chk a b c t1 t2 t3 := by
  have k1 := fun g => of_map (c_share g) c hc
  have k2 := fun g => of_map (c_wrong a b g) c hc
  rcases ha with ⟨z, rfl⟩ | ha
  · rcases hb with rfl | ⟨nb, ⟨y, rfl⟩ | hb⟩
    · exact ⟨_, true, okC c, fun g => is_within_ev, fun g => mark_int z 0 g, fun _ => ⟨z, rfl, .inl ⟨rfl, rfl⟩⟩, k1, k2⟩
    · exact ⟨_, _, okC c, fun g => is_within_ev, fun g => mark_int z 0 g, fun _ => ⟨z, rfl, .inr ⟨nb, fun g => is_within_ev, fun g => mark_int y (big z) g⟩⟩, k1, k2⟩
    · exact ⟨_, false, okC c, fun g => is_within_ev, fun g => mark_int z 0 g, fun _ => ⟨z, rfl, .inr ⟨nb, fun g => (hb (big z) g).1, fun g => (hb (big z) g).2⟩⟩, k1, k2⟩
  · exact ⟨false, true, okC c, fun g => (ha 0 g).1, fun g => (ha 0 g).2, fun h => (nomatch h), k1, k2⟩
def resD (t1 t2 t3 : Bool) : Dat := if t1 = true then (if t2 = true then (if t3 = true then .non else .str "share") else .str "second") else .str "first"
theorem res_ne (t1 t2 t3 : Bool) : neD (resD t1 t2 t3) (resD t1 t2 t3) = some false := by
  cases t1 <;> cases t2 <;> cases t3 <;> kernel_rfl
theorem res_no (t1 t2 t3 : Bool) : noDct (resD t1 t2 t3) = true := by
  cases t1 <;> cases t2 <;> cases t3 <;> rfl
def erN (x : Str) : Er := ⟨0, ["name"], [.str x]⟩
section
variable {a b c : Dat} {t1 t2 t3 : Bool} {g : Gl}
theorem gets : oGet (.dct kD [a, b, c]) (.str "first") = some a ∧ oGet (.dct kD [a, b, c]) (.str "second") = some b ∧ oGet (.dct kD [a, b, c]) (.str "share") = some c := ⟨rfl, rfl, rfl⟩
theorem wrong_ev (h : Chk a b c t1 t2 t3) : F__law_wrong [.dct kD [a, b, c]] g = .ok (resD t1 t2 t3) g := by
  have g1 := (gets (a := a) (b := b) (c := c)).1
  have g2 := (gets (a := a) (b := b) (c := c)).2.1
  have l1 := h.l1 g
  have ct := h.c2 g
  have eF : F__law_wrong [.dct kD [a, b, c]] g = kF (b__law_wrong [.sh (.dct kD [a, b, c]), .unset, .unset, .unset, .unset, .unset] g) := by
    simp only [F__law_wrong, EV4, Nat.reduceSub]
  rw [eF]
  have eB : b__law_wrong = dSeq (dIfS (dNot (dT (dCall F__law_mark (dCons (d2 oGet (dBor 0) (dC (.str "first"))) (dCons (dC (.int 0)) dNil))))) (dRet (dC (.str "first"))) dSkip) (dSeq (dIfS (dAnd (d2 oNotN (d2 oGet (dBor 0) (dC (.str "second"))) (dC .non)) (dNot (dT (dCall F__law_mark (dCons (d2 oGet (dBor 0) (dC (.str "second"))) (dCons (dCB oMax (dCons (dC (.int 1)) (dCons (d2 oGet (dBor 0) (dC (.str "first"))) dNil))) dNil)))))) (dRet (dC (.str "second"))) dSkip) wT) := rfl
  rw [eB]
  cases t1 with
  | false =>
    simp only [EV1, EV2, EV3, EV4, g1, l1, Bool.not_false, if_true]
    rfl
  | true =>
    obtain ⟨z, rfl, hb⟩ := h.s2 rfl
    have mx : (if z > 1 then z else 1) = big z := rfl
    rcases hb with ⟨rfl, rfl⟩ | ⟨nb, _, l2⟩
    · simp only [EV1, EV2, EV3, EV4, g1, g2, l1, Bool.not_true, Bool.false_eq_true, if_false]
      rw [ct]
      rfl
    · have l2 := l2 g
      cases t2 with
      | false =>
        simp only [EV1, EV2, EV3, EV4, g1, g2, l1, nb, mx, l2, Bool.not_true, Bool.not_false, Bool.false_eq_true, if_false, if_true]
        rfl
      | true =>
        simp only [EV1, EV2, EV3, EV4, g1, g2, l1, nb, mx, l2, Bool.not_true, Bool.not_false, Bool.false_eq_true, if_false, if_true]
        rw [ct]
        rfl
theorem flds : (∀ (d : Dat) (l : List Slot), dFld 0 "begun" (dVar 1) (.self [] [] :: .sh d :: l) g = .ok (.nx (.self ["begun"] [d] :: .sh d :: l)) g) ∧ (∀ (c d : Dat) (l : List Slot), dFld 0 "later" (dVar 2) (.self ["begun"] [c] :: .sh c :: .sh d :: l) g = .ok (.nx (.self ["begun", "later"] [c, d] :: .sh c :: .sh d :: l)) g) ∧
    ∀ (c d e : Dat) (l : List Slot), dFld 0 "part" (dVar 3) (.self ["begun", "later"] [c, d] :: .sh c :: .sh d :: .sh e :: l) g = .ok (.nx (.self ["begun", "later", "part"] [c, d, e] :: .sh c :: .sh d :: .sh e :: l)) g := by
  have n1 : (("later" : Str) ∉ (["begun"] : List Str)) := by decide +kernel
  have n2 : (("part" : Str) ∉ (["begun", "later"] : List Str)) := by decide +kernel
  exact ⟨fun d l => fld_ev (ks := []) (l := []) rfl (fun h => nomatch h) (by decide) rfl, fun c d l => fld_ev (ks := ["begun"]) (l := [c]) rfl n1 (by decide) rfl, fun c d e l => fld_ev (ks := ["begun", "later"]) (l := [c, d]) rfl n2 (by decide) rfl⟩
def outR (a b c : Dat) (t1 t2 t3 : Bool) (g : Gl) : Rs (List Str × List Dat) := if t1 = true then (if t2 = true then (if t3 = true then .ok (kR, [a, b, c]) g else .er (erN "share") g) else .er (erN "second") g) else .er (erN "first") g
theorem ruleC_ev (h : Chk a b c t1 t2 t3) : F_Rule [a, b, c] g = outR a b c t1 t2 t3 g := by
  have w1 := h.w1 g
  have s1 := h.c1 g
  obtain ⟨f1, f2, f3⟩ := flds (g := g)
  cases t1 with
  | false =>
    simp only [F_Rule, b_Rule, EV1, EV2, EV3, EV4, EV8, few, Nat.reduceAdd, Nat.reduceSub, Nat.reduceLeDiff, w1, Bool.not_false, if_true]
    rfl
  | true =>
    obtain ⟨z, rfl, hb⟩ := h.s2 rfl
    have mx : (if z > 1 then z else 1) = big z := rfl
    rcases hb with ⟨rfl, rfl⟩ | ⟨nb, w2, _⟩
    · cases t3 with
      | false =>
        simp only [F_Rule, b_Rule, EV1, EV2, EV3, EV4, EV8, few, Nat.reduceAdd, Nat.reduceSub, Nat.reduceLeDiff, w1, s1, Bool.not_true, Bool.not_false, Bool.false_eq_true, if_true, if_false]
        rfl
      | true =>
        simp only [F_Rule, b_Rule, EV1, EV2, EV3, EV4, EV8, few, Nat.reduceAdd, Nat.reduceSub, Nat.reduceLeDiff, w1, s1, f1, f2, f3, Bool.not_true, Bool.not_false, Bool.false_eq_true, if_true, if_false]
        rfl
    · have w2 := w2 g
      cases t2 with
      | false =>
        simp only [F_Rule, b_Rule, EV1, EV2, EV3, EV4, EV8, few, Nat.reduceAdd, Nat.reduceSub, Nat.reduceLeDiff, w1, nb, mx, w2, Bool.not_true, Bool.not_false, Bool.false_eq_true, if_true, if_false]
        rfl
      | true =>
        cases t3 with
        | false =>
          simp only [F_Rule, b_Rule, EV1, EV2, EV3, EV4, EV8, few, Nat.reduceAdd, Nat.reduceSub, Nat.reduceLeDiff, w1, nb, mx, w2, s1, Bool.not_true, Bool.not_false, Bool.false_eq_true, if_true, if_false]
          rfl
        | true =>
          simp only [F_Rule, b_Rule, EV1, EV2, EV3, EV4, EV8, few, Nat.reduceAdd, Nat.reduceSub, Nat.reduceLeDiff, w1, nb, mx, w2, s1, f1, f2, f3, Bool.not_true, Bool.not_false, Bool.false_eq_true, if_true, if_false]
          rfl
theorem refused_ev (h : Chk a b c t1 t2 t3) : F__law_refused [.dct kD [a, b, c]] g = .ok (resD t1 t2 t3) g := by
  have r1 := ruleC_ev (g := g) h
  obtain ⟨g1, g2, g3⟩ := gets (a := a) (b := b) (c := c)
  have n1 : ∀ d : Dat, noExc [.sh d, .sh .non, .unset] = true := fun _ => rfl
  have er : ∀ x : Str, F_Rule [a, b, c] g = .er (erN x) g → F__law_refused [.dct kD [a, b, c]] g = .ok (.str x) g := fun x r1 => by
    have e1 : F__law_made [.dct kD [a, b, c]] g = .er (erN x) g := by
      simp only [F__law_made, b__law_made, EV1, EV2, EV3, EV4, EV8, few, Nat.reduceAdd, Nat.reduceSub, Nat.reduceLeDiff, g1, g2, g3, r1]
    have m1 : mEx erS 0 (erN x).c = some true := rfl
    have x1 : kXf 0 "name" (some (.exc (erN x))) g = .ok (.str x) g := rfl
    have n2 : ∀ d e : Dat, noExc ([Slot.sh d, .sh e, .exc (erN x)].set 2 .unset) = true := fun _ _ => rfl
    simp only [F__law_refused, b__law_refused, EV1, EV2, EV3, EV4, EV5, EV7, EV8, few, Nat.reduceAdd, Nat.reduceSub, Nat.reduceLeDiff, e1, n1]
    simp only [m1, EV7]
    simp only [EV1, EV2, EV3, EV4, EV5, EV7, EV8, few, Nat.reduceAdd, Nat.reduceSub, Nat.reduceLeDiff, x1]
  have ok : F_Rule [a, b, c] g = .ok (kR, [a, b, c]) g → F__law_refused [.dct kD [a, b, c]] g = .ok .non g := fun r1 => by
    have e1 : F__law_made [.dct kD [a, b, c]] g = .ok (.rul a b c) g := by
      simp only [F__law_made, b__law_made, EV1, EV2, EV3, EV4, EV8, few, Nat.reduceAdd, Nat.reduceSub, Nat.reduceLeDiff, g1, g2, g3, r1, rulOf_ev]
    simp only [F__law_refused, b__law_refused, EV1, EV2, EV3, EV4, EV5, EV7, EV8, few, Nat.reduceAdd, Nat.reduceSub, Nat.reduceLeDiff, e1, n1]
  cases t1 with
  | false => exact er "first" r1
  | true =>
    cases t2 with
    | false => exact er "second" r1
    | true =>
      cases t3 with
      | false => exact er "share" r1
      | true => exact ok r1
end
end W

/-! the whole law -/
namespace W
open PySem L2 DL
/-! ### what is drawn, as a dict of one's own -/
theorem drawnY_ev {ns : List Int} {r g : Gl} (h : Row ns r g) : ∃ (l : List Dat) (g' : Gl), F__law_drawn_Y [.mref 0] g = .ok (kD, l) g' ∧ .dct kD l ∈ drawns ∧ Row ns r g' := by
  obtain ⟨z1, g1, e1, a1, b1, h1⟩ := taken_ev h (m := 6) (by decide) (by decide)
  obtain ⟨f0, hf0, ef⟩ := atI_ex (l := [Dat.int 0, .int 1, .int 2, .int 3, .int 5, .int 8]) a1 b1
  obtain ⟨f, rfl, hf⟩ : ∃ f : Int, f0 = .int f ∧ f ∈ firsts := by
    simp only [List.mem_cons, List.not_mem_nil, or_false] at hf0
    rcases hf0 with rfl | rfl | rfl | rfl | rfl | rfl <;> exact ⟨_, rfl, by decide⟩
  obtain ⟨z2, g2, e2, a2, b2, h2⟩ := taken_ev h1 (m := 2) (by decide) (by decide)
  have g0 : ∀ a b : Dat, oGet (.dct ["first", "second"] [a, b]) (.str "first") = some a := fun _ _ => rfl
  have p2 : ∀ a b d : Dat, putD ["first", "second"] [a, b] "second" d = ((["first", "second"] : List Str), [a, d]) := fun _ _ _ => rfl
  have p3 : ∀ a b d : Dat, putD ["first", "second"] [a, b] "share" d = ((["first", "second", "share"] : List Str), [a, b, d]) := fun _ _ _ => rfl
  have yA : ∀ x1 : Slot, dOwnD 1 ["first", "second"] (dArgs [dIx (dFz (dLst (dCons (dC (.int 0)) (dCons (dC (.int 1)) (dCons (dC (.int 2)) (dCons (dC (.int 3)) (dCons (dC (.int 5)) (dCons (dC (.int 8)) dNil)))))))) (dCall F__law_taken (dCons (dVar 0) (dCons (dC (.int 6)) dNil))), dC .non]) [.sh (.mref 0), x1] g = .ok (.nx [.sh (.mref 0), .ownD ["first", "second"] [.int f, .non]]) g1 := fun x1 => by
    simp only [EV1, EV2, EV3, EV4, few, Nat.reduceAdd, Nat.reduceLeDiff, e1, ef]
  have fin : ∀ (s : Dat) (g3 : Gl), s ∈ seconds f → Row ns r g3 → dIfS (d2 eqD (dCall F__law_taken (dCons (dVar 0) (dCons (dC (.int 2)) dNil))) (dC (.int 0))) (dPutO 1 "second" (d2 oAdd (dCB oMax (dCons (dC (.int 1)) (dCons (d2 oGet (dBor 1) (dC (.str "first"))) dNil))) (dCall F__law_taken (dCons (dVar 0) (dCons (dC (.int 4)) dNil))))) dSkip [.sh (.mref 0), .ownD ["first", "second"] [.int f, .non]] g1 = .ok (.nx [.sh (.mref 0), .ownD ["first", "second"] [.int f, s]]) g3 →
      ∃ (l : List Dat) (g' : Gl), F__law_drawn_Y [.mref 0] g = .ok (kD, l) g' ∧ .dct kD l ∈ drawns ∧ Row ns r g' := fun s g3 hs h3 yB => by
    obtain ⟨z4, g4, e4, a4, b4, h4⟩ := taken_ev h3 (m := 6) (by decide) (by decide)
    obtain ⟨p, hp, ep⟩ := atI_ex (l := shares) a4 b4
    have ep' : atI [Dat.tup [.int 1, .int 1], .tup [.int 1, .int 1], .tup [.int 1, .int 2], .tup [.int 2, .int 3], .tup [.int 8, .int 9], .tup [.int 1, .int 9]] z4 = some p := ep
    refine ⟨[.int f, s, p], g4, ?_, List.mem_flatMap.mpr ⟨f, hf, List.mem_flatMap.mpr ⟨s, hs, List.mem_map.mpr ⟨p, hp, rfl⟩⟩⟩, h4⟩
    have yC : dPutO 1 "share" (dIx (dFz (dLst (dCons (dTup (dCons (dC (.int 1)) (dCons (dC (.int 1)) dNil))) (dCons (dTup (dCons (dC (.int 1)) (dCons (dC (.int 1)) dNil))) (dCons (dTup (dCons (dC (.int 1)) (dCons (dC (.int 2)) dNil))) (dCons (dTup (dCons (dC (.int 2)) (dCons (dC (.int 3)) dNil))) (dCons (dTup (dCons (dC (.int 8)) (dCons (dC (.int 9)) dNil))) (dCons (dTup (dCons (dC (.int 1)) (dCons (dC (.int 9)) dNil))) dNil)))))))) (dCall F__law_taken (dCons (dVar 0) (dCons (dC (.int 6)) dNil)))) [.sh (.mref 0), .ownD ["first", "second"] [.int f, s]] g3 = .ok (.nx [.sh (.mref 0), .ownD ["first", "second", "share"] [.int f, s, p]]) g4 := by
      simp only [EV1, EV2, EV3, EV4, ev_put, few, Nat.reduceAdd, Nat.reduceLeDiff, Nat.reduceLT, e4, ep', p3]
    show b__law_drawn_Y [.sh (.mref 0), .unset] g = _
    unfold b__law_drawn_Y
    rw [seqY_ev (yA _), seqY_ev yB, seqY_ev yC]
    rfl
  by_cases hz : z2 = 0
  · obtain ⟨z3, g3, e3, a3, b3, h3⟩ := taken_ev h2 (m := 4) (by decide) (by decide)
    refine fin (.int (big1 f + z3)) g3 ?_ h3 ?_
    · refine List.mem_cons_of_mem _ (List.mem_map.mpr ⟨z3, ?_, rfl⟩)
      have : z3 = 0 ∨ z3 = 1 ∨ z3 = 2 ∨ z3 = 3 := by omega
      rcases this with rfl | rfl | rfl | rfl <;> decide
    · have em : (if f > 1 then f else 1) = big1 f := rfl
      simp only [EV1, EV2, EV3, EV4, ev_put, few, Nat.reduceAdd, Nat.reduceLeDiff, Nat.reduceLT, e2, decide_eq_true hz, if_true, e3, g0, p2, em]
  · refine fin .non g2 (List.mem_cons_self) h2 ?_
    simp only [EV1, EV2, EV3, EV4, few, Nat.reduceAdd, Nat.reduceLeDiff, e2, decide_eq_false hz, Bool.false_eq_true, if_false]
/-! ### the first checks, for all that are drawn -/
def t2 : DS := dAsg 5 (dLend 4 (dCall F__law_made (dCons (dVar 4) dNil)))
def t3 : DS := dIfS (dOr (d2 neD (dFz (dLst (dCons (dPropR F_Rule_first (dBor 5)) (dCons (dPropR F_Rule_second (dBor 5)) dNil)))) (dFz (dLst (dCons (d2 oGet (dBor 4) (dC (.str "first"))) (dCons (d2 oGet (dBor 4) (dC (.str "second"))) dNil))))) (dOr (d2 neD (dPropR F_Rule_share (dBor 5)) (d2 oGet (dBor 4) (dC (.str "share")))) (dLendT 4 (d2 eqRD (dBor 5) (dVar 4))))) (dRet (dC (.bl false))) dSkip
def t4 : DS := dIfS (d2 neD (dPropR F_Rule_start (dBor 5)) (dLend 4 (dCall F__law_start (dCons (dVar 4) dNil)))) (dRet (dC (.bl false))) dSkip
def t5 : DS := dAsg 6 (dIf (d2 eqD (dCall F__law_taken (dCons (dVar 1) (dCons (dC (.int 2)) dNil))) (dC (.int 0))) (dCall F__law_drawn (dCons (dVar 1) dNil)) (dCB oDictD (dCons (dBor 4) dNil)))
def t6 : DS := dIfS (d2 neD (dB (d2 eqRD (dCall F__law_made (dCons (dVar 6) dNil)) (dVar 5))) (dB (d2 eqDc (dBor 6) (dBor 4)))) (dRet (dC (.bl false))) dSkip
def t7 : DS := dFor (dOpA rng1 (dCons (d2 oAdd (dC (.int 1)) (dCall F__law_taken (dCons (dVar 1) (dCons (dC (.int 2)) dNil)))) dNil)) (gN 7) lp_law_2
def t8 : DS := dIfS (d2 neD (dLend 4 (dCall F__law_refused (dCons (dVar 4) dNil))) (dLend 4 (dCall F__law_wrong (dCons (dVar 4) dNil)))) (dRet (dC (.bl false))) dSkip
def t1 : DS := dOwnY 4 (dCallY F__law_drawn_Y (dCons (dVar 1) dNil))
theorem lp_is : lp_law_1 = dSeq t1 (dSeq (dSeq t2 (dSeq t3 t4)) (dSeq t5 (dSeq t6 (dSeq t7 t8)))) := by
  unfold lp_law_1 t1 t2 t3 t4 t5 t6 t7 t8
  simp only [seq_assoc]
def ruleD : Dat → Dat
  | .dct _ [f, s, p] => .rul f s p
  | _ => .non
def valsD : Dat → List Dat
  | .dct _ l => l
  | _ => []
def drawnF (f : Int) : List Dat := (seconds f).flatMap fun s => shares.map fun p => .dct ["first", "second", "share"] [.int f, s, p]
theorem all_6 {P : Dat → Prop} (h0 : ∀ d ∈ drawnF 0, P d) (h1 : ∀ d ∈ drawnF 1, P d) (h2 : ∀ d ∈ drawnF 2, P d) (h3 : ∀ d ∈ drawnF 3, P d) (h5 : ∀ d ∈ drawnF 5, P d) (h8 : ∀ d ∈ drawnF 8, P d) : ∀ d ∈ drawns, P d := fun d hd => by
  obtain ⟨f, hf, hd⟩ := List.mem_flatMap.mp hd
  simp only [firsts, List.mem_cons, List.not_mem_nil, or_false] at hf
  rcases hf with rfl | rfl | rfl | rfl | rfl | rfl
  · exact h0 d hd
  · exact h1 d hd
  · exact h2 d hd
  · exact h3 d hd
  · exact h5 d hd
  · exact h8 d hd
theorem ck_0 (x0 x1 x2 x3 x5 x6 x7 x8 : Slot) (ns : List Int) (a b c : Int) : (drawnF 0).map (fun d => (dSeq t2 (dSeq t3 t4)) [x0, x1, x2, x3, .ownD kD (valsD d), x5, x6, x7, x8] [.lst [.scr ns, .int a, .int b, .int c]]) = (drawnF 0).map fun d => .ok (.nx [x0, x1, x2, x3, .ownD kD (valsD d), .sh (ruleD d), x6, x7, x8]) [.lst [.scr ns, .int a, .int b, .int c]] := by kernel_rfl
theorem md_0 (g : Gl) : (drawnF 0).map (fun d => F__law_made [d] g) = (drawnF 0).map fun d => .ok (ruleD d) g := by kernel_rfl
theorem ck_1 (x0 x1 x2 x3 x5 x6 x7 x8 : Slot) (ns : List Int) (a b c : Int) : (drawnF 1).map (fun d => (dSeq t2 (dSeq t3 t4)) [x0, x1, x2, x3, .ownD kD (valsD d), x5, x6, x7, x8] [.lst [.scr ns, .int a, .int b, .int c]]) = (drawnF 1).map fun d => .ok (.nx [x0, x1, x2, x3, .ownD kD (valsD d), .sh (ruleD d), x6, x7, x8]) [.lst [.scr ns, .int a, .int b, .int c]] := by kernel_rfl
theorem md_1 (g : Gl) : (drawnF 1).map (fun d => F__law_made [d] g) = (drawnF 1).map fun d => .ok (ruleD d) g := by kernel_rfl
theorem ck_2 (x0 x1 x2 x3 x5 x6 x7 x8 : Slot) (ns : List Int) (a b c : Int) : (drawnF 2).map (fun d => (dSeq t2 (dSeq t3 t4)) [x0, x1, x2, x3, .ownD kD (valsD d), x5, x6, x7, x8] [.lst [.scr ns, .int a, .int b, .int c]]) = (drawnF 2).map fun d => .ok (.nx [x0, x1, x2, x3, .ownD kD (valsD d), .sh (ruleD d), x6, x7, x8]) [.lst [.scr ns, .int a, .int b, .int c]] := by kernel_rfl
theorem md_2 (g : Gl) : (drawnF 2).map (fun d => F__law_made [d] g) = (drawnF 2).map fun d => .ok (ruleD d) g := by kernel_rfl
theorem ck_3 (x0 x1 x2 x3 x5 x6 x7 x8 : Slot) (ns : List Int) (a b c : Int) : (drawnF 3).map (fun d => (dSeq t2 (dSeq t3 t4)) [x0, x1, x2, x3, .ownD kD (valsD d), x5, x6, x7, x8] [.lst [.scr ns, .int a, .int b, .int c]]) = (drawnF 3).map fun d => .ok (.nx [x0, x1, x2, x3, .ownD kD (valsD d), .sh (ruleD d), x6, x7, x8]) [.lst [.scr ns, .int a, .int b, .int c]] := by kernel_rfl
theorem md_3 (g : Gl) : (drawnF 3).map (fun d => F__law_made [d] g) = (drawnF 3).map fun d => .ok (ruleD d) g := by kernel_rfl
theorem ck_5 (x0 x1 x2 x3 x5 x6 x7 x8 : Slot) (ns : List Int) (a b c : Int) : (drawnF 5).map (fun d => (dSeq t2 (dSeq t3 t4)) [x0, x1, x2, x3, .ownD kD (valsD d), x5, x6, x7, x8] [.lst [.scr ns, .int a, .int b, .int c]]) = (drawnF 5).map fun d => .ok (.nx [x0, x1, x2, x3, .ownD kD (valsD d), .sh (ruleD d), x6, x7, x8]) [.lst [.scr ns, .int a, .int b, .int c]] := by kernel_rfl
theorem md_5 (g : Gl) : (drawnF 5).map (fun d => F__law_made [d] g) = (drawnF 5).map fun d => .ok (ruleD d) g := by kernel_rfl
theorem ck_8 (x0 x1 x2 x3 x5 x6 x7 x8 : Slot) (ns : List Int) (a b c : Int) : (drawnF 8).map (fun d => (dSeq t2 (dSeq t3 t4)) [x0, x1, x2, x3, .ownD kD (valsD d), x5, x6, x7, x8] [.lst [.scr ns, .int a, .int b, .int c]]) = (drawnF 8).map fun d => .ok (.nx [x0, x1, x2, x3, .ownD kD (valsD d), .sh (ruleD d), x6, x7, x8]) [.lst [.scr ns, .int a, .int b, .int c]] := by kernel_rfl
theorem md_8 (g : Gl) : (drawnF 8).map (fun d => F__law_made [d] g) = (drawnF 8).map fun d => .ok (ruleD d) g := by kernel_rfl
theorem ck_ev (x0 x1 x2 x3 x5 x6 x7 x8 : Slot) (ns : List Int) (a b c : Int) : ∀ d ∈ drawns, (dSeq t2 (dSeq t3 t4)) [x0, x1, x2, x3, .ownD kD (valsD d), x5, x6, x7, x8] [.lst [.scr ns, .int a, .int b, .int c]] = .ok (.nx [x0, x1, x2, x3, .ownD kD (valsD d), .sh (ruleD d), x6, x7, x8]) [.lst [.scr ns, .int a, .int b, .int c]] :=
  all_6 (of_map (ck_0 x0 x1 x2 x3 x5 x6 x7 x8 ns a b c)) (of_map (ck_1 x0 x1 x2 x3 x5 x6 x7 x8 ns a b c)) (of_map (ck_2 x0 x1 x2 x3 x5 x6 x7 x8 ns a b c)) (of_map (ck_3 x0 x1 x2 x3 x5 x6 x7 x8 ns a b c)) (of_map (ck_5 x0 x1 x2 x3 x5 x6 x7 x8 ns a b c)) (of_map (ck_8 x0 x1 x2 x3 x5 x6 x7 x8 ns a b c))
theorem md_ev (g : Gl) : ∀ d ∈ drawns, F__law_made [d] g = .ok (ruleD d) g := all_6 (of_map (md_0 g)) (of_map (md_1 g)) (of_map (md_2 g)) (of_map (md_3 g)) (of_map (md_5 g)) (of_map (md_8 g))
theorem drawn_is {d : Dat} (h : d ∈ drawns) : ∃ (f : Int) (s p : Dat), d = .dct kD [.int f, s, p] ∧ (s = .non ∨ ∃ z : Int, s = .int z) ∧ p ∈ shares := by
  obtain ⟨f, hf, h⟩ := List.mem_flatMap.mp h
  obtain ⟨s, hs, h⟩ := List.mem_flatMap.mp h
  obtain ⟨p, hp, rfl⟩ := List.mem_map.mp h
  refine ⟨f, s, p, rfl, ?_, hp⟩
  rcases List.mem_cons.mp hs with rfl | hs
  · exact .inl rfl
  · obtain ⟨k, _, rfl⟩ := List.mem_map.mp hs
    exact .inr ⟨_, rfl⟩
theorem pl_share : ∀ p ∈ shares, Pl 1 p := fun p hp => by
  simp only [shares, List.mem_cons, List.not_mem_nil, or_false] at hp
  rcases hp with rfl | rfl | rfl | rfl | rfl | rfl <;> exact .tup fun d hd => by
    simp only [List.mem_cons, List.not_mem_nil, or_false] at hd
    rcases hd with rfl | rfl <;> exact .int
theorem pl_vals {f : Int} {s p : Dat} (hs : s = .non ∨ ∃ z : Int, s = .int z) (hp : p ∈ shares) : Pl 2 (.tup [.int f, s, p]) := .tup fun d hd => by
  simp only [List.mem_cons, List.not_mem_nil, or_false] at hd
  rcases hd with rfl | rfl | rfl
  · exact .int
  · rcases hs with rfl | ⟨z, rfl⟩
    · exact .non
    · exact .int
  · exact pl_share _ hp
theorem eq_some {m n : Nat} {d e : Dat} (hd : Pl m d) (he : Pl n e) (hm : m ≤ 64) (hn : n ≤ 64) : ∃ z, eqD d e = some z := by
  obtain ⟨p, h1, h2, h3⟩ := hd.py
  obtain ⟨q, h4, h5, h6⟩ := he.py
  have s1 : SeqAt.shaped p = true := Bool.and_eq_true_iff.mpr ⟨h2, decide_eq_true (by omega)⟩
  have s2 : SeqAt.shaped q = true := Bool.and_eq_true_iff.mpr ⟨h5, decide_eq_true (by omega)⟩
  refine ⟨PyData.eqv p q, ?_⟩
  unfold eqD
  rw [h1, h4]
  show (if SeqAt.shaped p = true ∧ SeqAt.shaped q = true then some (PyData.eqv p q) else none) = _
  rw [if_pos ⟨s1, s2⟩]
theorem ne_bl (z : Bool) : neD (.bl z) (.bl z) = some false := by cases z <;> kernel_rfl
theorem eqs {d e : Dat} (hd : d ∈ drawns) (he : e ∈ drawns) : ∃ z, eqRD (ruleD e) (ruleD d) = some z ∧ eqDc e d = some z := by
  obtain ⟨f, s, p, rfl, hs, hp⟩ := drawn_is hd
  obtain ⟨f2, s2, p2, rfl, hs2, hp2⟩ := drawn_is he
  obtain ⟨z, hz⟩ := eq_some (pl_vals (f := f2) hs2 hp2) (pl_vals (f := f) hs hp) (by decide) (by decide)
  refine ⟨z, hz, ?_⟩
  have nd : (kD : List Str).Nodup := by decide +kernel
  show (if kD = kD ∧ (kD : List Str).Nodup then eqD (.tup [.int f2, s2, p2]) (.tup [.int f, s, p]) else none) = _
  rw [if_pos ⟨rfl, nd⟩, hz]
/-! ### values put in -/
theorem odd_ex {z : Int} (h0 : 0 ≤ z) (h1 : z < 19) : ∃ v ∈ oddL, atI oddL z = some v := atI_ex (l := oddL) h0 h1
theorem odd_len : (oddL.length : Int) = 19 := rfl
theorem name_ex {z : Int} (h0 : 0 ≤ z) (h1 : z < 3) : ∃ x : Str, (x = "first" ∨ x = "second" ∨ x = "share") ∧ atI [Dat.str "first", .str "second", .str "share"] z = some (.str x) := by
  have : z = 0 ∨ z = 1 ∨ z = 2 := by omega
  rcases this with rfl | rfl | rfl
  · exact ⟨_, .inl rfl, rfl⟩
  · exact ⟨_, .inr (.inl rfl), rfl⟩
  · exact ⟨_, .inr (.inr rfl), rfl⟩
theorem putK_ev {i : Nat} {fk fe : DE} {ds : DEnv} {g g1 g2 : Gl} {l : List Dat} {v : Dat} {x : Str} (h : ds[i]? = some (.ownD kD l)) (he : fe ds g = .ok v g1) (hk : fk ds g1 = .ok (.str x) g2) : dPutK i fk fe ds g = .ok (.nx (ds.set i (.ownD (putD kD l x v).1 (putD kD l x v).2))) g2 := by
  unfold dPutK
  rw [h]
  show (if (kD : List Str).length < 1000 then _ else _) = _
  rw [if_pos (by decide)]
  show (fe ds g).bind _ = _
  rw [he]
  show (fk ds g1).bind _ = _
  rw [hk]
  rfl
structure Vals (l : List Dat) : Prop where
  is : ∃ a b c, l = [a, b, c] ∧ V1 a ∧ V2 b ∧ c ∈ allC
theorem vals_put {l : List Dat} {x : Str} {v : Dat} (h : Vals l) (hx : x = "first" ∨ x = "second" ∨ x = "share") (hv : v ∈ oddL) : ∃ l', putD kD l x v = (kD, l') ∧ Vals l' := by
  obtain ⟨a, b, c, rfl, ha, hb, hc⟩ := h.is
  rcases hx with rfl | rfl | rfl
  · exact ⟨[v, b, c], rfl, ⟨_, _, _, rfl, odd_v1 v hv, hb, hc⟩⟩
  · exact ⟨[a, v, c], rfl, ⟨_, _, _, rfl, ha, odd_v2 v hv, hc⟩⟩
  · exact ⟨[a, b, v], rfl, ⟨_, _, _, rfl, ha, hb, List.mem_append_right _ hv⟩⟩
theorem vals_drawn {d : Dat} (h : d ∈ drawns) : Vals (valsD d) := by
  obtain ⟨f, s, p, rfl, hs, hp⟩ := drawn_is h
  refine ⟨_, _, _, rfl, .inl ⟨f, rfl⟩, ?_, List.mem_append_left _ hp⟩
  rcases hs with rfl | ⟨z, rfl⟩
  · exact .inl rfl
  · exact .inr ⟨rfl, .inl ⟨z, rfl⟩⟩
abbrev E9 (x0 x3 : Slot) (l : List Dat) (x5 x6 x7 x8 : Slot) : DEnv := [x0, .sh (.mref 0), .sh (.lst oddL), x3, .ownD kD l, x5, x6, x7, x8]
theorem lp2_ev {ns : List Int} {x0 x3 x5 x6 x7 x8 : Slot} {l : List Dat} {g : Gl} (h : Row ns [] g) (hl : Vals l) : ∃ l' y8 g', lp_law_2 (E9 x0 x3 l x5 x6 x7 x8) g = .ok (.nx (E9 x0 x3 l' x5 x6 x7 y8)) g' ∧ Vals l' ∧ Row ns [] g' := by
  obtain ⟨z1, g1, e1, a1, b1, h1⟩ := taken_ev h (m := 3) (by decide) (by decide)
  obtain ⟨x, hx, ex⟩ := name_ex a1 b1
  obtain ⟨z2, g2, e2, a2, b2, h2⟩ := taken_ev h1 (m := 19) (by decide) (by decide)
  obtain ⟨v, hv, ev⟩ := odd_ex a2 b2
  obtain ⟨l', ep, hl'⟩ := vals_put hl hx hv
  refine ⟨l', .sh (.str x), g2, ?_, hl', h2⟩
  have s1 : dAsg 8 (dIx (dFz (dLst (dCons (dC (.str "first")) (dCons (dC (.str "second")) (dCons (dC (.str "share")) dNil))))) (dCall F__law_taken (dCons (dVar 1) (dCons (dC (.int 3)) dNil)))) (E9 x0 x3 l x5 x6 x7 x8) g = .ok (.nx (E9 x0 x3 l x5 x6 x7 (.sh (.str x)))) g1 := by
    simp only [E9, EV1, EV2, EV3, EV4, few, Nat.reduceAdd, Nat.reduceLeDiff, e1, ex]
  have s2 := putK_ev (i := 4) (fk := dVar 8) (fe := dIx (dBor 2) (dCall F__law_taken (dCons (dVar 1) (dCons (dCB oLen (dCons (dBor 2) dNil)) dNil)))) (ds := E9 x0 x3 l x5 x6 x7 (.sh (.str x))) (g := g1) (g1 := g2) (g2 := g2) (l := l) (v := v) (x := x) rfl (by
    simp only [E9, EV1, EV2, EV3, EV4, odd_len, e2, ev]) rfl
  rw [ep] at s2
  unfold lp_law_2
  rw [seq_ev s1, s2]
  rfl
theorem row_no {ns : List Int} {g : Gl} (h : Row ns [] g) : noDctG g = true := by
  obtain ⟨a, b, c, rfl, _⟩ := h
  rfl
theorem lend_ev {i : Nat} {f : DE} {ds : DEnv} {g g' : Gl} {ks : List Str} {l : List Dat} {d : Dat} (h : ds[i]? = some (.ownD ks l)) (hf : f (ds.set i (.sh (.dct ks l))) g = .ok d g') (h1 : noDct d = true) (h2 : noDctG g' = true) : dLend i f ds g = .ok d g' := by
  unfold dLend
  rw [h]
  show lendR (f (ds.set i (.sh (.dct ks l))) g) = _
  rw [hf]
  show (if (noDct d && noDctG g') = true then Rs.ok d g' else .no) = _
  rw [h1, h2]
  rfl
theorem t8_ev {ns : List Int} {x0 x3 x5 x6 x7 x8 : Slot} {l : List Dat} {g : Gl} (h : Row ns [] g) (hl : Vals l) : t8 (E9 x0 x3 l x5 x6 x7 x8) g = .ok (.nx (E9 x0 x3 l x5 x6 x7 x8)) g := by
  obtain ⟨a, b, c, rfl, ha, hb, hc⟩ := hl.is
  obtain ⟨q1, q2, q3, ck⟩ := chk_ex ha hb hc
  have r1 := refused_ev (g := g) ck
  have r2 := wrong_ev (g := g) ck
  have ng := row_no h
  have l1 := lend_ev (i := 4) (f := dCall F__law_refused (dCons (dVar 4) dNil)) (ds := E9 x0 x3 [a, b, c] x5 x6 x7 x8) (g := g) (g' := g) (d := resD q1 q2 q3) rfl (by simp only [E9, EV1, EV2, EV4, r1]) (res_no _ _ _) ng
  have l2 := lend_ev (i := 4) (f := dCall F__law_wrong (dCons (dVar 4) dNil)) (ds := E9 x0 x3 [a, b, c] x5 x6 x7 x8) (g := g) (g' := g) (d := resD q1 q2 q3) rfl (by simp only [E9, EV1, EV2, EV4, r2]) (res_no _ _ _) ng
  have ne := res_ne q1 q2 q3
  simp only [t8, EV1, EV2, EV3, l1, l2, ne, Bool.false_eq_true, if_false]
def In9 (ns : List Int) (x0 x3 x5 x6 : Slot) (ds : DEnv) (g : Gl) : Prop := ∃ (l : List Dat) (x7 x8 : Slot), ds = E9 x0 x3 l x5 x6 x7 x8 ∧ Vals l ∧ Row ns [] g
theorem t7_ev {ns : List Int} {x0 x3 x5 x6 x7 x8 : Slot} {l : List Dat} {g : Gl} (h : Row ns [] g) (hl : Vals l) : ∃ ds' g', t7 (E9 x0 x3 l x5 x6 x7 x8) g = .ok (.nx ds') g' ∧ In9 ns x0 x3 x5 x6 ds' g' := by
  obtain ⟨z, g1, e1, a1, b1, h1⟩ := taken_ev h (m := 2) (by decide) (by decide)
  obtain ⟨k, rfl⟩ : ∃ p : Nat, z = (p : Int) := ⟨z.toNat, by omega⟩
  have er : rng1 [.int (1 + (k : Int))] = some (rngL 0 (1 + k)) := by
    have f : (few : Int) = 100000 := rfl
    show (if -(few : Int) ≤ 1 + (k : Int) ∧ 1 + (k : Int) ≤ few then some (rngL 0 (1 + (k : Int)).toNat) else none) = _
    rw [if_pos (by rw [f]; omega)]
    congr 2
  obtain ⟨ds', g', el, hI⟩ := for_range (i := 7) (b := lp_law_2) (lo := 0) (n := 1 + k) (ds := E9 x0 x3 l x5 x6 x7 x8) (g := g1) (fun _ ds g' => In9 ns x0 x3 x5 x6 ds g')
    (fun j ds g' _ hI => by
      obtain ⟨l, x7, x8, rfl, hl, h⟩ := hI
      obtain ⟨l', y8, g2, e, hl', h'⟩ := lp2_ev (x0 := x0) (x3 := x3) (x5 := x5) (x6 := x6) (x7 := .sh (.int (0 + (j : Int)))) (x8 := x8) h hl
      exact ⟨_, g2, e, l', _, y8, rfl, hl', h'⟩) ⟨l, x7, x8, rfl, hl, h1⟩
  refine ⟨ds', g', ?_, hI⟩
  simp only [t7, E9, EV1, EV2, EV3, EV4, EV5, few, Nat.reduceAdd, Nat.reduceSub, Nat.reduceLeDiff, e1, er]
  exact el
def St (ns : List Int) (ds : DEnv) (g : Gl) : Prop := (∃ x3 x4 x5 x6 x7 x8 : Slot, ds = [.sh (.scr ns), .sh (.mref 0), .sh (.lst oddL), x3, x4, x5, x6, x7, x8]) ∧ Row ns [] g
theorem turn_ev {ns : List Int} {ds : DEnv} {g : Gl} {k : Int} (h : St ns ds g) : ∃ ds2 g2, lp_law_1 (ds.set 3 (.sh (.int k))) g = .ok (.nx ds2) g2 ∧ St ns ds2 g2 := by
  obtain ⟨⟨x3, x4, x5, x6, x7, x8, rfl⟩, hrow⟩ := h
  obtain ⟨l, g1, e1, hd, r1⟩ := drawnY_ev hrow
  have s1 : t1 [.sh (.scr ns), .sh (.mref 0), .sh (.lst oddL), .sh (.int k), x4, x5, x6, x7, x8] g = .ok (.nx (E9 (.sh (.scr ns)) (.sh (.int k)) l x5 x6 x7 x8)) g1 := by
    show ((F__law_drawn_Y [.mref 0] g).bind fun kl g => Rs.ok (Out.nx ([Slot.sh (.scr ns), .sh (.mref 0), .sh (.lst oddL), .sh (.int k), x4, x5, x6, x7, x8].set 4 (.ownD kl.1 kl.2))) g) = _
    rw [e1]
    rfl
  have s2 : (dSeq t2 (dSeq t3 t4)) (E9 (.sh (.scr ns)) (.sh (.int k)) l x5 x6 x7 x8) g1 = .ok (.nx (E9 (.sh (.scr ns)) (.sh (.int k)) l (.sh (ruleD (.dct kD l))) x6 x7 x8)) g1 := by
    obtain ⟨a, b, c, rfl, _⟩ := r1
    exact ck_ev (.sh (.scr ns)) (.sh (.mref 0)) (.sh (.lst oddL)) (.sh (.int k)) x5 x6 x7 x8 ns a b c (.dct kD l) hd
  have s5 : ∃ e g3, e ∈ drawns ∧ Row ns [] g3 ∧ t5 (E9 (.sh (.scr ns)) (.sh (.int k)) l (.sh (ruleD (.dct kD l))) x6 x7 x8) g1 = .ok (.nx (E9 (.sh (.scr ns)) (.sh (.int k)) l (.sh (ruleD (.dct kD l))) (.sh e) x7 x8)) g3 := by
    obtain ⟨z, g2, e2, a2, b2, r2⟩ := taken_ev r1 (m := 2) (by decide) (by decide)
    by_cases hz : z = 0
    · obtain ⟨e, g3, e3, he, r3⟩ := drawn_fin r2
      refine ⟨e, g3, he, r3, ?_⟩
      simp only [t5, E9, EV1, EV2, EV3, EV4, e2, decide_eq_true hz, e3, if_true]
    · refine ⟨.dct kD l, g2, hd, r2, ?_⟩
      have dd : oDictD g2 [.dct kD l] = some (.dct kD l) := rfl
      simp only [t5, E9, EV1, EV2, EV3, EV4, e2, decide_eq_false hz, dd, Bool.false_eq_true, if_false]
  obtain ⟨e, g3, he, r3, s5⟩ := s5
  obtain ⟨z, q1, q2⟩ := eqs hd he
  have m1 := md_ev g3 e he
  have nb := ne_bl z
  have s6 : t6 (E9 (.sh (.scr ns)) (.sh (.int k)) l (.sh (ruleD (.dct kD l))) (.sh e) x7 x8) g3 = .ok (.nx (E9 (.sh (.scr ns)) (.sh (.int k)) l (.sh (ruleD (.dct kD l))) (.sh e) x7 x8)) g3 := by
    simp only [t6, E9, EV1, EV2, EV3, EV4, m1, q1, q2, nb, Bool.false_eq_true, if_false]
  have hv : Vals l := vals_drawn hd
  obtain ⟨ds', g4, s7, l', y7, y8, rfl, hl', r4⟩ := t7_ev (x0 := .sh (.scr ns)) (x3 := .sh (.int k)) (x5 := .sh (ruleD (.dct kD l))) (x6 := .sh e) (x7 := x7) (x8 := x8) r3 hv
  have s8 := t8_ev (x0 := .sh (.scr ns)) (x3 := .sh (.int k)) (x5 := .sh (ruleD (.dct kD l))) (x6 := .sh e) (x7 := y7) (x8 := y8) r4 hl'
  refine ⟨E9 (.sh (.scr ns)) (.sh (.int k)) l' (.sh (ruleD (.dct kD l))) (.sh e) y7 y8, g4, ?_, ⟨_, _, _, _, _, _, rfl⟩, r4⟩
  show lp_law_1 [.sh (.scr ns), .sh (.mref 0), .sh (.lst oddL), .sh (.int k), x4, x5, x6, x7, x8] g = _
  rw [lp_is, seq_ev s1, seq_ev s2, seq_ev s5, seq_ev s6, seq_ev s7, s8]
theorem keeps : Keeps F_law := fun ns _ _ => by
  have h0 : Row ns [] [.lst [.scr ns, .int 0, .int 241, .int 0]] := ⟨0, 241, 0, rfl, by decide, by decide⟩
  obtain ⟨ds', g', el, _⟩ := for_range (i := 3) (b := lp_law_1) (lo := 0) (n := 8) (ds := [.sh (.scr ns), .sh (.mref 0), .sh (.lst oddL), .unset, .unset, .unset, .unset, .unset, .unset]) (g := [.lst [.scr ns, .int 0, .int 241, .int 0]])
    (fun _ ds g' => St ns ds g') (fun _ ds g' _ h => turn_ev h) ⟨⟨_, _, _, _, _, _, rfl⟩, h0⟩
  have hr : rng1 [.int 8] = some (rngL 0 8) := rfl
  have c1 : oCat (.lst [.int 0, .int 1, .int 2, .int 8, .int 20, .int 21, .int (-1), .non, .bl true, .str "1", .tup [.int 1, .int 1], .tup [.int 1, .int 2], .tup [.int 2, .int 4], .tup [.int 3, .int 2], .tup [.int 0, .int 1], .tup [.int 1, .int 10]]) (.lst [.tup [.int 1, .int 0], .lst [.int 1, .int 2], .tup [.bl true, .int 2]]) = some oddL := rfl
  have e' : F_law [.scr ns] [] = .ok (.bl true) g' := by
    simp only [F_law, b_law, EV1, EV2, EV3, EV4, EV5, few, Nat.reduceAdd, Nat.reduceSub, Nat.reduceLeDiff, c1, hr, el]
  rw [e']
  rfl
end W


namespace W
open PySem L2 DL
def topS (i : Nat) : Stmt := PySem.Challenge.pw_bestseen_k01_rules_refused.main.body.getD i (.Pass ⟨0, 0, 0, 0⟩)
abbrev s_InvalidPart : Stmt := inClass (topS 2) 0
theorem sc_InvalidPart : FnScope ["self", "name"] ["self", "name"] (defScope s_InvalidPart) := ⟨rfl, rfl, rfl, by decide +kernel, rfl, by decide +kernel, by decide +kernel⟩
theorem in_hu {k : Nat} {A : Around} (hr : Room k A) : A.units + 65 < cLine := by have := hr.un; omega
structure Tx (P : Program) (w : World) (mg : Str → Option Value) (base : Heap) (G : Gm) : Prop where
  c_MOST_MARK : CstK G.K mg "MOST_MARK" (.int 20)
  c_MOST_PARTS : CstK G.K mg "MOST_PARTS" (.int 9)
  c_ONE : CstK G.K mg "ONE" (.tup [(.int 1), (.int 1)])
  f_abs : mg "abs" = none
  f_bool : mg "bool" = none
  f_dict : mg "dict" = none
  f_int : mg "int" = none
  f_isinstance : mg "isinstance" = none
  f_len : mg "len" = none
  f_max : mg "max" = none
  f_range : mg "range" = none
  f_tuple : mg "tuple" = none
  e_InvalidPart : Er1 P w mg base G 1 0 "InvalidPart" "name"
  g_InvalidPart : mg "InvalidPart" = some (.ref (G.eC 0))
  h_InvalidPart : ∀ i b, mEx erS 0 i = some b → PySem.W.exmOne G.K (.ref (G.eC i)) (.ref (G.eC 0)) = some b
  xf_InvalidPart : XfC G.K (G.eC 0)
  nf_InvalidPart_name : PySem.W.findIn G.K (.ref (G.eC 0)) "name" = some none
  cR : Cls G.K G.rC
  n_begun : NoAttr G.K G.rC "begun"
  n_later : NoAttr G.K G.rC "later"
  n_part : NoAttr G.K G.rC "part"
  isC : C8.InsC G.K G.rC
  kdR : PySem.W.kitOne G.K (.type "dict") (.ref G.rC) = some false
  g_Rule : mg "Rule" = some (.ref G.rC)
variable {P : Program} {w : World} {mg : Str → Option Value} {base : Heap} {G : Gm}
theorem er_InvalidPart {S : Addr} (B : BaseX G.K mg "SeenError" S) (C : ExcAt G.K mg "InvalidPart" (G.eC 0)) (D : MetAt G.K (G.eC 0) "__init__" "InvalidPart.__init__" s_InvalidPart ["self", "name"]) (n0 : NoAttr G.K (G.eC 0) "name") : Er1 P w mg base G 1 0 "InvalidPart" "name" := by
  obtain ⟨f, fd, F, hm, hb⟩ := D
  refine ⟨⟨f, fd, _, ⟨C.g, C.ox, hm.at_, beq_iff_eq.mp hm.fn⟩, F.okX sc_InvalidPart (fun vs H Q E h => by obtain ⟨a, v, e, _⟩ := h; subst e; rfl) (fun cdv A outer s H vs Q E hr h => ⟨tI1 G.K "a part of the rule is wrong" "name", pss_cons (ps_expr (pe_seinit B (by rfl) (pa_cons (pv 0) (pa_cons pe_str pa_nil)) rfl (by rfl) rfl rfl) rfl) (pss_one (ps_ost (pv 0) (pv 1))), tI1_go h⟩), hb⟩, n0⟩
abbrev s__law_taken : Stmt := topS 17
theorem sc__law_taken : FnScope ["_law_row", "_law_many", "_law_cell", "_law_found"] ["_law_row", "_law_many"] (defScope s__law_taken) := ⟨rfl, rfl, rfl, by decide +kernel, rfl, by decide +kernel, by decide +kernel⟩
theorem ok__law_taken (T : Tx P w mg base G) (D : DefAt G.K mg "_law_taken" s__law_taken ["_law_row", "_law_many"]) : Cal P w mg base G 1 "_law_taken" 2 F__law_taken := by
  obtain ⟨f, fd, F, hm, hb⟩ := D
  exact ⟨⟨f, fd, _, fn_ok F sc__law_taken rfl rfl (fun cdv A outer s H E hr => by
    unfold b__law_taken
    exact ss_cons (s_if (t_cmp op_gt r_cmp (KD.b (k_ix rfl (b_name (pv 0)) (KD.b k_int) (fun _ _ => rfl))) (KD.b k_int) (nomark _)) (ss_cons (s_asg sc__law_taken.nd rfl (Or.inl rfl) (k_op op_mod r_mod (KD.b (k_callT call_int1 r_intc rfl T.f_int (by decide +kernel) (ab_cons (KD.b (k_ix rfl (b_name (pv 0)) (KD.b k_int) (fun _ _ => rfl))) ab_nil rfl) (by decide) (by decide) rfl rfl)) (b_name (pv 1))) rfl (Or.inl rfl))
        (ss_cons (ps_imp (ps_asg (k_op op_fdivW r_div (KD.b (k_ix rfl (b_name (pv 0)) (KD.b k_int) (fun _ _ => rfl))) (b_name (pv 1))) (pg_sub (b_name (pv 0)) k_int set_list)) (fun _ _ _ h => setM_go h))
        (ss_one (s_ret (k_name (pv 3)))))) ss_nil)
        (ss_cons (ps_imp (ps_asg (k_op op_addAll r_add (KD.b (k_ix rfl (b_name (pv 0)) (KD.b k_int) (fun _ _ => rfl))) (KD.b k_int)) (pg_sub (b_name (pv 0)) k_int set_list)) (fun _ _ _ h => setM_go h))
        (ss_cons (s_if (t_cmp op_gt r_cmp (KD.b (k_ix rfl (b_name (pv 0)) (KD.b k_int) (fun _ _ => rfl))) (KD.b (k_callB call_len r_len rfl T.f_len (by decide +kernel) (ab_cons (KD.b (k_ix rfl (b_name (pv 0)) (KD.b k_int) (fun _ _ => rfl))) ab_nil rfl) (by decide) (by decide) rfl rfl)) (nomark _)) (ss_cons (ps_imp (ps_asg (k_op op_mod r_mod (KD.b (k_callT call_int1 r_intc rfl T.f_int (by decide +kernel) (ab_cons (KD.b (k_op op_addAll r_add (KD.b (k_op op_mulW r_mul (KD.b (k_ix rfl (b_name (pv 0)) (KD.b k_int) (fun _ _ => rfl))) (KD.b k_int))) (KD.b k_int))) ab_nil rfl) (by decide) (by decide) rfl rfl)) (KD.b k_int)) (pg_sub (b_name (pv 0)) k_int set_list)) (fun _ _ _ h => setM_go h))
        (ss_one (s_ret (k_op op_mod r_mod (KD.b (k_callT call_int1 r_intc rfl T.f_int (by decide +kernel) (ab_cons (KD.b (k_op op_fdivW r_div (KD.b (k_ix rfl (b_name (pv 0)) (KD.b k_int) (fun _ _ => rfl))) (KD.b k_int))) ab_nil rfl) (by decide) (by decide) rfl rfl)) (b_name (pv 1)))))) ss_nil)
        (ss_cons (s_asg sc__law_taken.nd rfl (Or.inl rfl) (k_ix rfl (KD.b (k_ix rfl (b_name (pv 0)) (KD.b k_int) (fun _ _ => rfl))) (KD.b (k_op op_sub r_sub (KD.b (k_ix rfl (b_name (pv 0)) (KD.b k_int) (fun _ _ => rfl))) (KD.b k_int))) (fun _ _ => rfl)) rfl (Or.inl rfl))
        (ss_cons (ps_imp (ps_asg (k_op op_mod r_mod (KD.b (k_callT call_int1 r_intc rfl T.f_int (by decide +kernel) (ab_cons (KD.b (k_op op_addAll r_add (KD.b (k_op op_addAll r_add (KD.b (k_op op_mulW r_mul (KD.b (k_ix rfl (b_name (pv 0)) (KD.b k_int) (fun _ _ => rfl))) (KD.b k_int))) (b_name (pv 2)))) (KD.b k_int))) ab_nil rfl) (by decide) (by decide) rfl rfl)) (KD.b k_int)) (pg_sub (b_name (pv 0)) k_int set_list)) (fun _ _ _ h => setM_go h))
        (ss_cons (s_if (t_cmp op_ge r_cmp (b_name (pv 2)) (KD.b (k_op op_pow r_pow (KD.b k_int) (KD.b k_int))) (nomark _)) (ss_one (ps_imp (ps_asg (k_op op_fdivW r_div (b_name (pv 2)) (b_name (pv 1))) (pg_sub (b_name (pv 0)) k_int set_list)) (fun _ _ _ h => setM_go h))) ss_nil)
        (ss_one (s_ret (k_op op_mod r_mod (KD.b (k_callT call_int1 r_intc rfl T.f_int (by decide +kernel) (ab_cons (b_name (pv 2)) ab_nil rfl) (by decide) (by decide) rfl rfl)) (b_name (pv 1))))))))))), hm, F.kp, hb⟩, mkF_len⟩
abbrev s__law_drawn : Stmt := topS 18
theorem sc__law_drawn : FnScope ["_law_row", "_law_d"] ["_law_row"] (defScope s__law_drawn) := ⟨rfl, rfl, rfl, by decide +kernel, rfl, by decide +kernel, by decide +kernel⟩
theorem ok__law_drawn (T : Tx P w mg base G) (c__law_taken : Cal P w mg base G 1 "_law_taken" 2 F__law_taken) (D : DefAt G.K mg "_law_drawn" s__law_drawn ["_law_row"]) : Cal P w mg base G 2 "_law_drawn" 1 F__law_drawn := by
  obtain ⟨f, fd, F, hm, hb⟩ := D
  exact ⟨⟨f, fd, _, fn_ok F sc__law_drawn rfl rfl (fun cdv A outer s H E hr => by
    unfold b__law_drawn
    exact ss_cons (s_ownD sc__law_drawn.nd rfl (Or.inl rfl) (dd_disp (ks := ["first", "second"]) (fs := [dIx (dFz (dLst (dCons (dC (.int 0)) (dCons (dC (.int 1)) (dCons (dC (.int 2)) (dCons (dC (.int 3)) (dCons (dC (.int 5)) (dCons (dC (.int 8)) dNil)))))))) (dCall F__law_taken (dCons (dVar 0) (dCons (dC (.int 6)) dNil))), dC .non]) (pps_cons pe_str (k_ix rfl (KD.b (FD.k (f_lst (a_cons k_int (a_cons k_int (a_cons k_int (a_cons k_int (a_cons k_int (a_cons k_int a_nil rfl) rfl) rfl) rfl) rfl) rfl)))) (KD.b (k_call (w := wcF G E) c__law_taken rfl takesF hr (by decide) rfl (a_cons (k_name (pv 0)) (a_cons k_int a_nil rfl) rfl) (by decide) rfl rfl)) (fun _ _ => rfl)) (pps_cons pe_str k_non pps_nil)) rfl (by decide +kernel) (by decide) rfl rfl (by intro z; cases z) (by decide)) rfl (Or.inl rfl))
        (ss_cons (s_if (t_cmp (op_eqD hr.units) r_eq (KD.b (k_call (w := wcF G E) c__law_taken rfl takesF hr (by decide) rfl (a_cons (k_name (pv 0)) (a_cons k_int a_nil rfl) rfl) (by decide) rfl rfl)) (KD.b k_int) (nomark _)) (ss_one (s_dput (hu_of hr) (pv 1) (k_op op_addAll r_add (KD.b (k_callB (call_maxA rfl) r_max rfl T.f_max (by decide +kernel) (ab_cons (KD.b k_int) (ab_cons (KD.b (k_dget (hu_of hr) (b_name (pv 1)) (KD.b k_str) (fun _ _ => rfl))) ab_nil rfl) rfl) (by decide) (by decide) rfl rfl)) (KD.b (k_call (w := wcF G E) c__law_taken rfl takesF hr (by decide) rfl (a_cons (k_name (pv 0)) (a_cons k_int a_nil rfl) rfl) (by decide) rfl rfl))) rfl)) ss_nil)
        (ss_cons (s_dput (hu_of hr) (pv 1) (k_ix rfl (KD.b (FD.k (f_lst (a_cons (k_tup (a_cons k_int (a_cons k_int a_nil rfl) rfl)) (a_cons (k_tup (a_cons k_int (a_cons k_int a_nil rfl) rfl)) (a_cons (k_tup (a_cons k_int (a_cons k_int a_nil rfl) rfl)) (a_cons (k_tup (a_cons k_int (a_cons k_int a_nil rfl) rfl)) (a_cons (k_tup (a_cons k_int (a_cons k_int a_nil rfl) rfl)) (a_cons (k_tup (a_cons k_int (a_cons k_int a_nil rfl) rfl)) a_nil rfl) rfl) rfl) rfl) rfl) rfl)))) (KD.b (k_call (w := wcF G E) c__law_taken rfl takesF hr (by decide) rfl (a_cons (k_name (pv 0)) (a_cons k_int a_nil rfl) rfl) (by decide) rfl rfl)) (fun _ _ => rfl)) rfl)
        (ss_one (s_retO (pv 1)))))), hm, F.kp, hb⟩, mkF_len⟩
abbrev s__law_drawn_Y : Stmt := topS 18
theorem sc__law_drawn_Y : FnScope ["_law_row", "_law_d"] ["_law_row"] (defScope s__law_drawn_Y) := ⟨rfl, rfl, rfl, by decide +kernel, rfl, by decide +kernel, by decide +kernel⟩
theorem ok__law_drawn_Y (T : Tx P w mg base G) (c__law_taken : Cal P w mg base G 1 "_law_taken" 2 F__law_taken) (D : DefAt G.K mg "_law_drawn" s__law_drawn_Y ["_law_row"]) : CalY P w mg base G 2 "_law_drawn" 1 F__law_drawn_Y := by
  obtain ⟨f, fd, F, hm, hb⟩ := D
  exact ⟨⟨f, fd, _, fnY_ok F sc__law_drawn_Y rfl rfl (fun cdv A outer s H E hr => by
    unfold b__law_drawn_Y
    exact ssy_cons (s_ownD sc__law_drawn_Y.nd rfl (Or.inl rfl) (dd_disp (ks := ["first", "second"]) (fs := [dIx (dFz (dLst (dCons (dC (.int 0)) (dCons (dC (.int 1)) (dCons (dC (.int 2)) (dCons (dC (.int 3)) (dCons (dC (.int 5)) (dCons (dC (.int 8)) dNil)))))))) (dCall F__law_taken (dCons (dVar 0) (dCons (dC (.int 6)) dNil))), dC .non]) (pps_cons pe_str (k_ix rfl (KD.b (FD.k (f_lst (a_cons k_int (a_cons k_int (a_cons k_int (a_cons k_int (a_cons k_int (a_cons k_int a_nil rfl) rfl) rfl) rfl) rfl) rfl)))) (KD.b (k_call (w := wcF G E) c__law_taken rfl takesF hr (by decide) rfl (a_cons (k_name (pv 0)) (a_cons k_int a_nil rfl) rfl) (by decide) rfl rfl)) (fun _ _ => rfl)) (pps_cons pe_str k_non pps_nil)) rfl (by decide +kernel) (by decide) rfl rfl (by intro z; cases z) (by decide)) rfl (Or.inl rfl))
        (ssy_cons (s_if (t_cmp (op_eqD hr.units) r_eq (KD.b (k_call (w := wcF G E) c__law_taken rfl takesF hr (by decide) rfl (a_cons (k_name (pv 0)) (a_cons k_int a_nil rfl) rfl) (by decide) rfl rfl)) (KD.b k_int) (nomark _)) (ss_one (s_dput (hu_of hr) (pv 1) (k_op op_addAll r_add (KD.b (k_callB (call_maxA rfl) r_max rfl T.f_max (by decide +kernel) (ab_cons (KD.b k_int) (ab_cons (KD.b (k_dget (hu_of hr) (b_name (pv 1)) (KD.b k_str) (fun _ _ => rfl))) ab_nil rfl) rfl) (by decide) (by decide) rfl rfl)) (KD.b (k_call (w := wcF G E) c__law_taken rfl takesF hr (by decide) rfl (a_cons (k_name (pv 0)) (a_cons k_int a_nil rfl) rfl) (by decide) rfl rfl))) rfl)) ss_nil)
        (ssy_cons (s_dput (hu_of hr) (pv 1) (k_ix rfl (KD.b (FD.k (f_lst (a_cons (k_tup (a_cons k_int (a_cons k_int a_nil rfl) rfl)) (a_cons (k_tup (a_cons k_int (a_cons k_int a_nil rfl) rfl)) (a_cons (k_tup (a_cons k_int (a_cons k_int a_nil rfl) rfl)) (a_cons (k_tup (a_cons k_int (a_cons k_int a_nil rfl) rfl)) (a_cons (k_tup (a_cons k_int (a_cons k_int a_nil rfl) rfl)) (a_cons (k_tup (a_cons k_int (a_cons k_int a_nil rfl) rfl)) a_nil rfl) rfl) rfl) rfl) rfl) rfl)))) (KD.b (k_call (w := wcF G E) c__law_taken rfl takesF hr (by decide) rfl (a_cons (k_name (pv 0)) (a_cons k_int a_nil rfl) rfl) (by decide) rfl rfl)) (fun _ _ => rfl)) rfl)
        (ssy_ret (pv 1))))), hm, F.kp, hb⟩, mkY_len⟩
abbrev s_is_whole : Stmt := topS 5
theorem sc_is_whole : FnScope ["value"] ["value"] (defScope s_is_whole) := ⟨rfl, rfl, rfl, by decide +kernel, rfl, by decide +kernel, by decide +kernel⟩
theorem ok_is_whole (T : Tx P w mg base G) (D : DefAt G.K mg "is_whole" s_is_whole ["value"]) : Cal P w mg base G 1 "is_whole" 1 F_is_whole := by
  obtain ⟨f, fd, F, hm, hb⟩ := D
  exact ⟨⟨f, fd, _, fn_ok F sc_is_whole rfl rfl (fun cdv A outer s H E hr => by
    unfold b_is_whole
    exact ss_one (s_ret (k_and (KD.b (k_isi rfl rfl T.f_isinstance (b_name (pv 0)) (pe_bltn rfl T.f_int (by decide +kernel) rfl) (by decide +kernel) rfl rfl rfl)) (k_one (k_not (KD.b (k_isi rfl rfl T.f_isinstance (b_name (pv 0)) (pe_bltn rfl T.f_bool (by decide +kernel) rfl) (by decide +kernel) rfl rfl rfl))))))), hm, F.kp, hb⟩, mkF_len⟩
abbrev s_is_within : Stmt := topS 6
theorem sc_is_within : FnScope ["value", "low", "high"] ["value", "low", "high"] (defScope s_is_within) := ⟨rfl, rfl, rfl, by decide +kernel, rfl, by decide +kernel, by decide +kernel⟩
theorem ok_is_within (T : Tx P w mg base G) (c_is_whole : Cal P w mg base G 1 "is_whole" 1 F_is_whole) (D : DefAt G.K mg "is_within" s_is_within ["value", "low", "high"]) : Cal P w mg base G 2 "is_within" 3 F_is_within := by
  obtain ⟨f, fd, F, hm, hb⟩ := D
  exact ⟨⟨f, fd, _, fn_ok F sc_is_within rfl rfl (fun cdv A outer s H E hr => by
    unfold b_is_within
    exact ss_one (s_ret (k_and (KD.b (k_call (w := wcF G E) c_is_whole rfl takesF hr (by decide) rfl (a_cons (k_name (pv 0)) a_nil rfl) (by decide) rfl rfl)) (k_one (k_chain op_le op_le r_cmp r_cmp (b_name (pv 1)) (b_name (pv 0)) (b_name (pv 2)) (by with_unfolding_all rfl)))))), hm, F.kp, hb⟩, mkF_len⟩
abbrev s_common : Stmt := topS 7
theorem sc_common : FnScope ["one", "other"] ["one", "other"] (defScope s_common) := ⟨rfl, rfl, rfl, by decide +kernel, rfl, by decide +kernel, by decide +kernel⟩
theorem ok_common (T : Tx P w mg base G) (D : DefAt G.K mg "common" s_common ["one", "other"]) : Cal P w mg base G 1 "common" 2 F_common := by
  obtain ⟨f, fd, F, hm, hb⟩ := D
  exact ⟨⟨f, fd, _, fn_ok F sc_common rfl rfl (fun cdv A outer s H E hr => by
    unfold b_common
    exact ss_cons (ps_imp (ps_par rfl sc_common.nd rfl rfl (by decide) rfl rfl (a_cons (k_callB call_abs r_abs rfl T.f_abs (by decide +kernel) (ab_cons (b_name (pv 0)) ab_nil rfl) (by decide) (by decide) rfl rfl) (a_cons (k_callB call_abs r_abs rfl T.f_abs (by decide +kernel) (ab_cons (b_name (pv 1)) ab_nil rfl) (by decide) (by decide) rfl rfl) a_nil rfl) rfl) (by rfl)) (fun _ _ _ h => par_go h))
        (ss_cons (s_while passF (t_cmp op_gt r_cmp (b_name (pv 1)) (KD.b k_int) (nomark _)) (ss_one (ps_imp (ps_par rfl sc_common.nd rfl rfl (by decide) rfl rfl (a_cons (k_name (pv 1)) (a_cons (k_op op_sub r_sub (b_name (pv 0)) (KD.b (k_op op_mulW r_mul (KD.b (k_op op_fdivW r_div (b_name (pv 0)) (b_name (pv 1)))) (b_name (pv 1))))) a_nil rfl) rfl) (by rfl)) (fun _ _ _ h => par_go h))))
        (ss_one (s_ret (k_name (pv 0)))))), hm, F.kp, hb⟩, mkF_len⟩
abbrev s_is_fraction : Stmt := topS 8
theorem sc_is_fraction : FnScope ["value"] ["value"] (defScope s_is_fraction) := ⟨rfl, rfl, rfl, by decide +kernel, rfl, by decide +kernel, by decide +kernel⟩
theorem ok_is_fraction (T : Tx P w mg base G) (c_is_whole : Cal P w mg base G 1 "is_whole" 1 F_is_whole) (c_common : Cal P w mg base G 1 "common" 2 F_common) (D : DefAt G.K mg "is_fraction" s_is_fraction ["value"]) : Cal P w mg base G 2 "is_fraction" 1 F_is_fraction := by
  obtain ⟨f, fd, F, hm, hb⟩ := D
  exact ⟨⟨f, fd, _, fn_ok F sc_is_fraction rfl rfl (fun cdv A outer s H E hr => by
    unfold b_is_fraction
    exact ss_cons (s_if (w_t (w_or (t_not (t_val (KD.b (k_isi rfl rfl T.f_isinstance (b_name (pv 0)) (pe_bltn rfl T.f_tuple (by decide +kernel) rfl) (by decide +kernel) rfl rfl rfl)) (by intro _; rfl))) (w_or (t_cmp (op_neD hr.units) r_ne (KD.b (k_callB call_len r_len rfl T.f_len (by decide +kernel) (ab_cons (b_name (pv 0)) ab_nil rfl) (by decide) (by decide) rfl rfl)) (KD.b k_int) (nomark _)) (w_or (t_not (t_val (KD.b (k_call (w := wcF G E) c_is_whole rfl takesF hr (by decide) rfl (a_cons (k_ix rfl (b_name (pv 0)) (KD.b k_int) (fun _ _ => rfl)) a_nil rfl) (by decide) rfl rfl)) (by intro _; rfl))) (w_or1 (t_not (t_val (KD.b (k_call (w := wcF G E) c_is_whole rfl takesF hr (by decide) rfl (a_cons (k_ix rfl (b_name (pv 0)) (KD.b k_int) (fun _ _ => rfl)) a_nil rfl) (by decide) rfl rfl)) (by intro _; rfl)))))))) (ss_one (s_ret k_bl)) ss_nil)
        (ss_one (s_ret (k_and (KD.b (k_cmp op_gt r_cmp (KD.b (k_ix rfl (b_name (pv 0)) (KD.b k_int) (fun _ _ => rfl))) (KD.b k_int) (nomark _))) (k_one (k_cmp (op_eqD hr.units) r_eq (KD.b (k_call (w := wcF G E) c_common rfl takesF hr (by decide) rfl (a_cons (k_ix rfl (b_name (pv 0)) (KD.b k_int) (fun _ _ => rfl)) (a_cons (k_ix rfl (b_name (pv 0)) (KD.b k_int) (fun _ _ => rfl)) a_nil rfl) rfl) (by decide) rfl rfl)) (KD.b k_int) (nomark _))))))), hm, F.kp, hb⟩, mkF_len⟩
abbrev s_is_less : Stmt := topS 9
theorem sc_is_less : FnScope ["one", "other"] ["one", "other"] (defScope s_is_less) := ⟨rfl, rfl, rfl, by decide +kernel, rfl, by decide +kernel, by decide +kernel⟩
theorem ok_is_less (T : Tx P w mg base G) (D : DefAt G.K mg "is_less" s_is_less ["one", "other"]) : Cal P w mg base G 1 "is_less" 2 F_is_less := by
  obtain ⟨f, fd, F, hm, hb⟩ := D
  exact ⟨⟨f, fd, _, fn_ok F sc_is_less rfl rfl (fun cdv A outer s H E hr => by
    unfold b_is_less
    exact ss_one (s_ret (k_cmp op_lt r_cmp (KD.b (k_op op_mulW r_mul (KD.b (k_ix rfl (b_name (pv 0)) (KD.b k_int) (fun _ _ => rfl))) (KD.b (k_ix rfl (b_name (pv 1)) (KD.b k_int) (fun _ _ => rfl))))) (KD.b (k_op op_mulW r_mul (KD.b (k_ix rfl (b_name (pv 1)) (KD.b k_int) (fun _ _ => rfl))) (KD.b (k_ix rfl (b_name (pv 0)) (KD.b k_int) (fun _ _ => rfl))))) (nomark _)))), hm, F.kp, hb⟩, mkF_len⟩
abbrev s_is_share : Stmt := topS 13
theorem sc_is_share : FnScope ["value"] ["value"] (defScope s_is_share) := ⟨rfl, rfl, rfl, by decide +kernel, rfl, by decide +kernel, by decide +kernel⟩
theorem ok_is_share (T : Tx P w mg base G) (c_is_less : Cal P w mg base G 1 "is_less" 2 F_is_less) (c_is_fraction : Cal P w mg base G 2 "is_fraction" 1 F_is_fraction) (D : DefAt G.K mg "is_share" s_is_share ["value"]) : Cal P w mg base G 3 "is_share" 1 F_is_share := by
  obtain ⟨f, fd, F, hm, hb⟩ := D
  exact ⟨⟨f, fd, _, fn_ok F sc_is_share rfl rfl (fun cdv A outer s H E hr => by
    unfold b_is_share
    exact ss_one (s_ret (k_and (KD.b (k_call (w := wcF G E) c_is_fraction rfl takesF hr (by decide) rfl (a_cons (k_name (pv 0)) a_nil rfl) (by decide) rfl rfl)) (k_and (KD.b (k_cmp op_gt r_cmp (KD.b (k_ix rfl (b_name (pv 0)) (KD.b k_int) (fun _ _ => rfl))) (KD.b k_int) (nomark _))) (k_and (KD.b (k_not (KD.b (k_call (w := wcF G E) c_is_less rfl takesF hr (by decide) rfl (a_cons (k_glob (w := wcF G E) T.c_ONE.c rfl) (a_cons (k_name (pv 0)) a_nil rfl) rfl) (by decide) rfl rfl)))) (k_one (k_cmp op_le r_cmp (KD.b (k_ix rfl (b_name (pv 0)) (KD.b k_int) (fun _ _ => rfl))) (KD.b (k_glob (w := wcF G E) T.c_MOST_PARTS.c rfl)) (nomark _)))))))), hm, F.kp, hb⟩, mkF_len⟩
abbrev s_Rule : Stmt := inClass (topS 14) 0
theorem sc_Rule : FnScope ["self", "first", "second", "share"] ["self", "first", "second", "share"] (defScope s_Rule) := ⟨rfl, rfl, rfl, by decide +kernel, rfl, by decide +kernel, by decide +kernel⟩
theorem ok_Rule (T : Tx P w mg base G) (c_is_within : Cal P w mg base G 2 "is_within" 3 F_is_within) (c_is_share : Cal P w mg base G 3 "is_share" 1 F_is_share) (C : ClsAt G.K mg "Rule" G.rC) (D : MetAt G.K G.rC "__init__" "Rule.__init__" s_Rule ["self", "first", "second", "share"]) : CalR P w mg base G 4 "Rule" 3 F_Rule := by
  obtain ⟨f, fd, F, hm, hb⟩ := D
  exact ⟨⟨f, fd, _, ⟨C.mks, hm.at_, hm.fn, C.kp⟩, init_ok F sc_Rule rfl rfl (fun cdv A outer s H E hr => by
    unfold b_Rule
    exact ss_cons (s_if (t_not (t_val (KD.b (k_call (w := wcN G G.rC E) c_is_within rfl takesF hr (by decide) rfl (a_cons (k_name (pv 1)) (a_cons k_int (a_cons (k_glob (w := wcN G G.rC E) T.c_MOST_MARK.c rfl) a_nil rfl) rfl) rfl) (by decide) rfl rfl)) (by intro _; rfl))) (ss_one (s_raise1 T.e_InvalidPart rfl hr (by decide) rfl takesF rfl (a_cons k_str a_nil rfl) (by decide) rfl rfl)) ss_nil)
        (ss_cons (s_if (w_t (w_and (t_cmp op_notN r_notN (b_name (pv 2)) (KD.b k_non) (nomark _)) (w_and1 (t_not (t_val (KD.b (k_call (w := wcN G G.rC E) c_is_within rfl takesF hr (by decide) rfl (a_cons (k_name (pv 2)) (a_cons (k_callB (call_maxA rfl) r_max rfl T.f_max (by decide +kernel) (ab_cons (KD.b (FD.k (f_lst (a_cons k_int (a_cons (k_name (pv 1)) a_nil rfl) rfl)))) ab_nil rfl) (by decide) (by decide) rfl rfl) (a_cons (k_glob (w := wcN G G.rC E) T.c_MOST_MARK.c rfl) a_nil rfl) rfl) rfl) (by decide) rfl rfl)) (by intro _; rfl)))))) (ss_one (s_raise1 T.e_InvalidPart rfl hr (by decide) rfl takesF rfl (a_cons k_str a_nil rfl) (by decide) rfl rfl)) ss_nil)
        (ss_cons (s_if (t_not (t_val (KD.b (k_call (w := wcN G G.rC E) c_is_share rfl takesF hr (by decide) rfl (a_cons (k_name (pv 3)) a_nil rfl) (by decide) rfl rfl)) (by intro _; rfl))) (ss_one (s_raise1 T.e_InvalidPart rfl hr (by decide) rfl takesF rfl (a_cons k_str a_nil rfl) (by decide) rfl rfl)) ss_nil)
        (ss_cons (s_fld T.cR T.n_begun (pv 0) (k_name (pv 1)) rfl)
        (ss_cons (s_fld T.cR T.n_later (pv 0) (k_name (pv 2)) rfl)
        (ss_one (s_fld T.cR T.n_part (pv 0) (k_name (pv 3)) rfl))))))), C.g, hb⟩, mkI_len⟩
abbrev s__law_made : Stmt := topS 21
theorem sc__law_made : FnScope ["_law_d"] ["_law_d"] (defScope s__law_made) := ⟨rfl, rfl, rfl, by decide +kernel, rfl, by decide +kernel, by decide +kernel⟩
theorem ok__law_made (T : Tx P w mg base G) (c_Rule : CalR P w mg base G 4 "Rule" 3 F_Rule) (D : DefAt G.K mg "_law_made" s__law_made ["_law_d"]) : Cal P w mg base G 6 "_law_made" 1 F__law_made := by
  obtain ⟨f, fd, F, hm, hb⟩ := D
  exact ⟨⟨f, fd, _, fn_ok F sc__law_made rfl rfl (fun cdv A outer s H E hr => by
    unfold b__law_made
    exact ss_one (s_ret (k_rule (w := wcF G E) c_Rule rfl takesF hr (by decide) rfl (a_cons (k_dget (hu_of hr) (b_name (pv 0)) (KD.b k_str) (fun _ _ => rfl)) (a_cons (k_dget (hu_of hr) (b_name (pv 0)) (KD.b k_str) (fun _ _ => rfl)) (a_cons (k_dget (hu_of hr) (b_name (pv 0)) (KD.b k_str) (fun _ _ => rfl)) a_nil rfl) rfl) rfl) (by decide) rfl rfl))), hm, F.kp, hb⟩, mkF_len⟩
abbrev s_told_of : Stmt := topS 15
theorem sc_told_of : FnScope ["rule"] ["rule"] (defScope s_told_of) := ⟨rfl, rfl, rfl, by decide +kernel, rfl, by decide +kernel, by decide +kernel⟩
theorem ok_told_of (T : Tx P w mg base G) (D : DefAt G.K mg "told_of" s_told_of ["rule"]) : Cal P w mg base G 1 "told_of" 1 F_told_of := by
  obtain ⟨f, fd, F, hm, hb⟩ := D
  exact ⟨⟨f, fd, _, fn_ok F sc_told_of rfl rfl (fun cdv A outer s H E hr => by
    unfold b_told_of
    exact ss_one (s_ret (k_tup (a_cons (k_fldR (w := wcF G E) rfl T.cR T.n_begun (b_name (pv 0)) rfl) (a_cons (k_fldR (w := wcF G E) rfl T.cR T.n_later (b_name (pv 0)) rfl) (a_cons (k_fldR (w := wcF G E) rfl T.cR T.n_part (b_name (pv 0)) rfl) a_nil rfl) rfl) rfl)))), hm, F.kp, hb⟩, mkF_len⟩
abbrev s_Rule_eq : Stmt := inClass (topS 14) 5
theorem sc_Rule_eq : FnScope ["self", "other"] ["self", "other"] (defScope s_Rule_eq) := ⟨rfl, rfl, rfl, by decide +kernel, rfl, by decide +kernel, by decide +kernel⟩
theorem sem_Rule_eq : EqFD F_Rule_eq := fun d e z g h => by
  have i1 : ∀ a b c : Dat, oIsRD (.rul a b c) = some (.bl true) := fun _ _ _ => rfl
  have i2 : ∀ (ks : List Str) (l : List Dat), oIsRD (.dct ks l) = some (.bl false) := fun _ _ => rfl
  unfold eqRD at h
  split at h
  · simp only [F_Rule_eq, b_Rule_eq, F_told_of, b_told_of, EV1, EV2, EV3, EV4, few, Nat.reduceAdd, Nat.reduceSub, Nat.reduceLeDiff, i1, h, if_true]
  · cases h
    simp only [F_Rule_eq, b_Rule_eq, F_told_of, b_told_of, EV1, EV2, EV3, EV4, few, Nat.reduceAdd, Nat.reduceSub, Nat.reduceLeDiff, i2, Bool.false_eq_true, if_false]
  · cases h
theorem ok_Rule_eq (T : Tx P w mg base G) (c_told_of : Cal P w mg base G 1 "told_of" 1 F_told_of) (D : MetAt G.K G.rC "__eq__" "Rule.__eq__" s_Rule_eq ["self", "other"]) (nf : PySem.W.notFirst G.K G.rC (.type "dict") = true) : CalED P w mg base G 2 F_Rule_eq := by
  obtain ⟨f, fd, F, hm, hb⟩ := D
  exact ⟨⟨f, fd, _, fn_ok F sc_Rule_eq rfl rfl (fun cdv A outer s H E hr => by
    unfold b_Rule_eq
    exact ss_one (s_ret (k_and (KD.b (k_isRD (w := wcF G E) T.isC T.kdR rfl rfl T.f_isinstance (b_name (pv 1)) rfl T.g_Rule (by decide) rfl rfl rfl)) (k_one (k_cmp (op_eqD hr.units) r_eq (KD.b (k_call (w := wcF G E) c_told_of rfl takesF hr (by decide) rfl (a_cons (k_name (pv 0)) a_nil rfl) (by decide) rfl rfl)) (KD.b (k_call (w := wcF G E) c_told_of rfl takesF hr (by decide) rfl (a_cons (k_name (pv 1)) a_nil rfl) (by decide) rfl rfl)) (nomark _)))))), hm, hb⟩, nf, sem_Rule_eq⟩
abbrev s_Rule_start : Stmt := inClass (topS 14) 4
theorem sc_Rule_start : FnScope ["self"] ["self"] (defScope s_Rule_start) := ⟨rfl, rfl, rfl, by decide +kernel, rfl, by decide +kernel, by decide +kernel⟩
theorem ok_Rule_start (T : Tx P w mg base G) (D : PrpAt G.K G.rC "start" "Rule.start" s_Rule_start ["self"]) : CalPR P w mg base G 1 "start" F_Rule_start := by
  obtain ⟨pp, f, fd, F, hm, hb⟩ := D
  exact ⟨⟨pp, f, fd, _, fn_ok F sc_Rule_start rfl rfl (fun cdv A outer s H E hr => by
    unfold b_Rule_start
    exact ss_one (s_ret (k_callB (call_maxA rfl) r_max rfl T.f_max (by decide +kernel) (ab_cons (KD.b (FD.k (f_lst (a_cons k_int (a_cons (k_op op_addAll r_add (KD.b (k_fldR (w := wcF G E) rfl T.cR T.n_begun (b_name (pv 0)) rfl)) (KD.b k_int)) (a_cons (k_if (t_cmp op_isN r_isN (KD.b (k_fldR (w := wcF G E) rfl T.cR T.n_later (b_name (pv 0)) rfl)) (KD.b k_non) (nomark _)) k_int (k_op op_addAll r_add (KD.b (k_fldR (w := wcF G E) rfl T.cR T.n_later (b_name (pv 0)) rfl)) (KD.b k_int))) a_nil rfl) rfl) rfl)))) ab_nil rfl) (by decide) (by decide) rfl rfl))), hm, hb⟩⟩
abbrev s__law_start : Stmt := topS 20
theorem sc__law_start : FnScope ["_law_d"] ["_law_d"] (defScope s__law_start) := ⟨rfl, rfl, rfl, by decide +kernel, rfl, by decide +kernel, by decide +kernel⟩
theorem ok__law_start (T : Tx P w mg base G) (D : DefAt G.K mg "_law_start" s__law_start ["_law_d"]) : Cal P w mg base G 1 "_law_start" 1 F__law_start := by
  obtain ⟨f, fd, F, hm, hb⟩ := D
  exact ⟨⟨f, fd, _, fn_ok F sc__law_start rfl rfl (fun cdv A outer s H E hr => by
    unfold b__law_start
    exact ss_one (s_ret (k_callB (call_max3Nu rfl) r_max3 rfl T.f_max (by decide +kernel) (ab_cons (KD.b k_int) (ab_cons (KD.b (k_op op_addAll r_add (KD.b (k_dget (hu_of hr) (b_name (pv 0)) (KD.b k_str) (fun _ _ => rfl))) (KD.b k_int))) (ab_cons (KD.b (k_if (t_cmp op_isN r_isN (KD.b (k_dget (hu_of hr) (b_name (pv 0)) (KD.b k_str) (fun _ _ => rfl))) (KD.b k_non) (nomark _)) k_int (k_op op_addAll r_add (KD.b (k_dget (hu_of hr) (b_name (pv 0)) (KD.b k_str) (fun _ _ => rfl))) (KD.b k_int)))) ab_nil rfl) rfl) rfl) (by decide) (by decide) rfl rfl))), hm, F.kp, hb⟩, mkF_len⟩
abbrev s__law_refused : Stmt := topS 22
theorem sc__law_refused : FnScope ["_law_d", "_law_told", "_law_e"] ["_law_d"] (defScope s__law_refused) := ⟨rfl, rfl, rfl, by decide +kernel, rfl, by decide +kernel, by decide +kernel⟩
theorem ok__law_refused (T : Tx P w mg base G) (c__law_made : Cal P w mg base G 6 "_law_made" 1 F__law_made) (D : DefAt G.K mg "_law_refused" s__law_refused ["_law_d"]) : Cal P w mg base G 7 "_law_refused" 1 F__law_refused := by
  obtain ⟨f, fd, F, hm, hb⟩ := D
  exact ⟨⟨f, fd, _, fn_ok F sc__law_refused rfl rfl (fun cdv A outer s H E hr => by
    unfold b__law_refused
    exact ss_cons (s_asg sc__law_refused.nd rfl (Or.inl rfl) k_non rfl (Or.inl rfl))
        (ss_cons (s_try rfl rfl rfl sc__law_refused.nd takesF (fun W pn xe tkT pxT => xs_one (x_expr (k_call (w := { wcF G E with W := W }) c__law_made rfl tkT hr (by decide) rfl (a_cons (k_name (pv 0)) a_nil rfl) (by decide) rfl rfl) rfl)) (HdOk.named (i := 2) ⟨rfl, by decide, .inl T.g_InvalidPart⟩ rfl rfl (fun a oe cls d pn hz hf => ss_one (s_asg sc__law_refused.nd rfl (Or.inl rfl) (k_xf (w := wcF G E) rfl T.xf_InvalidPart T.nf_InvalidPart_name hz hf (pv 2) rfl) rfl (Or.inl rfl))) (HdOk.nil)) (ClOk.cons rfl T.h_InvalidPart (fun _ _ _ => rfl) (ClOk.nil)))
        (ss_one (s_ret (k_name (pv 1)))))), hm, F.kp, hb⟩, mkF_len⟩
abbrev s__law_mark : Stmt := topS 23
theorem sc__law_mark : FnScope ["_law_thing", "_law_low"] ["_law_thing", "_law_low"] (defScope s__law_mark) := ⟨rfl, rfl, rfl, by decide +kernel, rfl, by decide +kernel, by decide +kernel⟩
theorem ok__law_mark (T : Tx P w mg base G) (D : DefAt G.K mg "_law_mark" s__law_mark ["_law_thing", "_law_low"]) : Cal P w mg base G 1 "_law_mark" 2 F__law_mark := by
  obtain ⟨f, fd, F, hm, hb⟩ := D
  exact ⟨⟨f, fd, _, fn_ok F sc__law_mark rfl rfl (fun cdv A outer s H E hr => by
    unfold b__law_mark
    exact ss_one (s_ret (k_and (KD.b (k_isi rfl rfl T.f_isinstance (b_name (pv 0)) (pe_bltn rfl T.f_int (by decide +kernel) rfl) (by decide +kernel) rfl rfl rfl)) (k_and (KD.b (k_not (KD.b (k_isi rfl rfl T.f_isinstance (b_name (pv 0)) (pe_bltn rfl T.f_bool (by decide +kernel) rfl) (by decide +kernel) rfl rfl rfl)))) (k_and (KD.b (k_cmp op_le r_cmp (b_name (pv 1)) (b_name (pv 0)) (nomark _))) (k_one (k_cmp op_le r_cmp (b_name (pv 0)) (KD.b k_int) (nomark _)))))))), hm, F.kp, hb⟩, mkF_len⟩
abbrev s__law_wrong : Stmt := topS 24
theorem sc__law_wrong : FnScope ["_law_d", "_law_b", "_law_thing", "_law_good", "_law_a", "_law_k"] ["_law_d"] (defScope s__law_wrong) := ⟨rfl, rfl, rfl, by decide +kernel, rfl, by decide +kernel, by decide +kernel⟩
theorem ok__law_wrong (T : Tx P w mg base G) (c__law_mark : Cal P w mg base G 1 "_law_mark" 2 F__law_mark) (D : DefAt G.K mg "_law_wrong" s__law_wrong ["_law_d"]) : Cal P w mg base G 2 "_law_wrong" 1 F__law_wrong := by
  obtain ⟨f, fd, F, hm, hb⟩ := D
  exact ⟨⟨f, fd, _, fn_ok F sc__law_wrong rfl rfl (fun cdv A outer s H E hr => by
    unfold b__law_wrong
    exact ss_cons (s_if (t_not (t_val (KD.b (k_call (w := wcF G E) c__law_mark rfl takesF hr (by decide) rfl (a_cons (k_dget (hu_of hr) (b_name (pv 0)) (KD.b k_str) (fun _ _ => rfl)) (a_cons k_int a_nil rfl) rfl) (by decide) rfl rfl)) (by intro _; rfl))) (ss_one (s_ret k_str)) ss_nil)
        (ss_cons (s_if (w_t (w_and (t_cmp op_notN r_notN (KD.b (k_dget (hu_of hr) (b_name (pv 0)) (KD.b k_str) (fun _ _ => rfl))) (KD.b k_non) (nomark _)) (w_and1 (t_not (t_val (KD.b (k_call (w := wcF G E) c__law_mark rfl takesF hr (by decide) rfl (a_cons (k_dget (hu_of hr) (b_name (pv 0)) (KD.b k_str) (fun _ _ => rfl)) (a_cons (k_callB (call_maxA rfl) r_max rfl T.f_max (by decide +kernel) (ab_cons (KD.b k_int) (ab_cons (KD.b (k_dget (hu_of hr) (b_name (pv 0)) (KD.b k_str) (fun _ _ => rfl))) ab_nil rfl) rfl) (by decide) (by decide) rfl rfl) a_nil rfl) rfl) (by decide) rfl rfl)) (by intro _; rfl)))))) (ss_one (s_ret k_str)) ss_nil)
        (ss_cons (ps_imp (ps_par rfl sc__law_wrong.nd rfl rfl (by decide) rfl rfl (a_cons (k_dget (hu_of hr) (b_name (pv 0)) (KD.b k_str) (fun _ _ => rfl)) (a_cons (FD.k (f_lst (a_cons (k_tup (a_cons k_int (a_cons k_int a_nil rfl) rfl)) a_nil rfl))) a_nil rfl) rfl) (by rfl)) (fun _ _ _ h => par_go h))
        (ss_cons (s_for passF rfl (i_rng2 rfl T.f_range (a_cons k_int (a_cons k_int a_nil rfl) rfl) rfl rfl) (pg_name (i := 1) sc__law_wrong.nd rfl (Or.inr rfl)) g_name (ss_one (s_asg sc__law_wrong.nd rfl (Or.inl rfl) (FD.k (f_op op_cat r_cat (b_name (pv 3)) (KD.b (FD.k (f_lc (own := [("_law_a", 4)]) rfl sc__law_wrong.nd (i_rng2 rfl T.f_range (a_cons k_int (a_cons (k_name (pv 1)) a_nil rfl) rfl) rfl rfl) (blkOk_by (N := ["_law_d", "_law_b", "_law_thing", "_law_good", "_law_a", "_law_k"]) (sc := defScope s__law_wrong) (by decide +kernel)) (fun _ _ _ _ _ => pg_name (i := 4) sc__law_wrong.nd rfl (Or.inr rfl)) (fun _ _ _ _ _ => pts_one (t_cmp (op_eqD hr.units) r_eq (KD.b (k_callB call_len r_len rfl T.f_len (by decide +kernel) (ab_cons (KD.b (FD.k (f_lc (own := [("_law_k", 5)]) rfl sc__law_wrong.nd (i_rng2 rfl T.f_range (a_cons k_int (a_cons (k_name (pv 1)) a_nil rfl) rfl) rfl rfl) (blkOk_by (N := ["_law_d", "_law_b", "_law_thing", "_law_good", "_law_a", "_law_k"]) (sc := (⟨.function, [(PySem.Str.ofString ".0", PySem.NameKind.local), (PySem.Str.ofString "_law_a", PySem.NameKind.cell), (PySem.Str.ofString "len", PySem.NameKind.globalImplicit), (PySem.Str.ofString "range", PySem.NameKind.globalImplicit), (PySem.Str.ofString "_law_b", PySem.NameKind.cell)], false, false, []⟩ : Scope)) (by decide +kernel)) (fun _ _ _ _ _ => pg_name (i := 5) sc__law_wrong.nd rfl (Or.inl rfl)) (fun _ _ _ _ _ => pts_one (t_cmp (op_eqD hr.units) r_eq (KD.b (k_op op_addAll r_add (KD.b (k_op op_mod r_mod (b_name (pv 4)) (b_name (pv 5)))) (KD.b (k_op op_mod r_mod (b_name (pv 1)) (b_name (pv 5)))))) (KD.b k_int) (nomark _))) (fun _ _ _ _ _ => k_name (pv 5)) g_name (by decide) (fun _ _ _ h => h) (by intro _; rfl)))) ab_nil rfl) (by decide) (by decide) rfl rfl)) (KD.b k_int) (nomark _))) (fun _ _ _ _ _ => k_tup (a_cons (k_name (pv 4)) (a_cons (k_name (pv 1)) a_nil rfl) rfl)) g_name (by decide) (fun _ _ _ h => h) (by intro _; rfl)))))) rfl (Or.inl rfl))) (by intro _; rfl))
        (ss_cons (s_if (w_t (w_or (t_not (t_val (KD.b (k_isi rfl rfl T.f_isinstance (b_name (pv 2)) (pe_bltn rfl T.f_tuple (by decide +kernel) rfl) (by decide +kernel) rfl rfl rfl)) (by intro _; rfl))) (w_or1 (t_cmp (op_notInAll (in_hu hr)) r_notIn (b_name (pv 2)) (b_name (pv 3)) rfl)))) (ss_one (s_ret k_str)) ss_nil)
        (ss_one (s_ret (k_if (w_t (w_or (t_val (KD.b (k_isi rfl rfl T.f_isinstance (KD.b (k_ix rfl (b_name (pv 2)) (KD.b k_int) (fun _ _ => rfl))) (pe_bltn rfl T.f_bool (by decide +kernel) rfl) (by decide +kernel) rfl rfl rfl)) (by intro _; rfl)) (w_or1 (t_val (KD.b (k_isi rfl rfl T.f_isinstance (KD.b (k_ix rfl (b_name (pv 2)) (KD.b k_int) (fun _ _ => rfl))) (pe_bltn rfl T.f_bool (by decide +kernel) rfl) (by decide +kernel) rfl rfl rfl)) (by intro _; rfl))))) k_str k_non)))))))), hm, F.kp, hb⟩, mkF_len⟩
abbrev s_Rule_share : Stmt := inClass (topS 14) 3
theorem sc_Rule_share : FnScope ["self"] ["self"] (defScope s_Rule_share) := ⟨rfl, rfl, rfl, by decide +kernel, rfl, by decide +kernel, by decide +kernel⟩
theorem ok_Rule_share (T : Tx P w mg base G) (D : PrpAt G.K G.rC "share" "Rule.share" s_Rule_share ["self"]) : CalPR P w mg base G 1 "share" F_Rule_share := by
  obtain ⟨pp, f, fd, F, hm, hb⟩ := D
  exact ⟨⟨pp, f, fd, _, fn_ok F sc_Rule_share rfl rfl (fun cdv A outer s H E hr => by
    unfold b_Rule_share
    exact ss_one (s_ret (k_fldR (w := wcF G E) rfl T.cR T.n_part (b_name (pv 0)) rfl))), hm, hb⟩⟩
abbrev s_Rule_first : Stmt := inClass (topS 14) 1
theorem sc_Rule_first : FnScope ["self"] ["self"] (defScope s_Rule_first) := ⟨rfl, rfl, rfl, by decide +kernel, rfl, by decide +kernel, by decide +kernel⟩
theorem ok_Rule_first (T : Tx P w mg base G) (D : PrpAt G.K G.rC "first" "Rule.first" s_Rule_first ["self"]) : CalPR P w mg base G 1 "first" F_Rule_first := by
  obtain ⟨pp, f, fd, F, hm, hb⟩ := D
  exact ⟨⟨pp, f, fd, _, fn_ok F sc_Rule_first rfl rfl (fun cdv A outer s H E hr => by
    unfold b_Rule_first
    exact ss_one (s_ret (k_fldR (w := wcF G E) rfl T.cR T.n_begun (b_name (pv 0)) rfl))), hm, hb⟩⟩
abbrev s_Rule_second : Stmt := inClass (topS 14) 2
theorem sc_Rule_second : FnScope ["self"] ["self"] (defScope s_Rule_second) := ⟨rfl, rfl, rfl, by decide +kernel, rfl, by decide +kernel, by decide +kernel⟩
theorem ok_Rule_second (T : Tx P w mg base G) (D : PrpAt G.K G.rC "second" "Rule.second" s_Rule_second ["self"]) : CalPR P w mg base G 1 "second" F_Rule_second := by
  obtain ⟨pp, f, fd, F, hm, hb⟩ := D
  exact ⟨⟨pp, f, fd, _, fn_ok F sc_Rule_second rfl rfl (fun cdv A outer s H E hr => by
    unfold b_Rule_second
    exact ss_one (s_ret (k_fldR (w := wcF G E) rfl T.cR T.n_later (b_name (pv 0)) rfl))), hm, hb⟩⟩
abbrev s_law : Stmt := topS 25
theorem sc_law : FnScope ["_law_script", "_law_row", "_law_odd", "_law_turn", "_law_d", "_law_rule", "_law_e", "_law_k", "_law_name"] ["_law_script"] (defScope s_law) := ⟨rfl, rfl, rfl, by decide +kernel, rfl, by decide +kernel, by decide +kernel⟩
theorem fn_law (T : Tx P w mg base G) (c__law_drawn_Y : CalY P w mg base G 2 "_law_drawn" 1 F__law_drawn_Y) (c__law_made : Cal P w mg base G 6 "_law_made" 1 F__law_made) (c__law_start : Cal P w mg base G 1 "_law_start" 1 F__law_start) (c__law_taken : Cal P w mg base G 1 "_law_taken" 2 F__law_taken) (c__law_drawn : Cal P w mg base G 2 "_law_drawn" 1 F__law_drawn) (c__law_refused : Cal P w mg base G 7 "_law_refused" 1 F__law_refused) (c__law_wrong : Cal P w mg base G 2 "_law_wrong" 1 F__law_wrong) (c_req : CalED P w mg base G 2 F_Rule_eq) (q_first : CalPR P w mg base G 1 "first" F_Rule_first) (q_second : CalPR P w mg base G 1 "second" F_Rule_second) (q_share : CalPR P w mg base G 1 "share" F_Rule_share) (q_start : CalPR P w mg base G 1 "start" F_Rule_start) {f : Addr} {fd : FuncData} (F : Fun G.K "law" "law" s_law f fd) : FnOk P w G.K mg base (L2.CX P w) 8 f fd ["_law_script"] (spF G 1 F_law) :=
  fn_ok F sc_law rfl rfl (fun cdv A outer s H E hr => by
    unfold b_law
    exact ss_cons (s_asg sc_law.nd rfl (Or.inl rfl) (FD.m (f_lst (a_cons (k_name (pv 0)) (a_cons k_int (a_cons k_int (a_cons k_int a_nil rfl) rfl) rfl) rfl))) rfl (Or.inl rfl))
        (ss_cons (s_asg sc_law.nd rfl (Or.inl rfl) (FD.k (f_lst (a_cons k_int (a_cons k_int (a_cons k_int (a_cons k_int (a_cons k_int (a_cons k_int (a_cons (k_neg (KD.b k_int)) (a_cons k_non (a_cons k_bl (a_cons k_str (a_cons (k_tup (a_cons k_int (a_cons k_int a_nil rfl) rfl)) (a_cons (k_tup (a_cons k_int (a_cons k_int a_nil rfl) rfl)) (a_cons (k_tup (a_cons k_int (a_cons k_int a_nil rfl) rfl)) (a_cons (k_tup (a_cons k_int (a_cons k_int a_nil rfl) rfl)) (a_cons (k_tup (a_cons k_int (a_cons k_int a_nil rfl) rfl)) (a_cons (k_tup (a_cons k_int (a_cons k_int a_nil rfl) rfl)) a_nil rfl) rfl) rfl) rfl) rfl) rfl) rfl) rfl) rfl) rfl) rfl) rfl) rfl) rfl) rfl) rfl))) rfl (Or.inl rfl))
        (ss_cons (s_asg sc_law.nd rfl (Or.inl rfl) (FD.k (f_op op_cat r_cat (b_name (pv 2)) (KD.b (FD.k (f_lst (a_cons (k_tup (a_cons k_int (a_cons k_int a_nil rfl) rfl)) (a_cons (FD.k (f_lst (a_cons k_int (a_cons k_int a_nil rfl) rfl))) (a_cons (k_tup (a_cons k_bl (a_cons k_int a_nil rfl) rfl)) a_nil rfl) rfl) rfl)))))) rfl (Or.inl rfl))
        (ss_cons (s_for passF rfl (i_rng1 rfl T.f_range (a_cons k_int a_nil rfl) rfl) (pg_name (i := 3) sc_law.nd rfl (Or.inl rfl)) g_name (ss_cons (s_ownY sc_law.nd rfl (Or.inl rfl) (k_callY (w := wcF G E) c__law_drawn_Y rfl takesF hr (by decide) rfl (a_cons (k_name (pv 1)) a_nil rfl) (by decide) rfl rfl) rfl (Or.inl rfl))
        (ss_cons (s_asg sc_law.nd rfl (Or.inl rfl) (k_lend (k_call (w := wcF G E) c__law_made rfl takesF hr (by decide) rfl (a_cons (k_name (pv 4)) a_nil rfl) (by decide) rfl rfl)) rfl (Or.inl rfl))
        (ss_cons (s_if (w_t (w_or (t_cmp (op_neD hr.units) r_ne (KD.b (FD.k (f_lst (a_cons (k_propR (w := wcF G E) q_first T.cR rfl hr (by decide) (b_name (pv 5)) rfl) (a_cons (k_propR (w := wcF G E) q_second T.cR rfl hr (by decide) (b_name (pv 5)) rfl) a_nil rfl) rfl)))) (KD.b (FD.k (f_lst (a_cons (k_dget (hu_of hr) (b_name (pv 4)) (KD.b k_str) (fun _ _ => rfl)) (a_cons (k_dget (hu_of hr) (b_name (pv 4)) (KD.b k_str) (fun _ _ => rfl)) a_nil rfl) rfl)))) (nomark _)) (w_or (t_cmp (op_neD hr.units) r_ne (KD.b (k_propR (w := wcF G E) q_share T.cR rfl hr (by decide) (b_name (pv 5)) rfl)) (KD.b (k_dget (hu_of hr) (b_name (pv 4)) (KD.b k_str) (fun _ _ => rfl))) (nomark _)) (w_or1 (t_lend (t_eqRD (w := wcF G E) c_req rfl hr (by decide) (b_name (pv 5)) (k_name (pv 4)) (nomark _))))))) (ss_one (s_ret k_bl)) ss_nil)
        (ss_cons (s_if (t_cmp (op_neD hr.units) r_ne (KD.b (k_propR (w := wcF G E) q_start T.cR rfl hr (by decide) (b_name (pv 5)) rfl)) (KD.b (k_lend (k_call (w := wcF G E) c__law_start rfl takesF hr (by decide) rfl (a_cons (k_name (pv 4)) a_nil rfl) (by decide) rfl rfl))) (nomark _)) (ss_one (s_ret k_bl)) ss_nil)
        (ss_cons (s_asg sc_law.nd rfl (Or.inl rfl) (k_if (t_cmp (op_eqD hr.units) r_eq (KD.b (k_call (w := wcF G E) c__law_taken rfl takesF hr (by decide) rfl (a_cons (k_name (pv 1)) (a_cons k_int a_nil rfl) rfl) (by decide) rfl rfl)) (KD.b k_int) (nomark _)) (k_call (w := wcF G E) c__law_drawn rfl takesF hr (by decide) rfl (a_cons (k_name (pv 1)) a_nil rfl) (by decide) rfl rfl) (k_callT call_dictD r_dictD rfl T.f_dict (by decide +kernel) (ab_cons (b_name (pv 4)) ab_nil rfl) (by decide) (by decide) rfl rfl)) rfl (Or.inl rfl))
        (ss_cons (s_if (t_cmp (op_neD hr.units) r_ne (KD.b (k_eqRD (w := wcF G E) c_req rfl hr (by decide) (KD.b (k_call (w := wcF G E) c__law_made rfl takesF hr (by decide) rfl (a_cons (k_name (pv 6)) a_nil rfl) (by decide) rfl rfl)) (k_name (pv 5)) (nomark _))) (KD.b (k_cmp (op_eqDc (in_hu hr)) r_eqDc (b_name (pv 6)) (b_name (pv 4)) (nomark _))) (nomark _)) (ss_one (s_ret k_bl)) ss_nil)
        (ss_cons (s_for passF rfl (i_rng1 rfl T.f_range (a_cons (k_op op_addAll r_add (KD.b k_int) (KD.b (k_call (w := wcF G E) c__law_taken rfl takesF hr (by decide) rfl (a_cons (k_name (pv 1)) (a_cons k_int a_nil rfl) rfl) (by decide) rfl rfl))) a_nil rfl) rfl) (pg_name (i := 7) sc_law.nd rfl (Or.inl rfl)) g_name (ss_cons (s_asg sc_law.nd rfl (Or.inl rfl) (k_ix rfl (KD.b (FD.k (f_lst (a_cons k_str (a_cons k_str (a_cons k_str a_nil rfl) rfl) rfl)))) (KD.b (k_call (w := wcF G E) c__law_taken rfl takesF hr (by decide) rfl (a_cons (k_name (pv 1)) (a_cons k_int a_nil rfl) rfl) (by decide) rfl rfl)) (fun _ _ => rfl)) rfl (Or.inl rfl))
        (ss_one (s_dputK (hu_of hr) (pv 4) (k_name (pv 8)) (k_ix rfl (b_name (pv 2)) (KD.b (k_call (w := wcF G E) c__law_taken rfl takesF hr (by decide) rfl (a_cons (k_name (pv 1)) (a_cons (k_callB call_len r_len rfl T.f_len (by decide +kernel) (ab_cons (b_name (pv 2)) ab_nil rfl) (by decide) (by decide) rfl rfl) a_nil rfl) rfl) (by decide) rfl rfl)) (fun _ _ => rfl)) rfl))) (by intro _; rfl))
        (ss_one (s_if (t_cmp (op_neD hr.units) r_ne (KD.b (k_lend (k_call (w := wcF G E) c__law_refused rfl takesF hr (by decide) rfl (a_cons (k_name (pv 4)) a_nil rfl) (by decide) rfl rfl))) (KD.b (k_lend (k_call (w := wcF G E) c__law_wrong rfl takesF hr (by decide) rfl (a_cons (k_name (pv 4)) a_nil rfl) (by decide) rfl rfl))) (nomark _)) (ss_one (s_ret k_bl)) ss_nil))))))))) (by intro _; rfl))
        (ss_one (s_ret k_bl))))))
end W

namespace W
open PySem L2 DL
theorem law_ok {P : Program} {w : World} {K : PySem.W.Frag} {mg : Str → Option Value} {fa : Addr} {S C_InvalidPart CR : Addr} (dl : LawAt K fa s_law) (k_MOST_MARK : CstK K mg "MOST_MARK" (.int 20)) (k_MOST_PARTS : CstK K mg "MOST_PARTS" (.int 9)) (k_ONE : CstK K mg "ONE" (.tup [(.int 1), (.int 1)])) (f_abs : mg "abs" = none) (f_bool : mg "bool" = none) (f_dict : mg "dict" = none) (f_int : mg "int" = none) (f_isinstance : mg "isinstance" = none) (f_len : mg "len" = none) (f_max : mg "max" = none) (f_range : mg "range" = none) (f_tuple : mg "tuple" = none) (bS : BaseX K mg "SeenError" S) (x_InvalidPart : ExcAt K mg "InvalidPart" C_InvalidPart) (m_InvalidPart : MetAt K C_InvalidPart "__init__" "InvalidPart.__init__" s_InvalidPart ["self", "name"]) (n_InvalidPart_name : NoAttr K C_InvalidPart "name") (s_InvalidPart_InvalidPart : PySem.W.subIn K (.ref C_InvalidPart) (.ref C_InvalidPart) = some true) (a_InvalidPart : XfC K C_InvalidPart) (z_Rule : ClsAt K mg "Rule" CR) (m_Rule : MetAt K CR "__init__" "Rule.__init__" s_Rule ["self", "first", "second", "share"]) (n_Rule_begun : NoAttr K CR "begun") (n_Rule_later : NoAttr K CR "later") (n_Rule_part : NoAttr K CR "part") (i_Rule : C8.InsC K CR) (kd_Rule : PySem.W.kitOne K (.type "dict") (.ref CR) = some false) (d__law_taken : DefAt K mg "_law_taken" s__law_taken ["_law_row", "_law_many"]) (d__law_drawn : DefAt K mg "_law_drawn" s__law_drawn ["_law_row"]) (d__law_drawn_Y : DefAt K mg "_law_drawn" s__law_drawn_Y ["_law_row"]) (d_is_whole : DefAt K mg "is_whole" s_is_whole ["value"]) (d_is_within : DefAt K mg "is_within" s_is_within ["value", "low", "high"]) (d_common : DefAt K mg "common" s_common ["one", "other"]) (d_is_fraction : DefAt K mg "is_fraction" s_is_fraction ["value"]) (d_is_less : DefAt K mg "is_less" s_is_less ["one", "other"]) (d_is_share : DefAt K mg "is_share" s_is_share ["value"]) (d__law_made : DefAt K mg "_law_made" s__law_made ["_law_d"]) (d_told_of : DefAt K mg "told_of" s_told_of ["rule"]) (w_req : MetAt K CR "__eq__" "Rule.__eq__" s_Rule_eq ["self", "other"]) (nf_Rule : PySem.W.notFirst K CR (.type "dict") = true) (v_start : PrpAt K CR "start" "Rule.start" s_Rule_start ["self"]) (d__law_start : DefAt K mg "_law_start" s__law_start ["_law_d"]) (d__law_refused : DefAt K mg "_law_refused" s__law_refused ["_law_d"]) (d__law_mark : DefAt K mg "_law_mark" s__law_mark ["_law_thing", "_law_low"]) (d__law_wrong : DefAt K mg "_law_wrong" s__law_wrong ["_law_d"]) (v_share : PrpAt K CR "share" "Rule.share" s_Rule_share ["self"]) (v_first : PrpAt K CR "first" "Rule.first" s_Rule_first ["self"]) (v_second : PrpAt K CR "second" "Rule.second" s_Rule_second ["self"]) (hF : Keeps F_law) :
    ∃ fd : FuncData, (∀ (s : Shared) (u : Value), BindsTo s fd ⟨[u], []⟩ [("_law_script", u)]) ∧ ∀ base : Heap, FnOk P w K mg base (L2.CX P w) 8 fa fd ["_law_script"] (spLaw K) := by
  obtain ⟨fd, F, hb⟩ := dl
  refine ⟨fd, hb, fun base => ?_⟩
  let G : Gm := ⟨K, CR, 0, fun i => if i = 0 then C_InvalidPart else 0⟩
  have ex_InvalidPart : ∀ i b, mEx erS 0 i = some b → PySem.W.exmOne G.K (.ref (G.eC i)) (.ref (G.eC 0)) = some b := by
    intro i b h
    obtain ⟨hi, hb⟩ := mEx_some h
    subst hb
    simp only [erS, List.mem_cons, List.not_mem_nil, or_false] at hi
    rcases hi with rfl
    · exact exm_at x_InvalidPart x_InvalidPart s_InvalidPart_InvalidPart
  have T : Tx P w mg base G := ⟨k_MOST_MARK, k_MOST_PARTS, k_ONE, f_abs, f_bool, f_dict, f_int, f_isinstance, f_len, f_max, f_range, f_tuple, (er_InvalidPart bS x_InvalidPart m_InvalidPart n_InvalidPart_name), x_InvalidPart.g, (fun i b h => ex_InvalidPart i b h), a_InvalidPart, n_InvalidPart_name, z_Rule.c, n_Rule_begun, n_Rule_later, n_Rule_part, i_Rule, kd_Rule, z_Rule.g⟩
  have c__law_taken : Cal P w mg base G 1 "_law_taken" 2 F__law_taken := ok__law_taken T d__law_taken
  have c__law_drawn : Cal P w mg base G 2 "_law_drawn" 1 F__law_drawn := ok__law_drawn T c__law_taken d__law_drawn
  have c__law_drawn_Y : CalY P w mg base G 2 "_law_drawn" 1 F__law_drawn_Y := ok__law_drawn_Y T c__law_taken d__law_drawn_Y
  have c_is_whole : Cal P w mg base G 1 "is_whole" 1 F_is_whole := ok_is_whole T d_is_whole
  have c_is_within : Cal P w mg base G 2 "is_within" 3 F_is_within := ok_is_within T c_is_whole d_is_within
  have c_common : Cal P w mg base G 1 "common" 2 F_common := ok_common T d_common
  have c_is_fraction : Cal P w mg base G 2 "is_fraction" 1 F_is_fraction := ok_is_fraction T c_is_whole c_common d_is_fraction
  have c_is_less : Cal P w mg base G 1 "is_less" 2 F_is_less := ok_is_less T d_is_less
  have c_is_share : Cal P w mg base G 3 "is_share" 1 F_is_share := ok_is_share T c_is_less c_is_fraction d_is_share
  have c_Rule : CalR P w mg base G 4 "Rule" 3 F_Rule := ok_Rule T c_is_within c_is_share z_Rule m_Rule
  have c__law_made : Cal P w mg base G 6 "_law_made" 1 F__law_made := ok__law_made T c_Rule d__law_made
  have c_told_of : Cal P w mg base G 1 "told_of" 1 F_told_of := ok_told_of T d_told_of
  have c_req : CalED P w mg base G 2 F_Rule_eq := ok_Rule_eq T c_told_of w_req nf_Rule
  have q_start : CalPR P w mg base G 1 "start" F_Rule_start := ok_Rule_start T v_start
  have c__law_start : Cal P w mg base G 1 "_law_start" 1 F__law_start := ok__law_start T d__law_start
  have c__law_refused : Cal P w mg base G 7 "_law_refused" 1 F__law_refused := ok__law_refused T c__law_made d__law_refused
  have c__law_mark : Cal P w mg base G 1 "_law_mark" 2 F__law_mark := ok__law_mark T d__law_mark
  have c__law_wrong : Cal P w mg base G 2 "_law_wrong" 1 F__law_wrong := ok__law_wrong T c__law_mark d__law_wrong
  have q_share : CalPR P w mg base G 1 "share" F_Rule_share := ok_Rule_share T v_share
  have q_first : CalPR P w mg base G 1 "first" F_Rule_first := ok_Rule_first T v_first
  have q_second : CalPR P w mg base G 1 "second" F_Rule_second := ok_Rule_second T v_second
  exact law_fn (G := G) (fn_law T c__law_drawn_Y c__law_made c__law_start c__law_taken c__law_drawn c__law_refused c__law_wrong c_req q_first q_second q_share q_start F) hF
end W
open PySem PySem.W PyProof.Rows DL W in
set_option maxRecDepth 100000 in
set_option maxHeartbeats 0 in
set_option pp.maxSteps 12 in
theorem PySem.Challenge.cw_bestseen_k01_rules_refused_holds : PySem.Challenge.rw_bestseen_k01_rules_refused.Holds := by
  w_on; o_law; k_head; (case hw => w_witness2)
  k_fill
  refine DL.walk (l := PySem.Challenge.rw_bestseen_k01_rules_refused) (k := 8) ⟨rfl, by decide, by decide⟩ rfl rfl (fun w h Y => PySem.W.kIn_of Y) ?F
  case F =>
  intro w mg fa h KX G hmg
  refine' W.law_ok ?dl ?k_MOST_MARK ?k_MOST_PARTS ?k_ONE ?f_abs ?f_bool ?f_dict ?f_int ?f_isinstance ?f_len ?f_max ?f_range ?f_tuple ?bS ?x_InvalidPart ?m_InvalidPart ?n_InvalidPart_name ?s_InvalidPart_InvalidPart ?a_InvalidPart ?z_Rule ?m_Rule ?n_Rule_begun ?n_Rule_later ?n_Rule_part ?i_Rule ?kd_Rule ?d__law_taken ?d__law_drawn ?d__law_drawn_Y ?d_is_whole ?d_is_within ?d_common ?d_is_fraction ?d_is_less ?d_is_share ?d__law_made ?d_told_of ?w_req ?nf_Rule ?v_start ?d__law_start ?d__law_refused ?d__law_mark ?d__law_wrong ?v_share ?v_first ?v_second W.keeps
  case dl =>
    refine' law_at KX G hmg ?a ?l ?c ?k ?b
    (case a => k_is); (case l => k_is); (case c => k_is); (case k => k_is); (case b => exact fun _ _ _ _ _ _ _ => rfl)
  case k_MOST_MARK =>
    refine' cst_int KX G ?a
    (case a => k_is)
  case k_MOST_PARTS =>
    refine' cst_int KX G ?a
    (case a => k_is)
  case k_ONE =>
    refine' cst_ints [1, 1] KX G ?e ?l ?s ?v
    (case e => k_is); (case l => k_is); (case s => decide); (case v => exact .cons ⟨_, rfl⟩ (.cons ⟨_, rfl⟩ (.nil)))
  case f_abs =>
    refine' PySem.W.mg_none_of KX G ?a
    (case a => k_is)
  case f_bool =>
    refine' PySem.W.mg_none_of KX G ?a
    (case a => k_is)
  case f_dict =>
    refine' PySem.W.mg_none_of KX G ?a
    (case a => k_is)
  case f_int =>
    refine' PySem.W.mg_none_of KX G ?a
    (case a => k_is)
  case f_isinstance =>
    refine' PySem.W.mg_none_of KX G ?a
    (case a => k_is)
  case f_len =>
    refine' PySem.W.mg_none_of KX G ?a
    (case a => k_is)
  case f_max =>
    refine' PySem.W.mg_none_of KX G ?a
    (case a => k_is)
  case f_range =>
    refine' PySem.W.mg_none_of KX G ?a
    (case a => k_is)
  case f_tuple =>
    refine' PySem.W.mg_none_of KX G ?a
    (case a => k_is)
  case bS =>
    refine' base_at KX G ?a ?ga ?rd ?ad
    (case a => k_is); (case ga => k_is); (case rd => k_is); (case ad => k_is)
  case x_InvalidPart =>
    refine' exc_at KX G ?a ?l ?r ?sa ?ex ?ty ?kc ?ic
    (case a => k_is); (case l => k_is); (case r => decide +kernel); (case sa => k_is); (case ex => k_is); (case ty => k_is); (case kc => k_is); (case ic => k_is)
  case m_InvalidPart =>
    refine' met_at ?a ?i ?l ?c ?k ?b
    (case a => k_is); (case i => k_is); (case l => k_is); (case c => k_is); (case k => k_is); (case b => exact fun _ _ _ _ _ _ us hl => match us, hl with | [_, _], _ => rfl)
  case n_InvalidPart_name =>
    show PySem.W.findIn _ _ _ = _
    k_is
  case s_InvalidPart_InvalidPart =>
    k_is
  case a_InvalidPart =>
    refine' ⟨?ga, ?gg, ?ex, ?hd⟩
    (case ga => k_is); (case gg => k_is); (case ex => k_is); (case hd => k_is)
  case z_Rule =>
    refine' cls_at KX G ?a ?pg ?hd ?po ?sa ?mk ?kc
    (case a => k_is); (case pg => k_is); (case hd => k_is); (case po => k_is); (case sa => k_is); (case mk => k_is); (case kc => k_is)
  case m_Rule =>
    refine' met_at ?a ?i ?l ?c ?k ?b
    (case a => k_is); (case i => k_is); (case l => k_is); (case c => k_is); (case k => k_is); (case b => exact fun _ _ _ _ _ _ us hl => match us, hl with | [_, _, _, _], _ => rfl)
  case n_Rule_begun =>
    show PySem.W.findIn _ _ _ = _
    k_is
  case n_Rule_later =>
    show PySem.W.findIn _ _ _ = _
    k_is
  case n_Rule_part =>
    show PySem.W.findIn _ _ _ = _
    k_is
  case i_Rule =>
    refine' ⟨⟨?pg, ?hd, ?po, ?sa⟩, ?ha, ?hn, ?htk, ?hm, ?me⟩
    (case pg => k_is); (case hd => k_is); (case po => k_is); (case sa => k_is); (case ha => k_is); (case hn => k_is); (case htk => k_is); (case hm => k_is); (case me => exact if_pos (by simp))
  case kd_Rule =>
    refine' kit_dict ?a ?b ?c
    (case a => k_is); (case b => k_is); (case c => k_is)
  case d__law_taken =>
    refine' def_at KX G ?a ?l ?c ?k ?b
    (case a => k_is); (case l => k_is); (case c => k_is); (case k => k_is); (case b => exact fun _ _ _ _ _ _ us hl => match us, hl with | [_, _], _ => rfl)
  case d__law_drawn =>
    refine' def_at KX G ?a ?l ?c ?k ?b
    (case a => k_is); (case l => k_is); (case c => k_is); (case k => k_is); (case b => exact fun _ _ _ _ _ _ us hl => match us, hl with | [_], _ => rfl)
  case d__law_drawn_Y =>
    refine' def_at KX G ?a ?l ?c ?k ?b
    (case a => k_is); (case l => k_is); (case c => k_is); (case k => k_is); (case b => exact fun _ _ _ _ _ _ us hl => match us, hl with | [_], _ => rfl)
  case d_is_whole =>
    refine' def_at KX G ?a ?l ?c ?k ?b
    (case a => k_is); (case l => k_is); (case c => k_is); (case k => k_is); (case b => exact fun _ _ _ _ _ _ us hl => match us, hl with | [_], _ => rfl)
  case d_is_within =>
    refine' def_at KX G ?a ?l ?c ?k ?b
    (case a => k_is); (case l => k_is); (case c => k_is); (case k => k_is); (case b => exact fun _ _ _ _ _ _ us hl => match us, hl with | [_, _, _], _ => rfl)
  case d_common =>
    refine' def_at KX G ?a ?l ?c ?k ?b
    (case a => k_is); (case l => k_is); (case c => k_is); (case k => k_is); (case b => exact fun _ _ _ _ _ _ us hl => match us, hl with | [_, _], _ => rfl)
  case d_is_fraction =>
    refine' def_at KX G ?a ?l ?c ?k ?b
    (case a => k_is); (case l => k_is); (case c => k_is); (case k => k_is); (case b => exact fun _ _ _ _ _ _ us hl => match us, hl with | [_], _ => rfl)
  case d_is_less =>
    refine' def_at KX G ?a ?l ?c ?k ?b
    (case a => k_is); (case l => k_is); (case c => k_is); (case k => k_is); (case b => exact fun _ _ _ _ _ _ us hl => match us, hl with | [_, _], _ => rfl)
  case d_is_share =>
    refine' def_at KX G ?a ?l ?c ?k ?b
    (case a => k_is); (case l => k_is); (case c => k_is); (case k => k_is); (case b => exact fun _ _ _ _ _ _ us hl => match us, hl with | [_], _ => rfl)
  case d__law_made =>
    refine' def_at KX G ?a ?l ?c ?k ?b
    (case a => k_is); (case l => k_is); (case c => k_is); (case k => k_is); (case b => exact fun _ _ _ _ _ _ us hl => match us, hl with | [_], _ => rfl)
  case d_told_of =>
    refine' def_at KX G ?a ?l ?c ?k ?b
    (case a => k_is); (case l => k_is); (case c => k_is); (case k => k_is); (case b => exact fun _ _ _ _ _ _ us hl => match us, hl with | [_], _ => rfl)
  case w_req =>
    refine' met_at ?a ?i ?l ?c ?k ?b
    (case a => k_is); (case i => k_is); (case l => k_is); (case c => k_is); (case k => k_is); (case b => exact fun _ _ _ _ _ _ us hl => match us, hl with | [_, _], _ => rfl)
  case nf_Rule =>
    k_is
  case v_start =>
    refine' prp_at ?a ?sg ?tk ?rc ?l ?c ?k ?b
    (case a => k_is); (case sg => k_is); (case tk => k_is); (case rc => k_is); (case l => k_is); (case c => k_is); (case k => k_is); (case b => exact fun _ _ _ _ _ _ us hl => match us, hl with | [_], _ => rfl)
  case d__law_start =>
    refine' def_at KX G ?a ?l ?c ?k ?b
    (case a => k_is); (case l => k_is); (case c => k_is); (case k => k_is); (case b => exact fun _ _ _ _ _ _ us hl => match us, hl with | [_], _ => rfl)
  case d__law_refused =>
    refine' def_at KX G ?a ?l ?c ?k ?b
    (case a => k_is); (case l => k_is); (case c => k_is); (case k => k_is); (case b => exact fun _ _ _ _ _ _ us hl => match us, hl with | [_], _ => rfl)
  case d__law_mark =>
    refine' def_at KX G ?a ?l ?c ?k ?b
    (case a => k_is); (case l => k_is); (case c => k_is); (case k => k_is); (case b => exact fun _ _ _ _ _ _ us hl => match us, hl with | [_, _], _ => rfl)
  case d__law_wrong =>
    refine' def_at KX G ?a ?l ?c ?k ?b
    (case a => k_is); (case l => k_is); (case c => k_is); (case k => k_is); (case b => exact fun _ _ _ _ _ _ us hl => match us, hl with | [_], _ => rfl)
  case v_share =>
    refine' prp_at ?a ?sg ?tk ?rc ?l ?c ?k ?b
    (case a => k_is); (case sg => k_is); (case tk => k_is); (case rc => k_is); (case l => k_is); (case c => k_is); (case k => k_is); (case b => exact fun _ _ _ _ _ _ us hl => match us, hl with | [_], _ => rfl)
  case v_first =>
    refine' prp_at ?a ?sg ?tk ?rc ?l ?c ?k ?b
    (case a => k_is); (case sg => k_is); (case tk => k_is); (case rc => k_is); (case l => k_is); (case c => k_is); (case k => k_is); (case b => exact fun _ _ _ _ _ _ us hl => match us, hl with | [_], _ => rfl)
  case v_second =>
    refine' prp_at ?a ?sg ?tk ?rc ?l ?c ?k ?b
    (case a => k_is); (case sg => k_is); (case tk => k_is); (case rc => k_is); (case l => k_is); (case c => k_is); (case k => k_is); (case b => exact fun _ _ _ _ _ _ us hl => match us, hl with | [_], _ => rfl)

