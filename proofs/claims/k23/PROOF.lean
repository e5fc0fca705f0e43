import PyProof.Rows.All
import Wide.All
import OpenK.AllK
import Wide.FinOn
import KE.KStateDown
import HandS.Base
import HandS.Call
import HandS.Ends
import HandS.More
import HandS.Words
import HandS.WordsExc
import HandS.Defaults
import HandS.Head0
import HandS.Head1
import HandS.Head2
import HandS.HeadEnd
import HandS.HeadHook1
import HandS.HeadHook2
import HandS.ForMost
import HandS.Deep
import HandS.Exc
import KE.SortData
import HandS.TupAny
import HandS.TupMul
import KE.DataCmp
import HandS.IsInst
import HandS.Style
import HandS.WordsDict
import KE.DatumIndex
import PyProof.ReprRoads
import KE.GoesEnum
import HandS.Zip
import HandS.ExcOwn
import HandS.Star
import HandS.TupSets
import KE.KeyNested
import HandS.SetTxt0
import PyProof.ReprLen
import PySem.Challenge.RW_ownfears_k23_whole_kernels
set_option Elab.async false
set_option linter.all false
set_option maxRecDepth 100000
/-! Q1: how the abstract heap bears data; what a step of a body may change. -/
namespace Qv
open PySem PySem.Spec PyProof.Rows L2

/-! ### values of the evaluator -/
/-- a name's value: d data that is shared (never changed again), o a list or dict that this frame alone holds -/
inductive Vl where
  | d (x : PyData) | o (x : PyData)
abbrev Evn : Type := List (Option Vl)
/-- stuck, or an exception of the class c with these fields -/
inductive Er where
  | stuck | exc (c : Str) (fs : List (Str × PyData))
abbrev Rs (α : Type) := Except Er α
def Vl.x : Vl → PyData
  | .d x => x
  | .o x => x

def keyD : Key → PyData
  | .inl i => .int i
  | .inr x => .str x

/-- a tuple that bears no dict of its own -/
def NT (K : PySem.W.Frag) (H : Hp) (a : Addr) (xs : List V) : Prop := (∃ o : Obj, H a = some (.frz o (.tup xs)) ∧ o.dict = none) ∨
  ∃ (o : Obj) (its : Array Value) (n : Nat), K.lookup a = some o ∧ o.cls = .type "tuple" ∧ o.dict = none ∧ o.data = .seq its n ∧ its.size ≤ sizeLine ∧ Vals xs its.toList
theorem NT.sqT {K : PySem.W.Frag} {H : Hp} {a : Addr} {xs : List V} (h : NT K H a xs) : SqT K H a xs := by
  rcases h with ⟨o, h, _⟩ | ⟨o, its, n, h1, h2, _, h4, h5, h6⟩
  · exact .inl (.inr ⟨o, h⟩)
  · exact .inr ⟨o, its, n, h1, h2, h4, h5, h6⟩
/-- a list that is known: locked (the script), or an object of the module -/
def LsF (K : PySem.W.Frag) (H : Hp) (a : Addr) (xs : List V) : Prop := (∃ o, H a = some (.frz o (.lst xs))) ∨
  ∃ (its : Array Value) (n : Nat), K.lookup a = some { cls := .type "list", data := .seq its n } ∧ its.size ≤ sizeLine ∧ Vals xs its.toList
theorem LsF.sqL {K : PySem.W.Frag} {H : Hp} {a : Addr} {xs : List V} (h : LsF K H a xs) : SqL K H a xs := by
  rcases h with ⟨o, h⟩ | ⟨its, n, h1, h2, h3⟩
  · exact .inl (.inr ⟨o, h⟩)
  · exact .inr ⟨_, its, n, h1, rfl, rfl, rfl, h2, h3⟩
mutual
/-- v bears the datum; its lists and dicts lie in F (they stay as they are) -/
inductive Rp (K : PySem.W.Frag) (F : Addr → Prop) (H : Hp) : V → PyData → Prop
  | non : Rp K F H .non .none
  | bl (b : Bool) : Rp K F H (.bl b) (.bool b)
  | int (i : Int) : Rp K F H (.int i) (.int i)
  | str (x : Str) : Rp K F H (.str x) (.str x)
  | tup {a : Addr} {xs : List V} {ds : List PyData} : NT K H a xs → RpA K F H xs ds → Rp K F H (.ref a) (.tuple ds)
  | lst {a : Addr} {xs : List V} {ds : List PyData} : F a → H a = some (.lst xs) → RpA K F H xs ds → Rp K F H (.ref a) (.list ds)
  | frz {a : Addr} {xs : List V} {ds : List PyData} : LsF K H a xs → RpA K F H xs ds → Rp K F H (.ref a) (.list ds)
  | dic {a : Addr} {kvs : List (Key × V)} {es : List (PyData × PyData)} : F a → H a = some (.dK kvs) → RpK K F H kvs es → Rp K F H (.ref a) (.dict es)
inductive RpA (K : PySem.W.Frag) (F : Addr → Prop) (H : Hp) : List V → List PyData → Prop
  | nil : RpA K F H [] []
  | cons {v : V} {vs : List V} {d : PyData} {ds : List PyData} : Rp K F H v d → RpA K F H vs ds → RpA K F H (v :: vs) (d :: ds)
inductive RpK (K : PySem.W.Frag) (F : Addr → Prop) (H : Hp) : List (Key × V) → List (PyData × PyData) → Prop
  | nil : RpK K F H [] []
  | cons {k : Key} {v : V} {kvs : List (Key × V)} {d : PyData} {es : List (PyData × PyData)} : Rp K F H v d → RpK K F H kvs es → RpK K F H ((k, v) :: kvs) ((keyD k, d) :: es)
end

/-- what stands at a, a list or a dict, whoever may change it -/
inductive Ct (K : PySem.W.Frag) (F : Addr → Prop) (H : Hp) (a : Addr) : PyData → Prop
  | lst {xs : List V} {ds : List PyData} : H a = some (.lst xs) → RpA K F H xs ds → Ct K F H a (.list ds)
  | dic {kvs : List (Key × V)} {es : List (PyData × PyData)} : H a = some (.dK kvs) → RpK K F H kvs es → Ct K F H a (.dict es)

/-- F and what it says of H stay -/
structure Kp (F : Addr → Prop) (H : Hp) (F' : Addr → Prop) (H' : Hp) : Prop where
  mono : ∀ a, F a → F' a
  same : ∀ a o, H a = some o → F a → H' a = some o
  tup : ∀ a xs, H a = some (.tup xs) → H' a = some (.tup xs)
  frz : ∀ a o u, H a = some (.frz o u) → H' a = some (.frz o u)

section
variable {K : PySem.W.Frag} {F F' F1 F2 : Addr → Prop} {H H' H1 H2 : Hp} {W W' : Addr → Prop} {a : Addr}
theorem Kp.sqT (k : Kp F H F' H') {xs : List V} (h : SqT K H a xs) : SqT K H' a xs := by
  rcases h with (h | ⟨o, h⟩) | h
  · exact .inl (.inl (k.tup _ _ h))
  · exact .inl (.inr ⟨o, k.frz _ _ _ h⟩)
  · exact .inr h
theorem Kp.lsf (k : Kp F H F' H') {xs : List V} (h : LsF K H a xs) : LsF K H' a xs := by
  rcases h with ⟨o, h⟩ | h
  · exact .inl ⟨o, k.frz _ _ _ h⟩
  · exact .inr h
theorem Kp.nt (k : Kp F H F' H') {xs : List V} (h : NT K H a xs) : NT K H' a xs := by
  rcases h with ⟨o, h, d⟩ | h
  · exact .inl ⟨o, k.frz _ _ _ h, d⟩
  · exact .inr h
mutual
theorem Rp.keep (k : Kp F H F' H') : ∀ (d : PyData) (v : V), Rp K F H v d → Rp K F' H' v d
  | .none, _, h => by cases h; exact .non
  | .bool _, _, h => by cases h; exact .bl _
  | .int _, _, h => by cases h; exact .int _
  | .str _, _, h => by cases h; exact .str _
  | .tuple ds, _, h => by
    cases h with
    | tup h1 h2 => exact .tup (k.nt h1) (RpA.keep k ds _ h2)
  | .list ds, _, h => by
    cases h with
    | lst h1 h2 h3 => exact .lst (k.mono _ h1) (k.same _ _ h2 h1) (RpA.keep k ds _ h3)
    | frz h1 h2 => exact .frz (k.lsf h1) (RpA.keep k ds _ h2)
  | .dict es, _, h => by
    cases h with
    | dic h1 h2 h3 => exact .dic (k.mono _ h1) (k.same _ _ h2 h1) (RpK.keep k es _ h3)
theorem RpA.keep (k : Kp F H F' H') : ∀ (ds : List PyData) (vs : List V), RpA K F H vs ds → RpA K F' H' vs ds
  | [], _, h => by cases h; exact .nil
  | d :: ds, _, h => by
    cases h with
    | cons h1 h2 => exact .cons (Rp.keep k d _ h1) (RpA.keep k ds _ h2)
theorem RpK.keep (k : Kp F H F' H') : ∀ (es : List (PyData × PyData)) (kvs : List (Key × V)), RpK K F H kvs es → RpK K F' H' kvs es
  | [], _, h => by cases h; exact .nil
  | (_, d) :: es, _, h => by
    cases h with
    | cons h1 h2 => exact .cons (Rp.keep k d _ h1) (RpK.keep k es _ h2)
end
/-- the contents at a, which itself stays -/
theorem Ct.keep (k : Kp F H F' H') (ha : ∀ o, H a = some o → H' a = some o) {d : PyData} (h : Ct K F H a d) : Ct K F' H' a d := by
  cases h with
  | lst h1 h2 => exact .lst (ha _ h1) (h2.keep k)
  | dic h1 h2 => exact .dic (ha _ h1) (h2.keep k)
theorem Ct.mut {d : PyData} (h : Ct K F H a d) : (∃ xs, H a = some (.lst xs)) ∨ ∃ kvs, H a = some (.dK kvs) := by
  cases h with
  | lst h1 _ => exact .inl ⟨_, h1⟩
  | dic h1 _ => exact .inr ⟨_, h1⟩
/-- an owned thing becomes shared -/
theorem Ct.rp {d : PyData} (h : Ct K F H a d) (ha : F a) : Rp K F H (.ref a) d := by
  cases h with
  | lst h1 h2 => exact .lst ha h1 h2
  | dic h1 h2 => exact .dic ha h1 h2
theorem RpA.len : ∀ {xs : List V} {ds : List PyData}, RpA K F H xs ds → xs.length = ds.length
  | _, _, .nil => rfl
  | _, _, .cons _ t => congrArg Nat.succ (RpA.len t)
theorem RpA.app : ∀ {xs ys : List V} {ds es : List PyData}, RpA K F H xs ds → RpA K F H ys es → RpA K F H (xs ++ ys) (ds ++ es)
  | _, _, _, _, .nil, h => h
  | _, _, _, _, .cons r t, h => .cons r (RpA.app t h)
theorem RpA.get : ∀ {xs : List V} {ds : List PyData} {i : Nat} {x : V}, RpA K F H xs ds → xs[i]? = some x → ∃ d, ds[i]? = some d ∧ Rp K F H x d
  | _, _, _, _, .nil, e => by simp at e
  | _, _, 0, _, .cons r _, e => by
    have e' := Option.some.inj e
    subst e'
    exact ⟨_, rfl, r⟩
  | _, _, i + 1, _, .cons _ t, e => RpA.get (i := i) t (by simpa using e)
theorem RpA.get' : ∀ {xs : List V} {ds : List PyData} {i : Nat} {d : PyData}, RpA K F H xs ds → ds[i]? = some d → ∃ x, xs[i]? = some x ∧ Rp K F H x d
  | _, _, _, _, .nil, e => by simp at e
  | _, _, 0, _, .cons r _, e => by
    have e' := Option.some.inj e
    subst e'
    exact ⟨_, rfl, r⟩
  | _, _, i + 1, _, .cons _ t, e => RpA.get' (i := i) t (by simpa using e)
theorem RpA.take : ∀ {xs : List V} {ds : List PyData} (n : Nat), RpA K F H xs ds → RpA K F H (xs.take n) (ds.take n)
  | _, _, 0, _ => .nil
  | _, _, _ + 1, .nil => .nil
  | _, _, n + 1, .cons r t => .cons r (RpA.take n t)
theorem RpA.drop : ∀ {xs : List V} {ds : List PyData} (n : Nat), RpA K F H xs ds → RpA K F H (xs.drop n) (ds.drop n)
  | _, _, 0, h => h
  | _, _, _ + 1, .nil => .nil
  | _, _, n + 1, .cons _ t => RpA.drop n t
theorem RpA.rev {xs : List V} {ds : List PyData} (h : RpA K F H xs ds) : RpA K F H xs.reverse ds.reverse := by
  induction xs generalizing ds with
  | nil => cases h; exact .nil
  | cons x xs ih =>
    cases h with
    | cons r t =>
      rw [List.reverse_cons, List.reverse_cons]
      exact (ih t).app (.cons r .nil)

/-- what may have happened from (F, H) to (F', H'): W what may be changed -/
structure Stp (W F : Addr → Prop) (H : Hp) (F' : Addr → Prop) (H' : Hp) : Prop where
  mono : ∀ a, F a → F' a
  new : ∀ a, F' a → F a ∨ H a = none ∨ W a
  keep : ∀ a o, H a = some o → ¬ W a → H' a = some o
  dom : ∀ a, H a ≠ none → H' a ≠ none
theorem Stp.refl (W F : Addr → Prop) (H : Hp) : Stp W F H F H := ⟨fun _ h => h, fun _ h => .inl h, fun _ _ h _ => h, fun _ h => h⟩
theorem Stp.trans (s : Stp W F H F1 H1) (t : Stp W' F1 H1 F2 H2) (hw : ∀ a, W' a → W a ∨ H a = none) : Stp W F H F2 H2 where
  mono := fun a h => t.mono a (s.mono a h)
  new := fun a h => by
    rcases t.new a h with h | h | h
    · exact s.new a h
    · cases e : H a with
      | none => exact .inr (.inl rfl)
      | some o => exact absurd h (s.dom a (by rw [e]; simp))
    · rcases hw a h with h | h
      · exact .inr (.inr h)
      · exact .inr (.inl h)
  keep := fun a o h n => t.keep a o (s.keep a o h n) fun w => by
    rcases hw a w with w | w
    · exact n w
    · rw [h] at w; cases w
  dom := fun a h => t.dom a (s.dom a h)
theorem Stp.weak (s : Stp W F H F' H') (hw : ∀ a, W a → W' a ∨ H a = none) : Stp W' F H F' H' where
  mono := s.mono
  new := fun a h => by
    rcases s.new a h with h | h | h
    · exact .inl h
    · exact .inr (.inl h)
    · rcases hw a h with h | h
      · exact .inr (.inr h)
      · exact .inr (.inl h)
  keep := fun a o h n => s.keep a o h fun w => by
    rcases hw a w with w | w
    · exact n w
    · rw [h] at w; cases w
  dom := s.dom
/-- what may be changed is a list or dict outside of F -/
def WOk (W F : Addr → Prop) (H : Hp) : Prop := ∀ a, W a → ¬ F a ∧ ((∃ xs, H a = some (.lst xs)) ∨ ∃ kvs, H a = some (.dK kvs))
theorem Stp.kp (s : Stp W F H F' H') (w : WOk W F H) : Kp F H F' H' where
  mono := s.mono
  same := fun a o h f => s.keep a o h fun q => (w a q).1 f
  tup := fun a xs h => s.keep a _ h fun q => by
    rcases (w a q).2 with ⟨ys, e⟩ | ⟨ys, e⟩ <;> (rw [h] at e; cases e)
  frz := fun a o u h => s.keep a _ h fun q => by
    rcases (w a q).2 with ⟨ys, e⟩ | ⟨ys, e⟩ <;> (rw [h] at e; cases e)
theorem Kp.refl (F : Addr → Prop) (H : Hp) : Kp F H F H := ⟨fun _ h => h, fun _ _ h _ => h, fun _ _ h => h, fun _ _ _ h => h⟩
/-- a new object -/
theorem Stp.new1 {p : Addr} {o : HO} (hp : H p = none) : Stp W F H F (upd H p o) where
  mono := fun _ h => h
  new := fun _ h => .inl h
  keep := fun a u h _ => by rw [upd_ne (ne_of_none h hp)]; exact h
  dom := fun a h => by
    by_cases e : a = p
    · subst e; rw [upd_same]; simp
    · rw [upd_ne e]; exact h
theorem Kp.new1 {p : Addr} {o : HO} (hp : H p = none) : Kp F H F (upd H p o) where
  mono := fun _ h => h
  same := fun a u h _ => by rw [upd_ne (ne_of_none h hp)]; exact h
  tup := fun a u h => by rw [upd_ne (ne_of_none h hp)]; exact h
  frz := fun a u w h => by rw [upd_ne (ne_of_none h hp)]; exact h
/-- F with one more -/
def Fp (F : Addr → Prop) (p : Addr) : Addr → Prop := fun a => F a ∨ a = p
theorem Kp.more {p : Addr} : Kp F H (Fp F p) H := ⟨fun _ h => .inl h, fun _ _ h _ => h, fun _ _ h => h, fun _ _ _ h => h⟩
theorem Kp.trans (s : Kp F H F1 H1) (t : Kp F1 H1 F2 H2) : Kp F H F2 H2 :=
  ⟨fun a h => t.mono a (s.mono a h), fun a o h f => t.same a o (s.same a o h f) (s.mono a f), fun a xs h => t.tup a xs (s.tup a xs h), fun a o u h => t.frz a o u (s.frz a o u h)⟩
end

/-! ### a frame: its names' values -/
/-- an owned slot's address -/
def Ownd (env : Evn) (σ : L2.St) (a : Addr) : Prop := ∃ (i : Nat) (d : PyData), env[i]? = some (some (.o d)) ∧ σ[i]? = some (some (.ref a))
structure Good (K : PySem.W.Frag) (F : Addr → Prop) (H : Hp) (env : Evn) (σ : L2.St) : Prop where
  len : σ.length = env.length
  sh : ∀ (i : Nat) (d : PyData), env[i]? = some (some (.d d)) → ∃ v, σ[i]? = some (some v) ∧ Rp K F H v d
  ow : ∀ (i : Nat) (d : PyData), env[i]? = some (some (.o d)) → ∃ a, σ[i]? = some (some (.ref a)) ∧ ¬ F a ∧ Ct K F H a d
  inj : ∀ (i j : Nat) (d e : PyData) (a : Addr), env[i]? = some (some (.o d)) → env[j]? = some (some (.o e)) → σ[i]? = some (some (.ref a)) → σ[j]? = some (some (.ref a)) → i = j
  dom : ∀ a, F a → H a ≠ none
section
variable {K : PySem.W.Frag} {F F' : Addr → Prop} {H H' : Hp} {env env' : Evn} {σ : L2.St}
theorem Good.wok (g : Good K F H env σ) : WOk (Ownd env σ) F H := fun a ⟨i, d, h1, h2⟩ => by
  obtain ⟨b, e, n, c⟩ := g.ow i d h1
  rw [h2] at e
  cases e
  exact ⟨n, c.mut⟩
theorem Good.kp (g : Good K F H env σ) (s : Stp (Ownd env σ) F H F' H') : Kp F H F' H' := s.kp g.wok
/-- the frame, where others changed: its owned things stand as they stood -/
theorem Good.stay (g : Good K F H env σ) (k : Kp F H F' H') (ho : ∀ a, Ownd env σ a → ¬ F' a ∧ ∀ o, H a = some o → H' a = some o) (hd : ∀ a, F' a → H' a ≠ none) : Good K F' H' env σ where
  len := g.len
  sh := fun i d h => by
    obtain ⟨v, e, r⟩ := g.sh i d h
    exact ⟨v, e, r.keep k⟩
  ow := fun i d h => by
    obtain ⟨a, e, n, c⟩ := g.ow i d h
    obtain ⟨n', k'⟩ := ho a ⟨i, d, h, e⟩
    exact ⟨a, e, n', c.keep k k'⟩
  inj := g.inj
  dom := hd
/-- a new object that nobody holds -/
theorem Good.new1 (g : Good K F H env σ) {p : Addr} {o : HO} (hp : H p = none) : Good K F (upd H p o) env σ :=
  g.stay (.new1 hp) (fun a w => ⟨(g.wok a w).1, fun u h => by rw [upd_ne (ne_of_none h hp)]; exact h⟩) fun a f => (Stp.new1 (W := fun _ => True) (F := F) hp).dom a (g.dom a f)
/-- a thing that no slot owns is shared from now on -/
theorem Good.more (g : Good K F H env σ) {p : Addr} (hp : ¬ Ownd env σ p) (hd : H p ≠ none) : Good K (Fp F p) H env σ :=
  g.stay .more (fun a w => ⟨fun f => f.elim (g.wok a w).1 fun e => hp (e ▸ w), fun _ h => h⟩) fun a f => f.elim (g.dom a) fun e => e ▸ hd
/-- the owned slot i is shared from now on -/
theorem Good.freeze (g : Good K F H env σ) {i : Nat} {d : PyData} {p : Addr} (hi : env[i]? = some (some (.o d))) (hs : σ[i]? = some (some (.ref p))) : Good K (Fp F p) H (env.set i (some (.d d))) σ where
  len := by rw [List.length_set]; exact g.len
  sh := fun j e h => by
    by_cases q : i = j
    · subst q
      rw [List.getElem?_set_self (by rw [← g.len]; exact (List.getElem?_eq_some_iff.mp hs).1)] at h
      cases h
      obtain ⟨a, e1, n, c⟩ := g.ow i d hi
      rw [hs] at e1
      cases e1
      exact ⟨_, hs, (c.keep .more fun _ h => h).rp (.inr rfl)⟩
    · rw [List.getElem?_set_ne q] at h
      obtain ⟨v, e1, r⟩ := g.sh j e h
      exact ⟨v, e1, r.keep .more⟩
  ow := fun j e h => by
    by_cases q : i = j
    · subst q
      rw [List.getElem?_set_self (by rw [← g.len]; exact (List.getElem?_eq_some_iff.mp hs).1)] at h
      cases h
    · rw [List.getElem?_set_ne q] at h
      obtain ⟨a, e1, n, c⟩ := g.ow j e h
      refine ⟨a, e1, fun f => f.elim n fun e2 => ?_, c.keep .more fun _ h => h⟩
      subst e2
      exact q (g.inj i j d e _ hi h hs e1)
  inj := fun j k e e' a h1 h2 h3 h4 => by
    have un : ∀ (j : Nat) (e : PyData), (env.set i (some (.d d)))[j]? = some (some (.o e)) → env[j]? = some (some (.o e)) := fun j e h => by
      by_cases q : i = j
      · subst q
        rw [List.getElem?_set_self (by rw [← g.len]; exact (List.getElem?_eq_some_iff.mp hs).1)] at h
        cases h
      · rwa [List.getElem?_set_ne q] at h
    exact g.inj j k e e' a (un j e h1) (un k e' h2) h3 h4
  dom := fun a f => f.elim (g.dom a) fun e => by
    subst e
    obtain ⟨a, e1, n, c⟩ := g.ow i d hi
    rw [hs] at e1
    cases e1
    rcases c.mut with ⟨_, e⟩ | ⟨_, e⟩ <;> (rw [e]; simp)
theorem own_freeze {i : Nat} {d : PyData} (hi : i < env.length) : ∀ a, Ownd (env.set i (some (.d d))) σ a → Ownd env σ a := fun a ⟨j, e, h1, h2⟩ => by
  by_cases q : i = j
  · subst q
    rw [List.getElem?_set_self hi] at h1
    cases h1
  · rw [List.getElem?_set_ne q] at h1
    exact ⟨j, e, h1, h2⟩
end
end Qv

set_option maxRecDepth 100000
/-! Q2: a small language with places in place of names, and what it computes over plain data. -/
namespace Qv
open PySem

inductive BOp where
  | add | sub | mul | fdiv | mod | pow
  deriving DecidableEq
inductive COp where
  | eq | ne | lt | le | gt | ge | isin | notin | isn | isnn
  deriving DecidableEq
/-- built-in calls of one value -/
inductive BF where
  | len | all | any | tuple | list | int | repr | sum | sset | lset | sorted
  deriving DecidableEq
inductive Ty where
  | int | bool | str | tuple | list
  deriving DecidableEq
inductive Mth where
  | index | count | split | join | get | items | values
  deriving DecidableEq
/-- a target: a name, or a tuple of names -/
inductive Tg where
  | nm (i : Nat) | tp (is : List Nat)
mutual
inductive Ex where
  | var (i : Nat) | cst (c : PyData) | glb (x : Str) (k : Sum Int Str) | bad
  | tup (es : Exs) | lst (es : Exs) | dct (ks : List Str) (es : Exs)
  | bin (op : BOp) (a b : Ex) | neg (a : Ex)
  | cmp (op : COp) (a b : Ex) | chn (o1 o2 : COp) (a b c : Ex)
  | and (es : Exs) | or (es : Exs) | not (a : Ex) | ite (c a b : Ex)
  | sub (a i : Ex) | slc (a lo hi : Ex) | rev (a : Ex)
  | fn (f : BF) (a : Ex) | inst (a : Ex) (t : Ty)
  | call (f : Str) (es : Exs) (ks : List Str) (kes : Exs)
  | meth (m : Mth) (o : Ex) (es : Exs) | pop (i : Nat) (e : Ex) | mm (mx : Bool) (a b : Ex)
  | lc (vs : List Nat) (elt : Ex) (tg : Tg) (it : Itr) (ifs : Exs)
  | lc2 (vs vs1 : List Nat) (elt : Ex) (tg : Tg) (it : Itr) (ifs : Exs) (tg1 : Tg) (it1 : Itr) (ifs1 : Exs)
  | lcO (i : Nat) (vs : List Nat) (elt : Ex) (tg : Tg) (ifs : Exs)
inductive Exs where
  | nil | cons (e : Ex) (es : Exs) | star (e : Ex) (es : Exs)
inductive Itr where
  | src (e : Ex) | rng1 (a : Ex) | rng2 (a b : Ex) | enu (e : Ex) | zip (a b : Ex)
end
mutual
inductive Sm where
  | asg (i : Nat) (e : Ex) | asgT (is : List Nat) (e : Ex) | asg2 (i j : Nat) (a b : Ex) | asg3 (i j l : Nat) (a b c : Ex)
  | put (i : Nat) (k : Str) (e : Ex) | aug (i : Nat) (op : BOp) (e : Ex)
  | app (i : Nat) (e : Ex) | ext (i : Nat) (e : Ex) | exp (e : Ex)
  | ret (e : Ex) | retN | iff (c : Ex) (a b : Sms)
  | for (tg : Tg) (it : Itr) (body : Sms) | whl (c : Ex) (body : Sms)
  | brk | cnt | pass | rse (c : Str) (es : Exs) | nev
inductive Sms where
  | nil | cons (s : Sm) (ss : Sms)
end

/-- no stars among some -/
def noStar : Exs → Bool
  | .nil => true
  | .cons _ es => noStar es
  | .star _ _ => false
/-! ### the operations on data -/
abbrev lim : Nat := 16000000
def mkV : PyData → Vl
  | .list xs => .o (.list xs)
  | .dict es => .o (.dict es)
  | x => .d x
def stk {α : Type} : Rs α := .error .stuck
def grd {α : Type} (b : Bool) (x : α) : Rs α := if b then .ok x else stk
def bsmall (i : Int) : Bool := decide (-(2 ^ 64) < i) && decide (i < 2 ^ 64)
def mulR (i j : Int) : Bool := bsmall i || bsmall j
def binD : BOp → PyData → PyData → Rs PyData
  | .add, .int i, .int j => .ok (.int (i + j))
  | .add, .str x, .str y => grd (decide (x.length + y.length ≤ lim)) (.str (x ++ y))
  | .add, .list xs, .list ys => grd (decide (xs.length + ys.length ≤ lim)) (.list (xs ++ ys))
  | .add, .tuple xs, .tuple ys => grd (decide (xs.length + ys.length ≤ lim)) (.tuple (xs ++ ys))
  | .sub, .int i, .int j => .ok (.int (i - j))
  | .mul, .int i, .int j => grd (mulR i j) (.int (i * j))
  | .mul, .list xs, .int j => grd (decide (-(2 ^ 63) ≤ j) && decide (j < 2 ^ 63) && decide (xs.length * j.toNat ≤ lim)) (.list (List.replicate j.toNat xs).flatten)
  | .mul, .tuple xs, .int j => grd (!xs.isEmpty && decide (2 ≤ j) && decide (j ≤ 1000) && decide (xs.length ≤ 1000)) (.tuple (List.replicate j.toNat xs).flatten)
  | .fdiv, .int i, .int j => grd (decide (j ≠ 0) && decide (j.natAbs < 1073741824)) (.int (i.fdiv j))
  | .mod, .int i, .int j => grd (decide (j ≠ 0)) (.int (i.fmod j))
  | .pow, .int i, .int j => grd (decide (0 ≤ j) && decide (j ≤ 100) && decide (i.natAbs < 2 ^ 64)) (.int (i ^ j.toNat))
  | _, _, _ => stk
def shp (d : PyData) : Bool := SeqAt.shaped d
/-- x < y of alike data -/
def ltR (x y : PyData) : Bool := shp x && shp y && W.alike x y
def cmpD : COp → PyData → PyData → Rs Bool
  | .eq, x, y => grd (shp x && shp y) (PyData.eqv x y)
  | .ne, x, y => grd (shp x && shp y) (!PyData.eqv x y)
  | .isn, x, .none => .ok (match x with | .none => true | _ => false)
  | .isnn, x, .none => .ok (match x with | .none => false | _ => true)
  | .lt, .int i, .int j => .ok (decide (i < j))
  | .le, .int i, .int j => .ok (decide (i ≤ j))
  | .gt, .int i, .int j => .ok (decide (j < i))
  | .ge, .int i, .int j => .ok (decide (j ≤ i))
  | .lt, .str x, .str y => .ok (decide (x.cps.toList < y.cps.toList))
  | .lt, .tuple xs, .tuple ys => grd (ltR (.tuple xs) (.tuple ys)) (W.dataLt (.tuple xs) (.tuple ys))
  | .isin, x, .list ys => grd (shp x && shp (.list ys)) (ys.any fun z => PyData.eqv z x)
  | .notin, x, .list ys => grd (shp x && shp (.list ys)) (!ys.any fun z => PyData.eqv z x)
  | .isin, x, .tuple ys => grd (shp x && shp (.tuple ys)) (ys.any fun z => PyData.eqv z x)
  | .notin, x, .tuple ys => grd (shp x && shp (.tuple ys)) (!ys.any fun z => PyData.eqv z x)
  | .isin, .str x, .str y => .ok (!(Builtin.Str.occurrences y x 0 y.length 1).isEmpty)
  | .notin, .str x, .str y => .ok (Builtin.Str.occurrences y x 0 y.length 1).isEmpty
  | _, _, _ => stk
def boolsD : List PyData → Rs (List Bool)
  | [] => .ok []
  | .bool b :: r => do let bs ← boolsD r; .ok (b :: bs)
  | _ => stk
def intsD : List PyData → Rs (List Int)
  | [] => .ok []
  | .int b :: r => do let bs ← intsD r; .ok (b :: bs)
  | _ => stk
def strsD : List PyData → Rs (List Str)
  | [] => .ok []
  | .str b :: r => do let bs ← strsD r; .ok (b :: bs)
  | _ => stk
def alikeL (xs : List PyData) : Bool := xs.all fun x => xs.all fun y => W.alike x y
/-- the order of data as Python sorts them -/
def leD (x y : PyData) : Bool := !W.dataLt y x
def dedup : List PyData → List PyData
  | [] => []
  | x :: r => if (dedup r).any (fun y => PyData.eqv x y) then dedup r else x :: dedup r
/-- what a set may hold here: texts, ints, tuples of such .. (hashable, alike) -/
def hashD : PyData → Bool
  | .int _ | .str _ => true
  | .tuple xs => hashA xs
  | _ => false
where hashA : List PyData → Bool
  | [] => true
  | x :: r => hashD x && hashA r
def isTupD : PyData → Bool
  | .tuple _ => true
  | _ => false
def isStrD : PyData → Bool
  | .str _ => true
  | _ => false
/-- what set(..) takes here: texts, or tuples of which fewer than 64 differ -/
def setOk (xs : List PyData) : Bool := alikeL xs && xs.all shp && xs.all hashD && xs.all (fun x => decide (x.depth ≤ 8)) && (xs.all isStrD || (xs.all isTupD && decide ((dedup xs).length < 64))) && decide (xs.length ≤ 4000)
def ssetD : PyData → Rs PyData
  | .list xs => grd (setOk xs) (.list ((dedup xs).mergeSort leD))
  | .tuple xs => grd (setOk xs) (.list ((dedup xs).mergeSort leD))
  | _ => stk
def lsetD : PyData → Rs PyData
  | .list xs => grd (setOk xs) (.int (dedup xs).length)
  | .tuple xs => grd (setOk xs) (.int (dedup xs).length)
  | _ => stk
def isIntD : PyData → Bool
  | .int _ => true
  | _ => false
/-- what sorted(..) takes here -/
def sortOk (xs : List PyData) : Bool := alikeL xs && xs.all shp && xs.all (fun x => decide (x.depth ≤ 8)) && (xs.all isStrD || xs.all isTupD || xs.all isIntD) && decide (xs.length ≤ lim)
def fnD : BF → PyData → Rs PyData
  | .len, .list xs => .ok (.int xs.length)
  | .len, .tuple xs => .ok (.int xs.length)
  | .len, .str x => grd (decide (x.length ≤ lim)) (.int x.length)
  | .len, .dict es => .ok (.int es.length)
  | .all, .list xs => do let bs ← boolsD xs; .ok (.bool (bs.all id))
  | .any, .list xs => do let bs ← boolsD xs; .ok (.bool (bs.any id))
  | .tuple, .list xs => .ok (.tuple xs)
  | .tuple, .tuple xs => .ok (.tuple xs)
  | .list, .list xs => .ok (.list xs)
  | .list, .tuple xs => .ok (.list xs)
  | .int, .int i => .ok (.int i)
  | .int, .bool b => .ok (.int (if b then 1 else 0))
  | .sum, .list xs => do let bs ← intsD xs; .ok (.int bs.sum)
  | .repr, x => grd (x.showable && !x.hasDict && decide (x.depth ≤ 60) && decide (x.shown.length ≤ lim)) (.str x.shown)
  | .sorted, .list xs => grd (sortOk xs) (.list (xs.mergeSort leD))
  | .sset, x => ssetD x
  | .lset, x => lsetD x
  | _, _ => stk
def instD : Ty → PyData → Bool
  | .int, .int _ => true
  | .int, .bool _ => true
  | .bool, .bool _ => true
  | .str, .str _ => true
  | .tuple, .tuple _ => true
  | .list, .list _ => true
  | _, _ => false
/-- the place of an index of any sign -/
def idxD (n : Nat) (i : Int) : Option Nat := if 0 ≤ i then (if i.toNat < n then some i.toNat else none) else (if 0 ≤ i + n then some (i + n).toNat else none)
def lookD (k : PyData) : List (PyData × PyData) → Option PyData
  | [] => none
  | (a, b) :: r => if PyData.eqv a k then some b else lookD k r
def optR {α : Type} : Option α → Rs α
  | some x => .ok x
  | none => stk
def subD : PyData → PyData → Rs PyData
  | .list xs, .int i => optR ((idxD xs.length i).bind fun k => xs[k]?)
  | .tuple xs, .int i => optR ((idxD xs.length i).bind fun k => xs[k]?)
  | .str x, .int i => if x.length ≤ lim then optR ((idxD x.length i).bind fun k => x.cps.toList[k]?.map fun c => .str ⟨#[c]⟩) else stk
  | .dict es, .str k => optR (lookD (.str k) es)
  | _, _ => stk
/-- a bound of a slice within 0 .. n -/
def bndD (n : Nat) (d : Nat) : PyData → Rs Nat
  | .none => .ok d
  | .int i => .ok (if 0 ≤ i then min i.toNat n else (i + n).toNat)
  | _ => stk
def slcD (x lo hi : PyData) : Rs PyData := match x with
  | .list xs => do let a ← bndD xs.length 0 lo; let b ← bndD xs.length xs.length hi; .ok (.list ((xs.drop a).take (b - a)))
  | .tuple xs => do let a ← bndD xs.length 0 lo; let b ← bndD xs.length xs.length hi; .ok (.tuple ((xs.drop a).take (b - a)))
  | _ => stk
def revD : PyData → Rs PyData
  | .list xs => .ok (.list xs.reverse)
  | _ => stk
/-- what may bound a slice -/
def bndOk : Vl → Bool
  | .d .none => true
  | .d (.int _) => true
  | _ => false
def methD : Mth → PyData → List PyData → Rs PyData
  | .index, .tuple xs, [x] => grd (shp (.tuple xs) && shp x && xs.any fun z => PyData.eqv z x) (.int (xs.findIdx fun z => PyData.eqv z x))
  | .index, .list xs, [x] => grd (shp (.list xs) && shp x && xs.any fun z => PyData.eqv z x) (.int (xs.findIdx fun z => PyData.eqv z x))
  | .join, .str a, [.list xs] => do let ys ← strsD xs; grd (decide ((ys.map (·.length)).sum + ys.length * a.length ≤ lim)) (.str (Txt.join a ys))
  | .split, .str a, [.str b] => grd (decide (0 < b.length) && decide (a.length ≤ lim)) (.list ((Txt.split a b).map .str))
  | _, _, _ => stk
/-- of one class: texts, lists, tuples -/
def sameTy : PyData → PyData → Bool
  | .str _, .str _ => true
  | .list _, .list _ => true
  | .tuple _, .tuple _ => true
  | _, _ => false
def itemsD : PyData → Rs (List PyData)
  | .list xs => .ok xs
  | .tuple xs => .ok xs
  | .str x => .ok (x.cps.toList.map fun c => .str ⟨#[c]⟩)
  | _ => stk
def putD (k v : PyData) (es : List (PyData × PyData)) : List (PyData × PyData) :=
  if es.any (fun p => PyData.eqv p.1 k) then es.map (fun p => if PyData.eqv p.1 k then (p.1, v) else p) else es ++ [(k, v)]

/-! ### names -/
inductive Opd where
  | vl (r : Vl) | sl (i : Nat)
def Ex.isVar : Ex → Option Nat
  | .var i => some i
  | _ => none
def opd (o : Option Nat) (f : Evn → Rs (Vl × Evn)) (env : Evn) : Rs (Opd × Evn) := match o with
  | some i => (match env[i]? with
    | some (some (.o _)) => .ok (.sl i, env)
    | _ => do let (r, e) ← f env; .ok (.vl r, e))
  | none => do let (r, e) ← f env; .ok (.vl r, e)
def der (env : Evn) : Opd → Rs PyData
  | .vl r => .ok r.x
  | .sl i => (match env[i]? with
    | some (some v) => .ok v.x
    | _ => stk)
/-- an operation on two operands, looked at now -/
def fin2 {β : Type} (w : β → Vl) (g : PyData → PyData → Rs β) (p q : Opd) (env : Evn) : Rs (Vl × Evn) := match der env p, der env q with
  | .ok x, .ok y => (match g x y with
    | .ok z => .ok (w z, env)
    | .error _ => stk)
  | _, _ => stk
def fin2b (g : PyData → PyData → Rs Bool) (p q : Opd) (env : Evn) : Rs Bool := match der env p, der env q with
  | .ok x, .ok y => (match g x y with
    | .ok z => .ok z
    | .error _ => stk)
  | _, _ => stk
def fin1 {β : Type} (w : β → Vl) (g : PyData → Rs β) (p : Opd) (env : Evn) : Rs (Vl × Evn) := match der env p with
  | .ok x => (match g x with
    | .ok z => .ok (w z, env)
    | .error _ => stk)
  | _ => stk
/-- the class of the receiver fits the method -/
def mOk : Mth → PyData → Bool
  | .index, .tuple _ => true
  | .index, .list _ => true
  | .join, .str _ => true
  | .split, .str _ => true
  | _, _ => false
def getV (i : Nat) (env : Evn) : Rs (Vl × Evn) := match env[i]? with
  | some (some (.d x)) => .ok (.d x, env)
  | some (some (.o x)) => .ok (.d x, env.set i (some (.d x)))
  | _ => stk
def bindT (tg : Tg) (x : PyData) (env : Evn) : Rs Evn := match tg with
  | .nm i => .ok (env.set i (some (.d x)))
  | .tp is => (match x with
    | .tuple ds => if ds.length = is.length then .ok ((is.zip ds).foldl (fun e p => e.set p.1 (some (.d p.2))) env) else stk
    | _ => stk)
def wipeE (env : Evn) (vs : List Nat) : Evn := vs.foldr (fun v e => e.set v none) env
/-- the places vs as they were in e0 -/
def restE (e0 : Evn) (env : Evn) (vs : List Nat) : Evn := vs.foldr (fun v e => e.set v (e0[v]?.getD none)) env

/-- the pop behind its index -/
def popD (i : Nat) (r : Vl) (env : Evn) : Rs (Vl × Evn) := match r, env[i]? with
  | .d (.int j), some (some (.o (.list xs))) => (match (if xs.length ≤ lim then idxD xs.length j else none) with
    | some k => (match xs[k]? with
      | some y => .ok (.d y, env.set i (some (.o (.list (xs.eraseIdx k)))))
      | none => stk)
    | none => stk)
  | _, _ => stk
def mm (mx : Bool) (i j : Int) : Int := if mx then (if j > i then j else i) else (if j < i then j else i)
def mmN (mx : Bool) : Str := if mx then "max" else "min"
/-- what a star lets in -/
def itemsT : PyData → Rs (List PyData)
  | .list xs => .ok xs
  | .tuple xs => .ok xs
  | _ => stk
/-! ### defs -/
/-- a def: its parameters, which of them it may change, what the last ones are if they lack, what it computes -/
structure Fd where
  ps : List Str
  io : List Bool
  dfl : List PyData
  run : List Vl → Rs (Vl × List PyData)
abbrev Tb := List (Str × Fd)
inductive Arg' where
  | dt (x : PyData) | sl (i : Nat)
def argV (env : Evn) : Arg' → Rs Vl
  | .dt x => .ok (.d x)
  | .sl i => (match env[i]? with
    | some (some (.o x)) => .ok (.o x)
    | _ => stk)
def slots : List Arg' → List Nat
  | [] => []
  | .dt _ :: r => slots r
  | .sl i :: r => i :: slots r
def nodupB : List Nat → Bool
  | [] => true
  | x :: r => !r.contains x && nodupB r
def writeB (is : List Nat) (xs : List PyData) (env : Evn) : Evn := (is.zip xs).foldl (fun e p => e.set p.1 (some (.o p.2))) env
/-- the values in the parameters' order (any values): ps the parameters' names from the place i on, n how many there are in all -/
def pickG {α : Type} (dfl as : List α) (ks : List Str) (kas : List α) (n : Nat) (p : Str) (i : Nat) : Option α := match as[i]? with
  | some a => some a
  | none => (match (ks.zip kas).lookup p with
    | some a => some a
    | none => if n ≤ i + dfl.length then dfl[i + dfl.length - n]? else none)
def arrG {α : Type} (dfl as : List α) (ks : List Str) (kas : List α) (n : Nat) : List Str → Nat → Option (List α)
  | [], _ => some []
  | p :: r, i => (pickG dfl as ks kas n p i).bind fun a => (arrG dfl as ks kas n r (i + 1)).map (a :: ·)
def arrange (ps : List Str) (dfl : List PyData) (as : List Arg') (ks : List Str) (kas : List Arg') : Rs (List Arg') := optR (arrG (dfl.map .dt) as ks kas ps.length ps 0)
def argsV (env : Evn) : List Arg' → Rs (List Vl)
  | [] => .ok []
  | a :: r => do
    let v ← argV env a
    let vs ← argsV env r
    .ok (v :: vs)
/-- which written arguments may be changed -/
def ioOf (fd : Fd) (ps : List Str) : List Bool := ps.map fun p => ((fd.ps.zip fd.io).lookup p).getD false
def callF (fd : Fd) (as : List Arg') (ks : List Str) (kas : List Arg') (env : Evn) : Rs (Vl × Evn) := do
  let all ← arrange fd.ps fd.dfl as ks kas
  let vs ← argsV env all
  let _ ← grd (nodupB (slots all)) ()
  let (r, outs) ← fd.run vs
  let _ ← grd (decide ((slots all).length = outs.length)) ()
  .ok (r, writeB (slots all) outs env)

/-- an exception may not leave here -/
def quiet {α : Type} : Rs α → Rs α
  | .ok x => .ok x
  | .error _ => stk
/-- a comprehension's turns -/
def lcLoop (vs : List Nat) (elt : Evn → Rs (Vl × Evn)) (tg : Tg) (ts : Evn → Rs (Bool × Evn)) : List PyData → List PyData → Evn → Rs (List PyData × Evn)
  | [], acc, env => .ok (acc, env)
  | x :: xs, acc, env => do
    let e1 ← bindT tg x (wipeE env vs)
    let (b, e2) ← ts e1
    if b then do
      let (r, e3) ← elt e2
      let _ ← grd (decide (acc.length < lim)) ()
      lcLoop vs elt tg ts xs (acc ++ [r.x]) e3
    else lcLoop vs elt tg ts xs acc e2
/-- the turns of one with two fors: the inner one's -/
def lc2In (vs1 : List Nat) (elt : Evn → Rs (Vl × Evn)) (tg1 : Tg) (ts1 : Evn → Rs (Bool × Evn)) : List PyData → List PyData → Evn → Rs (List PyData × Evn) := lcLoop vs1 elt tg1 ts1
def lc2Loop (vs vs1 : List Nat) (elt : Evn → Rs (Vl × Evn)) (tg : Tg) (ts : Evn → Rs (Bool × Evn)) (it1 : Evn → Rs (List PyData × Evn)) (tg1 : Tg) (ts1 : Evn → Rs (Bool × Evn)) : List PyData → List PyData → Evn → Rs (List PyData × Evn)
  | [], acc, env => .ok (acc, env)
  | x :: xs, acc, env => do
    let e1 ← bindT tg x (wipeE env vs)
    let (b, e2) ← ts e1
    if b then do
      let (ys, e3) ← it1 e2
      let (acc', e4) ← lcLoop vs1 elt tg1 ts1 ys acc e3
      lc2Loop vs vs1 elt tg ts it1 tg1 ts1 xs acc' e4
    else lc2Loop vs vs1 elt tg ts it1 tg1 ts1 xs acc e2
/-- turns over a list of one's own, that stays one's own -/
def lcLoopO (i : Nat) (vs : List Nat) (elt : Evn → Rs (Vl × Evn)) (tg : Tg) (ts : Evn → Rs (Bool × Evn)) : Nat → Nat → List PyData → Evn → Rs (List PyData × Evn)
  | 0, pos, acc, env => (match env[i]? with
    | some (some (.o (.list ys))) => grd (decide (ys.length ≤ pos)) (acc, env)
    | _ => stk)
  | n + 1, pos, acc, env => (match env[i]? with
    | some (some (.o (.list ys))) => (match ys[pos]? with
      | some x => lcLoop vs elt tg ts [x] acc env >>= fun p => lcLoopO i vs elt tg ts n (pos + 1) p.1 p.2
      | none => stk)
    | _ => stk)
/-- a value as a test -/
def asT (g : Evn → Rs (Vl × Evn)) : Evn → Rs (Bool × Evn) := fun env => g env >>= fun p => match p.1 with
  | .d (.bool b) => .ok (b, p.2)
  | _ => stk
/-- the lengths of made lists stay within the model's line -/
def sized (xs : List PyData) : Rs Unit := grd (decide (xs.length ≤ lim)) ()
mutual
def ev (T : Tb) : Ex → Evn → Rs (Vl × Evn)
  | .var i, env => getV i env
  | .cst c, env => .ok (.d c, env)
  | .glb x k, env => .ok (.d (match k with | .inl i => .int i | .inr s => .str s), env)
  | .bad, env => stk
  | .tup es, env => do let (xs, e) ← evs T es env; grd (decide (xs.length ≤ lim)) (.d (.tuple xs), e)
  | .lst es, env => do let (xs, e) ← evs T es env; grd (decide (xs.length ≤ lim)) (.o (.list xs), e)
  | .dct ks es, env => do let (xs, e) ← evs T es env; .ok (.o (.dict ((ks.map .str).zip xs)), e)
  | .bin op a b, env => do
    let (p, e1) ← opd a.isVar (ev T a) env
    let (q, e2) ← opd b.isVar (ev T b) e1
    fin2 mkV (binD op) p q e2
  | .neg a, env => do
    let (r, e1) ← ev T a env
    match r with
    | .d (.int i) => .ok (.d (.int (-i)), e1)
    | _ => stk
  | .cmp op a b, env => do
    let (p, e1) ← opd a.isVar (ev T a) env
    let (q, e2) ← opd b.isVar (ev T b) e1
    fin2 (fun z => .d (.bool z)) (cmpD op) p q e2
  | .chn o1 o2 a b c, env => do
    let (p, e1) ← opd a.isVar (ev T a) env
    let (q, e2) ← opd b.isVar (ev T b) e1
    let z ← fin2b (cmpD o1) p q e2
    if z then do
      let (s, e3) ← opd c.isVar (ev T c) e2
      fin2 (fun z => .d (.bool z)) (cmpD o2) q s e3
    else .ok (.d (.bool false), e2)
  | .and es, env => do let (b, e) ← evAnd T es env; .ok (.d (.bool b), e)
  | .or es, env => do let (b, e) ← evOr T es env; .ok (.d (.bool b), e)
  | .not a, env => do
    let (b, e) ← asT (fun e => ev T a e) env
    .ok (.d (.bool !b), e)
  | .ite c a b, env => do
    let (t, e) ← asT (fun e => ev T c e) env
    if t then ev T a e else ev T b e
  | .sub a i, env => do
    let (p, e1) ← opd a.isVar (ev T a) env
    let (q, e2) ← opd i.isVar (ev T i) e1
    fin2 .d subD p q e2
  | .slc a lo hi, env => do
    let (p, e1) ← opd a.isVar (ev T a) env
    let (q, e2) ← ev T lo e1
    let _ ← grd (bndOk q) ()
    let (s, e3) ← ev T hi e2
    let _ ← grd (bndOk s) ()
    fin1 mkV (fun x => slcD x q.x s.x) p e3
  | .rev a, env => do
    let (p, e1) ← opd a.isVar (ev T a) env
    fin1 mkV revD p e1
  | .fn f a, env => do
    let (p, e1) ← opd a.isVar (ev T a) env
    fin1 mkV (fnD f) p e1
  | .inst a t, env => do
    let (r, e1) ← ev T a env
    .ok (.d (.bool (instD t r.x)), e1)
  | .call f es ks kes, env => (match T.lookup f with
    | none => stk
    | some fd => do
      let (as, e1) ← evA T es (ioOf fd fd.ps) env
      let (kas, e2) ← evA T kes (ioOf fd ks) e1
      callF fd as ks kas e2)
  | .meth m o es, env => do
    let (p, e1) ← opd o.isVar (ev T o) env
    let x0 ← der e1 p
    let _ ← grd (mOk m x0) ()
    let (xs, e2) ← evs T es e1
    fin1 mkV (fun x => if sameTy x0 x then methD m x xs else stk) p e2
  | .pop i e, env => (match env[i]? with
    | some (some (.o (.list _))) => do
      let (r, e1) ← ev T e env
      popD i r e1
    | _ => stk)
  | .mm mx a b, env => do
    let (r, e1) ← ev T a env
    let (q, e2) ← ev T b e1
    match r, q with
    | .d (.int i), .d (.int j) => .ok (.d (.int (mm mx i j)), e2)
    | _, _ => stk
  | .lc vs elt tg it ifs, env => do
    let (xs, e1) ← evI T it env
    let (acc, e2) ← quiet (lcLoop vs (fun e => ev T elt e) tg (fun e => evAnd T ifs e) xs [] (wipeE e1 vs))
    .ok (.o (.list acc), restE e1 e2 vs)
  | .lc2 vs vs1 elt tg it ifs tg1 it1 ifs1, env => do
    let (xs, e1) ← evI T it env
    let (acc, e2) ← quiet (lc2Loop vs vs1 (fun e => ev T elt e) tg (fun e => evAnd T ifs e) (fun e => evI T it1 e) tg1 (fun e => evAnd T ifs1 e) xs [] (wipeE e1 vs))
    .ok (.o (.list acc), restE e1 e2 vs)
  | .lcO i vs elt tg ifs, env => (match env[i]? with
    | some (some (.o (.list xs))) => if vs.contains i then stk else do
      let (acc, e2) ← quiet (lcLoopO i vs (fun e => ev T elt e) tg (fun e => evAnd T ifs e) xs.length 0 [] (wipeE env vs))
      .ok (.o (.list acc), restE env e2 vs)
    | _ => stk)
def evs (T : Tb) : Exs → Evn → Rs (List PyData × Evn)
  | .nil, env => .ok ([], env)
  | .cons e es, env => do
    let (r, e1) ← ev T e env
    let (xs, e2) ← evs T es e1
    .ok (r.x :: xs, e2)
  | .star e es, env => do
    let (r, e1) ← ev T e env
    let xs ← itemsT r.x
    let (ys, e2) ← evs T es e1
    .ok (xs ++ ys, e2)
/-- arguments; those that may be changed are names -/
def evA (T : Tb) : Exs → List Bool → Evn → Rs (List Arg' × Evn)
  | .nil, _, env => .ok ([], env)
  | .star _ _, _, env => stk
  | .cons e es, io, env => (match io.headD false, e.isVar with
    | true, some i => (match env[i]? with
      | some (some (.o _)) => do
        let (as, e2) ← evA T es io.tail env
        .ok (.sl i :: as, e2)
      | _ => stk)
    | true, none => stk
    | false, _ => do
      let (r, e1) ← ev T e env
      let (as, e2) ← evA T es io.tail e1
      .ok (.dt r.x :: as, e2))
def evAnd (T : Tb) : Exs → Evn → Rs (Bool × Evn)
  | .nil, env => .ok (true, env)
  | .star _ _, env => stk
  | .cons e es, env => do
    let (b, e1) ← asT (fun e' => ev T e e') env
    if b then evAnd T es e1 else .ok (false, e1)
def evOr (T : Tb) : Exs → Evn → Rs (Bool × Evn)
  | .nil, env => .ok (false, env)
  | .star _ _, env => stk
  | .cons e es, env => do
    let (b, e1) ← asT (fun e' => ev T e e') env
    if b then .ok (true, e1) else evOr T es e1
def evI (T : Tb) : Itr → Evn → Rs (List PyData × Evn)
  | .src e, env => do
    let (r, e1) ← ev T e env
    match itemsD r.x with
    | .ok xs => .ok (xs, e1)
    | .error _ => stk
  | .rng1 a, env => do
    let (r, e1) ← ev T a env
    match r with
    | .d (.int n) => grd (decide (-(lim : Int) ≤ n) && decide (n ≤ lim)) ((List.range n.toNat).map fun (k : Nat) => PyData.int k, e1)
    | _ => stk
  | .rng2 a b, env => do
    let (r, e1) ← ev T a env
    let (q, e2) ← ev T b e1
    match r, q with
    | .d (.int i), .d (.int j) => grd (decide (-(lim : Int) ≤ i) && decide (i ≤ lim) && decide (-(lim : Int) ≤ j) && decide (j ≤ lim)) ((List.range (j - i).toNat).map fun (k : Nat) => PyData.int (i + k), e2)
    | _, _ => stk
  | .enu e, env => do
    let (r, e1) ← ev T e env
    match r.x with
    | .list xs => .ok (xs.zipIdx.map fun (x, k) => PyData.tuple [.int k, x], e1)
    | .tuple xs => .ok (xs.zipIdx.map fun (x, k) => PyData.tuple [.int k, x], e1)
    | _ => stk
  | .zip a b, env => do
    let (r, e1) ← ev T a env
    let (q, e2) ← ev T b e1
    match r.x, q.x with
    | .list xs, .list ys => .ok ((xs.zip ys).map fun (x, y) => PyData.tuple [x, y], e2)
    | .tuple xs, .tuple ys => .ok ((xs.zip ys).map fun (x, y) => PyData.tuple [x, y], e2)
    | _, _ => stk
end

/-! ### statements -/
inductive Fl where
  | nx | brk | cnt | ret (r : Vl)
def forLoop (tg : Tg) (body : Evn → Rs (Fl × Evn)) : List PyData → Evn → Rs (Fl × Evn)
  | [], env => .ok (.nx, env)
  | x :: xs, env => do
    let e1 ← bindT tg x env
    let (f, e2) ← body e1
    match f with
    | .nx => forLoop tg body xs e2
    | .cnt => forLoop tg body xs e2
    | .brk => .ok (.nx, e2)
    | .ret r => .ok (.ret r, e2)
def whlLoop (c : Evn → Rs (Bool × Evn)) (body : Evn → Rs (Fl × Evn)) : Nat → Evn → Rs (Fl × Evn)
  | 0, _ => stk
  | n + 1, env => do
    let (b, e1) ← c env
    if b then do
      let (f, e2) ← body e1
      match f with
      | .nx => whlLoop c body n e2
      | .cnt => whlLoop c body n e2
      | .brk => .ok (.nx, e2)
      | .ret r => .ok (.ret r, e2)
    else .ok (.nx, e1)
abbrev fuel : Nat := 1000000
def setS (i : Nat) (r : Vl) (env : Evn) : Evn := env.set i (some r)
def augI : BOp → Int → Int → Option Int
  | .add, a, b => some (a + b)
  | .sub, a, b => some (a - b)
  | _, _, _ => none
/-- what an exception of one's own bears -/
abbrev Xcs := List (Str × List Str)
/-- the extension behind its list -/
def extD (i : Nat) (r : Vl) (env : Evn) : Rs (Fl × Evn) := match r with
  | .o (.list ys) => (match env[i]? with
    | some (some (.o (.list xs))) => grd (decide (xs.length + ys.length ≤ lim)) (.nx, setS i (.o (.list (xs ++ ys))) env)
    | _ => stk)
  | _ => stk
mutual
def exS (T : Tb) (X : Xcs) : Sm → Evn → Rs (Fl × Evn)
  | .asg i e, env => do
    let (r, e1) ← ev T e env
    .ok (.nx, setS i r e1)
  | .asgT is e, env => do
    let (r, e1) ← ev T e env
    let e2 ← bindT (.tp is) r.x e1
    .ok (.nx, e2)
  | .asg2 i j a b, env => do
    let (r, e1) ← ev T a env
    let (q, e2) ← ev T b e1
    .ok (.nx, setS j q (setS i r e2))
  | .asg3 i j l a b c, env => do
    let (r, e1) ← ev T a env
    let (q, e2) ← ev T b e1
    let (s, e3) ← ev T c e2
    .ok (.nx, setS l s (setS j q (setS i r e3)))
  | .put i k e, env => do
    let (r, e1) ← ev T e env
    match e1[i]? with
    | some (some (.o (.dict es))) => grd (decide (es.length ≤ lim)) (.nx, setS i (.o (.dict (putD (.str k) r.x es))) e1)
    | _ => stk
  | .aug i op e, env => (match env[i]? with
    | some (some (.d (.int a))) => do
      let (r, e1) ← ev T e env
      match r with
      | .d (.int b) => (match augI op a b with
        | some z => .ok (.nx, setS i (.d (.int z)) e1)
        | none => stk)
      | _ => stk
    | _ => stk)
  | .app i e, env => (match env[i]? with
    | some (some (.o (.list _))) => do
      let (r, e1) ← ev T e env
      match e1[i]? with
      | some (some (.o (.list xs))) => grd (decide (xs.length < lim)) (.nx, setS i (.o (.list (xs ++ [r.x]))) e1)
      | _ => stk
    | _ => stk)
  | .ext i e, env =>
    (match env[i]? with
    | some (some (.o (.list _))) => do
      let (r, e1) ← ev T e env
      extD i r e1
    | _ => stk)
  | .exp e, env => do
    let (_, e1) ← ev T e env
    .ok (.nx, e1)
  | .ret e, env => (match e.isVar with
    | some i => (match env[i]? with
      | some (some (.o x)) => .ok (.ret (.o x), env.set i none)
      | _ => do let (r, e1) ← ev T e env; .ok (.ret r, e1))
    | none => do let (r, e1) ← ev T e env; .ok (.ret r, e1))
  | .retN, env => .ok (.ret (.d .none), env)
  | .iff c a b, env => do
    let (t, e1) ← asT (fun e => ev T c e) env
    if t then exB T X a e1 else exB T X b e1
  | .for tg it body, env => do
    let (xs, e1) ← evI T it env
    forLoop tg (fun e => exB T X body e) xs e1
  | .whl c body, env => whlLoop (asT fun e => ev T c e) (fun e => exB T X body e) fuel env
  | .brk, env => .ok (.brk, env)
  | .cnt, env => .ok (.cnt, env)
  | .pass, env => .ok (.nx, env)
  | .nev, env => stk
  | .rse c es, env => do
    let (xs, _) ← evs T es env
    match X.lookup c with
    | some fs => if fs.length = xs.length then .error (.exc c (fs.zip xs)) else stk
    | none => stk
def exB (T : Tb) (X : Xcs) : Sms → Evn → Rs (Fl × Evn)
  | .nil, env => .ok (.nx, env)
  | .cons s ss, env => do
    let (f, e1) ← exS T X s env
    match f with
    | .nx => exB T X ss e1
    | f => .ok (f, e1)
end
def outsE (env : Evn) : List Nat → Rs (List PyData)
  | [] => .ok []
  | i :: r => (match env[i]? with
    | some (some (.o x)) => do let xs ← outsE env r; .ok (x :: xs)
    | _ => stk)
/-- the places of the parameters that may be changed -/
def ioIx (io : List Bool) : List Nat := (io.zipIdx.filter (·.1)).map (·.2)
/-- a def: n places, its body -/
def Vl.isO : Vl → Bool
  | .o _ => true
  | .d _ => false
def runD (T : Tb) (X : Xcs) (n : Nat) (io : List Bool) (body : Sms) (as : List Vl) : Rs (Vl × List PyData) := do
  let _ ← grd (decide (as.map Vl.isO = io)) ()
  let (f, env) ← exB T X body (as.map some ++ List.replicate (n - as.length) none)
  match f with
  | .ret r => do let os ← outsE env (ioIx io); .ok (r, os)
  | .nx => do let os ← outsE env (ioIx io); .ok (.d .none, os)
  | _ => stk
end Qv

set_option maxRecDepth 100000
/-! Q3: what an expression's evaluation says of the heap: readings made of the evaluator's functions. -/
namespace Qv
open PySem PySem.Spec PyProof.Rows L2

/-- an exception that flies: its class, its own dict, its fields -/
def ExcR (K : PySem.W.Frag) (F : Addr → Prop) (H : Hp) (cls : Value) (d : Option Addr) (c : Str) (fs : List (Str × PyData)) : Prop :=
  cls = .ref (He.ga K c) ∧ ∃ dd ys, d = some dd ∧ H dd = some (.xd ys) ∧ ∀ p ∈ fs, ∃ v, ys.lookup p.1 = some v ∧ Rp K F H v p.2

/-- from one state of a frame to a later one, no name stored -/
structure Aft (K : PySem.W.Frag) (F : Addr → Prop) (H : Hp) (env : Evn) (σ : L2.St) (F' : Addr → Prop) (H' : Hp) (env' : Evn) : Prop where
  good : Good K F' H' env' σ
  stp : Stp (Ownd env σ) F H F' H'
  sub : ∀ a, Ownd env' σ a → Ownd env σ a
section
variable {K : PySem.W.Frag} {F F' F1 F2 : Addr → Prop} {H H' H1 H2 : Hp} {env env' env1 env2 : Evn} {σ : L2.St} {a : Addr} {v : V}
theorem Aft.refl (g : Good K F H env σ) : Aft K F H env σ F H env := ⟨g, .refl _ _ _, fun _ h => h⟩
theorem Aft.trans (s : Aft K F H env σ F1 H1 env1) (t : Aft K F1 H1 env1 σ F2 H2 env2) : Aft K F H env σ F2 H2 env2 :=
  ⟨t.good, s.stp.trans t.stp fun a h => .inl (s.sub a h), fun a h => s.sub a (t.sub a h)⟩
theorem Aft.kp (g : Good K F H env σ) (s : Aft K F H env σ F1 H1 env1) : Kp F H F1 H1 := g.kp s.stp
/-- where a result may lie: it is new, or was an owned one -/
def Nw (H : Hp) (env : Evn) (σ : L2.St) : Addr → Prop := fun a => H a = none ∨ Ownd env σ a
theorem Aft.nw (s : Aft K F H env σ F1 H1 env1) : ∀ a, Nw H1 env1 σ a → Nw H env σ a := fun a h => by
  rcases h with h | h
  · cases e : H a with
    | none => exact .inl e
    | some o => exact absurd h (s.stp.dom a (by rw [e]; simp))
  · exact .inr (s.sub a h)
/-- all stays, something new may stand beside -/
theorem Aft.same (g : Good K F H env σ) (s : Same H H') : Aft K F H env σ F H' env :=
  ⟨g.stay ⟨fun _ h => h, fun a o h _ => s a o h, fun a xs h => s a _ h, fun a o u h => s a _ h⟩ (fun a w => ⟨(g.wok a w).1, fun o h => s a o h⟩)
    (fun a f => by
      cases e : H a with
      | none => exact absurd e (g.dom a f)
      | some o => rw [s a o e]; simp),
   ⟨fun _ h => h, fun _ h => .inl h, fun a o h _ => s a o h, fun a h => by
      cases e : H a with
      | none => exact absurd e h
      | some o => rw [s a o e]; simp⟩, fun _ h => h⟩
theorem Same.kp (s : Same H H') : Kp F H F H' := ⟨fun _ h => h, fun a o h _ => s a o h, fun a xs h => s a _ h, fun a o u h => s a _ h⟩

/-- a result -/
def ResV (K : PySem.W.Frag) (σ : L2.St) (N F : Addr → Prop) (H : Hp) (env : Evn) (v : V) : Vl → Prop
  | .d x => Rp K F H v x
  | .o x => ∃ a, v = .ref a ∧ ¬ F a ∧ ¬ Ownd env σ a ∧ Ct K F H a x ∧ N a
theorem Ct.some {x : PyData} (c : Ct K F H a x) : ∃ o, H a = some o := by
  rcases c.mut with ⟨_, e⟩ | ⟨_, e⟩ <;> exact ⟨_, e⟩
theorem ResV.mono {N N' : Addr → Prop} (h : ∀ a, N a → N' a) {r : Vl} (q : ResV K σ N F H env v r) : ResV K σ N' F H env v r := by
  cases r with
  | d x => exact q
  | o x =>
    obtain ⟨a, e, n, o, c, z⟩ := q
    exact ⟨a, e, n, o, c, h a z⟩
theorem ResV.keep {N : Addr → Prop} (g : Good K F1 H1 env1 σ) (s : Aft K F1 H1 env1 σ F2 H2 env2) {r : Vl} (q : ResV K σ N F1 H1 env1 v r) : ResV K σ N F2 H2 env2 v r := by
  cases r with
  | d x => exact Rp.keep (s.kp g) _ _ q
  | o x =>
    obtain ⟨a, e, n, o, c, z⟩ := q
    obtain ⟨u, hu⟩ := c.some
    refine ⟨a, e, fun f => ?_, fun w => o (s.sub a w), c.keep (s.kp g) fun u h => s.stp.keep a u h o, z⟩
    rcases s.stp.new a f with f | f | f
    · exact n f
    · rw [hu] at f; cases f
    · exact o f
/-- a result is shared from now on -/
theorem ResV.share {N : Addr → Prop} (g : Good K F H env σ) {r : Vl} (q : ResV K σ N F H env v r) (hn : ∀ a, N a → H1 a = none ∨ Ownd env1 σ a) (s : Stp (Ownd env1 σ) F1 H1 F H) : ∃ F', Good K F' H env σ ∧ Kp F H F' H ∧ Stp (Ownd env1 σ) F1 H1 F' H ∧ Rp K F' H v r.x := by
  cases r with
  | d x => exact ⟨F, g, .refl _ _, s, q⟩
  | o x =>
    obtain ⟨a, e, n, o, c, z⟩ := q
    obtain ⟨u, hu⟩ := c.some
    subst e
    refine ⟨Fp F a, g.more o (by rw [hu]; simp), .more, ⟨fun b h => .inl (s.mono b h), fun b h => ?_, s.keep, s.dom⟩, (c.keep .more fun _ h => h).rp (.inr rfl)⟩
    rcases h with h | h
    · exact s.new b h
    · subst h
      exact (hn b z).elim (fun h => .inr (.inl h)) fun h => .inr (.inr h)
end

/-! ### readings -/
section
variable (K : PySem.W.Frag) (W : WX)
/-- what evaluation from env asks: R the relation of what comes and its datum -/
def Po {α β : Type} (R : (Addr → Prop) → (Addr → Prop) → Hp → Evn → β → α → Prop) (f : Evn → Rs (α × Evn)) (F : Addr → Prop) (env : Evn) (σ : L2.St) (H : Hp) (Q : β → Hp → Prop) : Prop := match f env with
  | .ok (r, env') => ∀ v F' H', Aft K F H env σ F' H' env' → R (Nw H env σ) F' H' env' v r → Q v H'
  | .error (.exc c fs) => ∀ cls d F' H', Stp (Ownd env σ) F H F' H' → ExcR K F' H' cls d c fs → W cls d σ H'
  | .error .stuck => False
def tE (f : Evn → Rs (Vl × Evn)) : TE := fun σ H Q => ∃ F env, Good K F H env σ ∧ Po K W (ResV K σ) f F env σ H Q
def ResB : (Addr → Prop) → (Addr → Prop) → Hp → Evn → Bool → Bool → Prop := fun _ _ _ _ b c => b = c
def tT (f : Evn → Rs (Bool × Evn)) : TT := fun σ H Q => ∃ F env, Good K F H env σ ∧ Po K W ResB f F env σ H Q
/-- values of shared data -/
def ResL : (Addr → Prop) → (Addr → Prop) → Hp → Evn → List V → List PyData → Prop := fun _ F H _ vs xs => RpA K F H vs xs
def tL (f : Evn → Rs (List PyData × Evn)) : TA := fun σ H Q => ∃ F env, Good K F H env σ ∧ Po K W (ResL K) f F env σ H Q
/-- an operand: a result, or a name that is looked at when all operands are there -/
def ResO (σ : L2.St) (N F : Addr → Prop) (H : Hp) (env : Evn) (v : V) : Opd → Prop
  | .vl r => ResV K σ N F H env v r
  | .sl i => σ[i]? = some (some v)
def tO (f : Evn → Rs (Opd × Evn)) : TE := fun σ H Q => ∃ F env, Good K F H env σ ∧ Po K W (ResO K σ) f F env σ H Q
end
section
variable {K : PySem.W.Frag} {W : WX} {F F' F1 F2 : Addr → Prop} {H H' H1 H2 : Hp} {env env' env1 env2 : Evn} {σ : L2.St} {a : Addr} {v : V}
theorem Po.stuck {α β : Type} {R : (Addr → Prop) → (Addr → Prop) → Hp → Evn → β → α → Prop} {f : Evn → Rs (α × Evn)} {Q : β → Hp → Prop} (h : Po K W R f F env σ H Q) (e : f env = stk) : False := by
  unfold Po at h
  rw [e] at h
  exact h
/-- one evaluation, then another -/
theorem Po.bind {α α1 β β1 : Type} {R : (Addr → Prop) → (Addr → Prop) → Hp → Evn → β → α → Prop} {R1 : (Addr → Prop) → (Addr → Prop) → Hp → Evn → β1 → α1 → Prop} {f : Evn → Rs (α × Evn)} {f1 : Evn → Rs (α1 × Evn)} {f2 : α1 → Evn → Rs (α × Evn)}
    {Q : β → Hp → Prop} (hf : f env = (f1 env >>= fun p => f2 p.1 p.2)) (hR : ∀ N N' F H env v r, (∀ a, N a → N' a) → R N F H env v r → R N' F H env v r) (h : Po K W R f F env σ H Q) :
    Po K W R1 f1 F env σ H (fun v1 H1 => ∃ F1 env1 r, Aft K F H env σ F1 H1 env1 ∧ R1 (Nw H env σ) F1 H1 env1 v1 r ∧ f1 env = .ok (r, env1) ∧ Po K W R (f2 r) F1 env1 σ H1 Q) := by
  unfold Po at h ⊢
  rw [hf] at h
  cases e : f1 env with
  | error x =>
    rw [e] at h
    cases x with
    | stuck => exact h
    | exc c fs => exact h
  | ok p =>
    obtain ⟨r, env1⟩ := p
    rw [e] at h
    have h : (match f2 r env1 with
      | .ok (r, env') => ∀ v F' H', Aft K F H env σ F' H' env' → R (Nw H env σ) F' H' env' v r → Q v H'
      | .error (.exc c fs) => ∀ cls d F' H', Stp (Ownd env σ) F H F' H' → ExcR K F' H' cls d c fs → W cls d σ H'
      | .error .stuck => False) := h
    intro v1 F1 H1 s q1
    refine ⟨F1, env1, r, s, q1, rfl, ?_⟩
    cases e2 : f2 r env1 with
    | error x =>
      rw [e2] at h
      cases x with
      | stuck => exact h
      | exc c fs => exact fun cls d F' H' t q => h cls d F' H' (s.stp.trans t fun a w => .inl (s.sub a w)) q
    | ok p =>
      obtain ⟨r2, env2⟩ := p
      rw [e2] at h
      exact fun v F' H' t q => h v F' H' (s.trans t) (hR _ _ _ _ _ _ _ s.nw q)
/-- no further evaluation: the result -/
theorem Po.now {α β : Type} {R : (Addr → Prop) → (Addr → Prop) → Hp → Evn → β → α → Prop} {f : Evn → Rs (α × Evn)} {r : α} {Q : β → Hp → Prop} (h : Po K W R f F env σ H Q) (e : f env = .ok (r, env)) :
    ∀ v F' H', Aft K F H env σ F' H' env → R (Nw H env σ) F' H' env v r → Q v H' := by
  unfold Po at h
  rw [e] at h
  exact h
theorem Po.okd {α β : Type} {R : (Addr → Prop) → (Addr → Prop) → Hp → Evn → β → α → Prop} {f : Evn → Rs (α × Evn)} {r : α} {Q : β → Hp → Prop} (h : Po K W R f F env σ H Q) (e : f env = .ok (r, env')) :
    ∀ v F' H', Aft K F H env σ F' H' env' → R (Nw H env σ) F' H' env' v r → Q v H' := by
  unfold Po at h
  rw [e] at h
  exact h
/-- more is wanted behind -/
theorem Po.imp {α β : Type} {R : (Addr → Prop) → (Addr → Prop) → Hp → Evn → β → α → Prop} {f : Evn → Rs (α × Evn)} {Q Q' : β → Hp → Prop} (h : Po K W R f F env σ H Q) (q : ∀ v H', Q v H' → Q' v H') : Po K W R f F env σ H Q' := by
  unfold Po at h ⊢
  cases e : f env with
  | error x =>
    rw [e] at h
    cases x <;> exact h
  | ok p =>
    rw [e] at h
    exact fun v F' H' s z => q v H' (h v F' H' s z)
theorem Po.mapF {α β : Type} {R : (Addr → Prop) → (Addr → Prop) → Hp → Evn → β → α → Prop} {f f' : Evn → Rs (α × Evn)} {Q : β → Hp → Prop} (h : Po K W R f F env σ H Q) (e : f env = f' env) : Po K W R f' F env σ H Q := by
  unfold Po at h ⊢
  rw [← e]
  exact h
theorem mono_V : ∀ (N N' F : Addr → Prop) (H : Hp) (env : Evn) (v : V) (r : Vl), (∀ a, N a → N' a) → ResV K σ N F H env v r → ResV K σ N' F H env v r := fun _ _ _ _ _ _ _ h q => q.mono h
theorem mono_B : ∀ (N N' F : Addr → Prop) (H : Hp) (env : Evn) (v : Bool) (r : Bool), (∀ a, N a → N' a) → ResB N F H env v r → ResB N' F H env v r := fun _ _ _ _ _ _ _ _ q => q
theorem mono_L : ∀ (N N' F : Addr → Prop) (H : Hp) (env : Evn) (v : List V) (r : List PyData), (∀ a, N a → N' a) → ResL K N F H env v r → ResL K N' F H env v r := fun _ _ _ _ _ _ _ _ q => q
theorem mono_O : ∀ (N N' F : Addr → Prop) (H : Hp) (env : Evn) (v : V) (r : Opd), (∀ a, N a → N' a) → ResO K σ N F H env v r → ResO K σ N' F H env v r := fun _ _ _ _ _ _ r h q => by
  cases r with
  | vl r => exact ResV.mono h q
  | sl i => exact q
theorem ResO.keep {N : Addr → Prop} (g : Good K F1 H1 env1 σ) (s : Aft K F1 H1 env1 σ F2 H2 env2) {r : Opd} (q : ResO K σ N F1 H1 env1 v r) : ResO K σ N F2 H2 env2 v r := by
  cases r with
  | vl r => exact ResV.keep g s q
  | sl i => exact q

/-! ### what can be read -/
/-- v can be read as d, whoever may change it -/
def Vw (K : PySem.W.Frag) (F : Addr → Prop) (H : Hp) (v : V) (d : PyData) : Prop := Rp K F H v d ∨ ∃ a, v = .ref a ∧ Ct K F H a d
theorem Good.der (g : Good K F H env σ) {p : Opd} {x : PyData} {N : Addr → Prop} (q : ResO K σ N F H env v p) (e : der env p = .ok x) : Vw K F H v x := by
  cases p with
  | vl r =>
    have e' : r.x = x := by injection e
    subst e'
    cases r with
    | d x => exact .inl q
    | o x =>
      obtain ⟨a, e, _, _, c, _⟩ := q
      exact .inr ⟨a, e, c⟩
  | sl i =>
    simp only [Qv.der] at e
    cases h : env[i]? with
    | none => rw [h] at e; cases e
    | some o =>
      rw [h] at e
      cases o with
      | none => cases e
      | some vl =>
        have e' : vl.x = x := by injection e
        subst e'
        have q : σ[i]? = some (some v) := q
        cases vl with
        | d x =>
          obtain ⟨u, e1, r⟩ := g.sh i x h
          rw [q] at e1
          cases e1
          exact .inl r
        | o x =>
          obtain ⟨a, e1, n, c⟩ := g.ow i x h
          rw [q] at e1
          cases e1
          exact .inr ⟨a, rfl, c⟩
theorem ResV.vw {N : Addr → Prop} {r : Vl} (q : ResV K σ N F H env v r) : Vw K F H v r.x := by
  cases r with
  | d x => exact .inl q
  | o x =>
    obtain ⟨a, e, _, _, c, _⟩ := q
    exact .inr ⟨a, e, c⟩
theorem Vw.keep (k : Kp F H F' H') (ho : ∀ a, v = .ref a → ∀ o, H a = some o → H' a = some o) {d : PyData} (h : Vw K F H v d) : Vw K F' H' v d := by
  rcases h with h | ⟨a, e, c⟩
  · exact .inl (h.keep k)
  · exact .inr ⟨a, e, c.keep k (ho a e)⟩
theorem Vw.lst {ds : List PyData} (h : Vw K F H v (.list ds)) : ∃ a xs, v = .ref a ∧ SqL K H a xs ∧ RpA K F H xs ds := by
  rcases h with h | ⟨a, e, c⟩
  · cases h with
    | lst h1 h2 h3 => exact ⟨_, _, rfl, .of h2, h3⟩
    | frz h1 h2 => exact ⟨_, _, rfl, h1.sqL, h2⟩
  · cases c with
    | lst h1 h2 => exact ⟨_, _, e, .of h1, h2⟩
theorem Vw.tup {ds : List PyData} (h : Vw K F H v (.tuple ds)) : ∃ a xs, v = .ref a ∧ NT K H a xs ∧ RpA K F H xs ds := by
  rcases h with h | ⟨a, e, c⟩
  · cases h with
    | tup h1 h2 => exact ⟨_, _, rfl, h1, h2⟩
  · cases c
theorem Vw.dic {es : List (PyData × PyData)} (h : Vw K F H v (.dict es)) : ∃ a kvs, v = .ref a ∧ H a = some (.dK kvs) ∧ RpK K F H kvs es := by
  rcases h with h | ⟨a, e, c⟩
  · cases h with
    | dic h1 h2 h3 => exact ⟨_, _, rfl, h2, h3⟩
  · cases c with
    | dic h1 h2 => exact ⟨_, _, e, h1, h2⟩
theorem Vw.int {i : Int} (h : Vw K F H v (.int i)) : v = .int i := by
  rcases h with h | ⟨a, e, c⟩
  · cases h; rfl
  · cases c
theorem Vw.str {i : Str} (h : Vw K F H v (.str i)) : v = .str i := by
  rcases h with h | ⟨a, e, c⟩
  · cases h; rfl
  · cases c
theorem Vw.bool {i : Bool} (h : Vw K F H v (.bool i)) : v = .bl i := by
  rcases h with h | ⟨a, e, c⟩
  · cases h; rfl
  · cases c
theorem Vw.none (h : Vw K F H v .none) : v = .non := by
  rcases h with h | ⟨a, e, c⟩
  · cases h; rfl
  · cases c
mutual
theorem Rp.dp : ∀ (d : PyData) (v : V), d.hasDict = false → Rp K F H v d → Dp K H v d
  | .none, _, _, h => by cases h; exact .non
  | .bool _, _, _, h => by cases h; exact .bl _
  | .int _, _, _, h => by cases h; exact .int _
  | .str _, _, _, h => by cases h; exact .str _
  | .tuple ds, _, n, h => by
    cases h with
    | tup h1 h2 => exact .tup h1.sqT (RpA.dp ds _ (by simpa only [PyData.hasDict] using n) h2)
  | .list ds, _, n, h => by
    cases h with
    | lst h1 h2 h3 => exact .lst (.of h2) (RpA.dp ds _ (by simpa only [PyData.hasDict] using n) h3)
    | frz h1 h2 => exact .lst h1.sqL (RpA.dp ds _ (by simpa only [PyData.hasDict] using n) h2)
  | .dict es, _, n, h => by simp only [PyData.hasDict] at n; cases n
theorem RpA.dp : ∀ (ds : List PyData) (vs : List V), PyData.hasDictAll ds = false → RpA K F H vs ds → DpAll K H vs ds
  | [], _, _, h => by cases h; exact .nil
  | d :: ds, _, n, h => by
    cases h with
    | cons h1 h2 =>
      simp only [PyData.hasDictAll, Bool.or_eq_false_iff] at n
      exact .cons (Rp.dp d _ n.1 h1) (RpA.dp ds _ n.2 h2)
end
theorem shp_dict {d : PyData} (h : shp d = true) : d.hasDict = false := PyData.hasDict_of_canLay d (SeqAt.canLay_of_shaped h)
theorem Vw.dp {d : PyData} (n : d.hasDict = false) (h : Vw K F H v d) : Dp K H v d := by
  rcases h with h | ⟨a, e, c⟩
  · exact h.dp _ _ n
  · subst e
    cases c with
    | lst h1 h2 => exact .lst (.of h1) (h2.dp _ _ (by simpa only [PyData.hasDict] using n))
    | dic h1 h2 => simp only [PyData.hasDict] at n; cases n

/-- what a built-in makes: all stays, the result is new or stood already -/
def Mkd (K : PySem.W.Frag) (F : Addr → Prop) (H : Hp) (v : V) (H' : Hp) (r : Vl) : Prop := Same H H' ∧ match r with
  | .d x => Rp K F H' v x
  | .o x => ∃ a, v = .ref a ∧ H a = none ∧ Ct K F H' a x
theorem Mkd.res (g : Good K F H env σ) {r : Vl} (h : Mkd K F H v H' r) : Aft K F H env σ F H' env ∧ ResV K σ (Nw H env σ) F H' env v r := by
  obtain ⟨s, h⟩ := h
  refine ⟨.same g s, ?_⟩
  cases r with
  | d x => exact h
  | o x =>
    obtain ⟨a, e, n, c⟩ := h
    refine ⟨a, e, fun f => g.dom a f n, fun w => ?_, c, .inl n⟩
    rcases (g.wok a w).2 with ⟨_, z⟩ | ⟨_, z⟩ <;> (rw [n] at z; cases z)
end
end Qv

set_option maxRecDepth 100000
set_option maxHeartbeats 1000000
/-! Q4: operators and comparisons over data. -/
namespace Qv
open PySem PySem.Spec PyProof.Rows L2

theorem grd_ok {α : Type} {b : Bool} {x y : α} (h : grd b x = .ok y) : b = true ∧ x = y := by
  cases b with
  | false => exact nomatch h
  | true =>
    have e : (Except.ok x : Rs α) = .ok y := h
    injection e with e
    exact ⟨rfl, e⟩
theorem not_stk {α : Type} {y : α} (h : (stk : Rs α) = .ok y) : False := nomatch h
theorem ok_in {α : Type} {x y : α} (h : (Except.ok x : Rs α) = .ok y) : x = y := by injection h
theorem lim_line : lim ≤ sizeLine := by rw [sizeLine_eq]; decide
theorem lim2_line : lim < sizeLine := by rw [sizeLine_eq]; decide
theorem ba2 {a b : Bool} (h : (a && b) = true) : a = true ∧ b = true := Bool.and_eq_true_iff.mp h
section
variable {X : Cx} {pins : List (Addr × Obj)} {σ : L2.St} {H : Hp} {s : Shared} {F : Addr → Prop} {v : V}

/-! ### new tuples -/
/-- a tuple laid behind what stood -/
theorem tup_new {h1 : Heap} {tk : Nat} {us : List Value} {xs : List V} (I : Inv X pins σ H { s with heap := h1, toks := tk }) (r : Vals xs us) (hz : xs.length ≤ sizeLine) :
    H h1.objs.size = none ∧ ∃ o : Obj, o.dict = none ∧ Inv X pins σ (upd H h1.objs.size (.frz o (.tup xs))) { s with heap := h1.push { cls := .type "tuple", data := .seq us.toArray }, toks := tk } := by
  have nw : H h1.objs.size = none := I.hok.fresh (Nat.le_refl _)
  refine ⟨nw, { cls := .type "tuple", data := .seq us.toArray }, rfl, ?_⟩
  exact I.laid (t' := tk) (fun _ _ q => Heap.get?_push_of_some _ q) (Nat.le_refl _) ⟨Heap.get?_push_size _ rfl, hz, us, r, IsTup.new _ _⟩
theorem same_new {p : Addr} {o : HO} (hp : H p = none) : Same H (upd H p o) := fun b u h => by
  rw [upd_ne (ne_of_none h hp)]
  exact h
theorem mk_tup {p : Addr} {o : Obj} {xs : List V} {ds : List PyData} (hp : H p = none) (hd : o.dict = none) (r : RpA X.K F H xs ds) : Mkd X.K F H (.ref p) (upd H p (.frz o (.tup xs))) (.d (.tuple ds)) :=
  ⟨same_new hp, .tup (.inl ⟨o, upd_same, hd⟩) (r.keep (Same.kp (same_new hp)) _ _)⟩
theorem mk_lst {p : Addr} {xs : List V} {ds : List PyData} (hp : H p = none) (r : RpA X.K F H xs ds) : Mkd X.K F H (.ref p) (upd H p (.lst xs)) (.o (.list ds)) :=
  ⟨same_new hp, p, rfl, hp, .lst upd_same (r.keep (Same.kp (same_new hp)) _ _)⟩
theorem mk_d {x : PyData} (h : Rp X.K F H v x) : Mkd X.K F H v H (.d x) := ⟨fun _ _ h => h, h⟩

/-! ### an operator by data -/
def rD (K : PySem.W.Frag) (g : PyData → PyData → Rs PyData) : R2 := fun x y H Q => ∃ F d e z, Vw K F H x d ∧ Vw K F H y e ∧ g d e = .ok z ∧ ∀ v H', Mkd K F H v H' (mkV z) → Q v H'
/-- a list that is written, or locked -/
def RdL (K : PySem.W.Frag) (H : Hp) (a : Addr) (xs : List V) : Prop := H a = some (.lst xs) ∨ LsF K H a xs
theorem rd_lst {l : Addr} {xs : List V} (I : Inv X pins σ H s) (h : RdL X.K H l xs) : xs.length ≤ sizeLine ∧ ∃ (its : List Value) (n : Nat), Vals xs its ∧ s.heap.get? l = some { cls := .type "list", data := .seq its.toArray n } := by
  rcases h with h | ⟨o, h⟩ | ⟨its, n, h1, h2, h3⟩
  · exact (show ObjOk X.prog X.w H s.heap l (.lst xs) from I.hok l _ h)
  · exact Rd.ok (.inr ⟨o, h⟩) I.hok
  · have e : xs.length = its.size := by simpa using h3.length
    exact ⟨by omega, its.toList, n, h3, by rw [Array.toArray_toList]; exact I.kIn l _ h1⟩
theorem Vw.rd {K : PySem.W.Frag} {ds : List PyData} (h : Vw K F H v (.list ds)) : ∃ a xs, v = .ref a ∧ RdL K H a xs ∧ RpA K F H xs ds := by
  rcases h with h | ⟨a, e, c⟩
  · cases h with
    | lst h1 h2 h3 => exact ⟨_, _, rfl, .inl h2, h3⟩
    | frz h1 h2 => exact ⟨_, _, rfl, .inr h1, h2⟩
  · cases c with
    | lst h1 h2 => exact ⟨_, _, e, .inl h1, h2⟩
theorem nt_tup {a : Addr} {xs : List V} (I : Inv X pins σ H s) (h : NT X.K H a xs) : xs.length ≤ sizeLine ∧ ∃ (its : List Value) (o : Obj) (n : Nat), Vals xs its ∧ s.heap.get? a = some o ∧ o.cls = .type "tuple" ∧ o.dict = none ∧ o.data = .seq its.toArray n := by
  rcases h with ⟨o, h, hd⟩ | ⟨o, its, n, hk, hc, hd, hs, hz, r⟩
  · obtain ⟨ho, z, its, r, o', ho', hc, n, hs⟩ := I.hok a _ h
    rw [ho] at ho'
    cases ho'
    exact ⟨z, its, o, n, r, ho, hc, hd, hs⟩
  · refine ⟨?_, its.toList, o, n, r, I.kIn a o hk, hc, hd, by simpa using hs⟩
    have e := r.length
    simp only [Array.length_toList] at e
    omega

theorem cat_lists {x y : V} {u w : Value} {ds es : List PyData} {Q : VK} (I : Inv X pins σ H s) (rx : RelV x u) (ry : RelV y w) (hx : Vw X.K F H x (.list ds)) (hy : Vw X.K F H y (.list es)) (hz : ds.length + es.length ≤ sizeLine)
    (q : ∀ v H', Mkd X.K F H v H' (.o (.list (ds ++ es))) → Q v H') : wpAny (model X.prog X.w) X.A (binaryOp .Add u w) (EP X pins σ Q) X.xe s := by
  obtain ⟨l, xs, rfl, hl, r1⟩ := hx.rd
  obtain ⟨b, ys, rfl, hb, r2⟩ := hy.rd
  cases rx
  cases ry
  obtain ⟨z1, its, n, v1, e1⟩ := rd_lst I hl
  obtain ⟨z2, its2, n2, v2, e2⟩ := rd_lst I hb
  have l1 := r1.len
  have l2 := r2.len
  have l3 := v1.length
  have l4 := v2.length
  refine PySem.P.add_list e1 e2 ?_ (by rw [List.size_toArray, List.size_toArray]; omega)
  rw [show its.toArray ++ its2.toArray = (its ++ its2).toArray by simp]
  exact ⟨.ref _, _, I.lnew (t' := s.toks) (v1.append v2) (by rw [List.length_append]; omega), rfl, q _ _ (mk_lst I.fresh (r1.app r2))⟩
theorem cat_tups {x y : V} {u w : Value} {ds es : List PyData} {Q : VK} (I : Inv X pins σ H s) (rx : RelV x u) (ry : RelV y w) (hx : Vw X.K F H x (.tuple ds)) (hy : Vw X.K F H y (.tuple es)) (hz : ds.length + es.length ≤ sizeLine)
    (q : ∀ v H', Mkd X.K F H v H' (.d (.tuple (ds ++ es))) → Q v H') : wpAny (model X.prog X.w) X.A (binaryOp .Add u w) (EP X pins σ Q) X.xe s := by
  obtain ⟨l, xs, rfl, hl, r1⟩ := hx.tup
  obtain ⟨b, ys, rfl, hb, r2⟩ := hy.tup
  cases rx
  cases ry
  obtain ⟨its, v1, p1, _⟩ := I.tuple hl.sqT
  obtain ⟨its2, v2, p2, _⟩ := I.tuple hb.sqT
  have l1 := r1.len
  have l2 := r2.len
  have l3 := v1.length
  have l4 := v2.length
  by_cases e1 : its = []
  · subst e1
    cases v1
    cases r1
    exact cat_tup0 p1 p2 ⟨.ref b, H, I, rfl, q _ _ (mk_d (.tup hb r2))⟩
  · refine HT.cat_tup p1 p2 e1 (fun z => ?_) (fun z => ?_) (by omega)
    · subst z
      cases v2
      cases r2
      exact ⟨.ref l, H, I, rfl, q _ _ (by rw [List.append_nil]; exact mk_d (.tup hl r1))⟩
    · obtain ⟨nw, o, hd, J⟩ := tup_new (h1 := s.heap) (tk := s.toks) I (v1.append v2) (by rw [List.length_append]; omega)
      exact ⟨.ref _, _, J, rfl, q _ _ (mk_tup nw hd (r1.app r2))⟩
theorem or_add : OpR X (binaryOp .Add) (rD X.K (binD .add)) := by
  intro pins s σ H x y v u Q I rx ry h
  obtain ⟨F, d, e, z, hd, he, hg, q⟩ := h
  cases d <;> cases e <;> try (exact (not_stk hg).elim)
  · -- ints
    obtain rfl := ok_in hg
    have e1 := hd.int
    have e2 := he.int
    subst e1 e2
    exact op_add pins s σ H _ _ v u Q I rx ry ⟨_, _, rfl, rfl, q _ _ (mk_d (.int _))⟩
  · obtain ⟨g1, rfl⟩ := grd_ok hg
    have e1 := hd.str
    have e2 := he.str
    subst e1 e2
    exact op_add_str pins s σ H _ _ v u Q I rx ry ⟨_, _, rfl, rfl, Nat.le_trans (of_decide_eq_true g1) lim_line, q _ _ (mk_d (.str _))⟩
  · obtain ⟨g1, rfl⟩ := grd_ok hg
    exact cat_lists I rx ry hd he (Nat.le_trans (of_decide_eq_true g1) lim_line) q
  · obtain ⟨g1, rfl⟩ := grd_ok hg
    exact cat_tups I rx ry hd he (Nat.le_trans (of_decide_eq_true g1) lim_line) q
theorem or_sub : OpR X (binaryOp .Sub) (rD X.K (binD .sub)) := by
  intro pins s σ H x y v u Q I rx ry h
  obtain ⟨F, d, e, z, hd, he, hg, q⟩ := h
  cases d <;> cases e <;> try (exact (not_stk hg).elim)
  obtain rfl := ok_in hg
  have e1 := hd.int
  have e2 := he.int
  subst e1 e2
  exact op_sub pins s σ H _ _ v u Q I rx ry ⟨_, _, rfl, rfl, q _ _ (mk_d (.int _))⟩
theorem or_fdiv : OpR X (binaryOp .FloorDiv) (rD X.K (binD .fdiv)) := by
  intro pins s σ H x y v u Q I rx ry h
  obtain ⟨F, d, e, z, hd, he, hg, q⟩ := h
  cases d <;> cases e <;> try (exact (not_stk hg).elim)
  obtain ⟨g1, rfl⟩ := grd_ok hg
  obtain ⟨g1, g2⟩ := ba2 g1
  have e1 := hd.int
  have e2 := he.int
  subst e1 e2
  exact op_fdivN pins s σ H _ _ v u Q I rx ry ⟨_, _, rfl, rfl, ⟨of_decide_eq_true g1, of_decide_eq_true g2⟩, q _ _ (mk_d (.int _))⟩
theorem or_mod : OpR X (binaryOp .Mod) (rD X.K (binD .mod)) := by
  intro pins s σ H x y v u Q I rx ry h
  obtain ⟨F, d, e, z, hd, he, hg, q⟩ := h
  cases d <;> cases e <;> try (exact (not_stk hg).elim)
  obtain ⟨g1, rfl⟩ := grd_ok hg
  have e1 := hd.int
  have e2 := he.int
  subst e1 e2
  exact op_modN pins s σ H _ _ v u Q I rx ry ⟨_, _, rfl, rfl, of_decide_eq_true g1, q _ _ (mk_d (.int _))⟩
theorem or_pow : OpR X (binaryOp .Pow) (rD X.K (binD .pow)) := by
  intro pins s σ H x y v u Q I rx ry h
  obtain ⟨F, d, e, z, hd, he, hg, q⟩ := h
  cases d <;> cases e <;> try (exact (not_stk hg).elim)
  obtain ⟨g1, rfl⟩ := grd_ok hg
  obtain ⟨g1, g3⟩ := ba2 g1
  obtain ⟨g1, g2⟩ := ba2 g1
  have e1 := hd.int
  have e2 := he.int
  subst e1 e2
  have k2 := of_decide_eq_true g2
  exact op_pow pins s σ H _ _ v u Q I rx ry ⟨_, _, rfl, rfl, ⟨of_decide_eq_true g1, by omega, of_decide_eq_true g3⟩, q _ _ (mk_d (.int _))⟩
theorem bsmall_ok {i : Int} (h : bsmall i = true) : -(2 ^ 64) < i ∧ i < 2 ^ 64 := by
  obtain ⟨h1, h2⟩ := ba2 h
  exact ⟨of_decide_eq_true h1, of_decide_eq_true h2⟩
theorem RpA.rep {K : PySem.W.Frag} {xs : List V} {ds : List PyData} (h : RpA K F H xs ds) : ∀ n : Nat, RpA K F H (List.replicate n xs).flatten (List.replicate n ds).flatten
  | 0 => .nil
  | n + 1 => by
    rw [List.replicate_succ, List.replicate_succ, List.flatten_cons, List.flatten_cons]
    exact h.app (RpA.rep h n)
theorem flat_len {α : Type} (xs : List α) : ∀ n : Nat, (List.replicate n xs).flatten.length = n * xs.length
  | 0 => by simp
  | n + 1 => by
    rw [List.replicate_succ, List.flatten_cons, List.length_append, flat_len xs n, Nat.succ_mul, Nat.add_comm]
theorem mul_list {x : V} {u : Value} {ds : List PyData} {j : Int} {t : Tok} {Q : VK} (I : Inv X pins σ H s) (rx : RelV x u) (hx : Vw X.K F H x (.list ds)) (h1 : -(2 ^ 63) ≤ j) (h2 : j < 2 ^ 63) (hz : ds.length * j.toNat ≤ lim)
    (q : ∀ v H', Mkd X.K F H v H' (.o (.list (List.replicate j.toNat ds).flatten)) → Q v H') : wpAny (model X.prog X.w) X.A (binaryOp .Mult u (.int j t)) (EP X pins σ Q) X.xe s := by
  obtain ⟨l, xs, rfl, hl, r1⟩ := hx.rd
  cases rx
  obtain ⟨z1, its, n, v1, e1⟩ := rd_lst I hl
  have l1 := r1.len
  have l3 := v1.length
  have ll := lim_line
  have size : its.toArray.size * j.toNat ≤ sizeLine := by
    rw [List.size_toArray, ← l3, l1]
    omega
  have small : ¬ its.toArray.size * j.toNat > (2 ^ 63 - 1) / 8 := by
    have : (sizeLine : Nat) ≤ (2 ^ 63 - 1) / 8 := by decide
    omega
  have fit : ¬ (!Builtin.List.listFitsIndex j) = true := by
    rw [fitsIndex_both h1 h2]
    simp
  have short : ¬ Builtin.List.listTooLong (its.toArray.size * j.toNat) = true := by
    rw [notLongL size]
    simp
  have made : List.foldl (fun x1 x2 => x1 ++ x2) #[] (List.replicate (if its.toArray.isEmpty = true then 0 else j.toNat) its.toArray) = (List.replicate j.toNat its).flatten.toArray := by
    cases its with
    | nil => simp
    | cons a r' =>
      rw [if_neg (by simp)]
      exact size_rep (a :: r') j.toNat
  refine wpAny_binaryOp_repeat_ref (T := "list") (U := "int") (by decide) ⟨_, e1, rfl⟩ (fun s' => typeIs_int s' j t) noFill_list_mul PySem.F.fills_int_mul PySem.F.slot_int_rmul repeat_list PySem.F.slot_int_index.lookup
    (call_meets PySem.F.slot_int_rmul (typeIs_int s j t) PySem.F.entry_int_rmul (PySem.F.args_int_rmul_2 _ _) (int___rmul___int_list j t l its.toArray n)
      ⟨e1, rfl, ⟨_, e1, rfl⟩, call_meets PySem.F.slot_list_mul ⟨_, e1, rfl⟩ PySem.F.entry_list_mul (PySem.F.args_list_mul_2 _ _) (AutoListH.list___mul___list_int_3 l its.toArray n j t fit small short) ⟨e1, ?_⟩⟩)
  rw [made]
  exact ⟨.ref _, _, I.lnew (t' := s.toks) (v1.rep j.toNat) (by rw [flat_len, l1, Nat.mul_comm]; omega), rfl, q _ _ (mk_lst I.fresh (r1.rep j.toNat))⟩
theorem mul_tup {x : V} {u : Value} {ds : List PyData} {j : Int} {t : Tok} {Q : VK} (I : Inv X pins σ H s) (rx : RelV x u) (hx : Vw X.K F H x (.tuple ds)) (hne : ds ≠ []) (h1 : 2 ≤ j) (h2 : j ≤ 1000) (hz : ds.length ≤ 1000)
    (q : ∀ v H', Mkd X.K F H v H' (.d (.tuple (List.replicate j.toNat ds).flatten)) → Q v H') : wpAny (model X.prog X.w) X.A (binaryOp .Mult u (.int j t)) (EP X pins σ Q) X.xe s := by
  obtain ⟨l, xs, rfl, hl, r1⟩ := hx.tup
  cases rx
  obtain ⟨z1, its, ⟨cls, dd, data, sl⟩, n, v1, e1, e2, e3, e4⟩ := nt_tup I hl
  simp only at e2 e3 e4
  subst e2 e3 e4
  have l1 := r1.len
  have l3 := v1.length
  have n0 : 0 < ds.length := List.length_pos_iff.mpr hne
  have sz : its.toArray.size = ds.length := by rw [List.size_toArray, ← l3, l1]
  have emp : its.toArray.isEmpty = false := by
    cases its with
    | nil =>
      simp at sz
      omega
    | cons a b => rfl
  have prod : ((its.toArray.size : Nat) : Int) * j ≤ 1000000 := by
    rw [sz]
    have := Int.mul_le_mul_of_nonneg_right (show ((ds.length : Nat) : Int) ≤ 1000 by omega) (show 0 ≤ j by omega)
    omega
  have room : j.toNat * ds.length ≤ 1000 * 1000 := Nat.mul_le_mul (by omega) hz
  have flen : (List.replicate j.toNat its).flatten.length ≤ sizeLine := by
    rw [flat_len, ← l3, l1, sizeLine_eq]
    omega
  have c0 : (decide (j < -(2 ^ 63)) || decide (j ≥ 2 ^ 63)) = false := by
    rw [Bool.or_eq_false_iff]
    exact ⟨decide_eq_false (by omega), decide_eq_false (by omega)⟩
  have c1 : (its.toArray.isEmpty || j == 1) = false := by
    rw [emp, Bool.false_or]
    exact beq_eq_false_iff_ne.mpr (by omega)
  have c2 : (decide (j ≤ 0) || its.toArray.isEmpty) = false := by
    rw [emp, Bool.or_false]
    exact decide_eq_false (by omega)
  have c4 : Builtin.Tuple.tupleTooMany (((its.toArray.size : Nat) : Int) * j) = false := by
    unfold Builtin.Tuple.tupleTooMany
    rw [sizeLine_eq]
    exact decide_eq_false (by omega)
  refine wpAny_binaryOp_repeat_ref (T := "tuple") (U := "int") (by decide) ⟨_, e1, rfl⟩ (fun s' => typeIs_int s' j t) noFill_tuple_mul PySem.F.fills_int_mul PySem.F.slot_int_rmul repeat_tuple PySem.F.slot_int_index.lookup
    (call_meets PySem.F.slot_int_rmul (typeIs_int s j t) PySem.F.entry_int_rmul (PySem.F.args_int_rmul_2 _ _) (int_rmul_tuple j t l its.toArray n none sl)
      ⟨e1, rfl, ⟨_, e1, rfl⟩, call_meets PySem.F.slot_tuple_mul ⟨_, e1, rfl⟩ PySem.F.entry_tuple_mul (PySem.F.args_tuple_mul_2 _ _) (tuple_mulW l its.toArray n none sl j t c0 c1 c2 (by omega) c4 (by rw [size_rep, List.size_toArray]; exact flen)) ⟨e1, ?_⟩⟩)
  rw [size_rep]
  obtain ⟨nw, o, hd, J⟩ := tup_new (h1 := s.heap) (tk := s.toks) I (v1.rep j.toNat) (by rw [flat_len, l1, sizeLine_eq]; omega)
  exact ⟨.ref _, _, J, rfl, q _ _ (mk_tup nw hd (r1.rep j.toNat))⟩
theorem or_mul : OpR X (binaryOp .Mult) (rD X.K (binD .mul)) := by
  intro pins s σ H x y v u Q I rx ry h
  obtain ⟨F, d, e, z, hd, he, hg, q⟩ := h
  cases d <;> cases e <;> try (exact (not_stk hg).elim)
  · obtain ⟨g1, rfl⟩ := grd_ok hg
    have e1 := hd.int
    have e2 := he.int
    subst e1 e2
    refine op_mul pins s σ H _ _ v u Q I rx ry ⟨_, _, rfl, rfl, ?_, q _ _ (mk_d (.int _))⟩
    rcases Bool.or_eq_true_iff.mp g1 with g | g
    · exact .inl (bsmall_ok g)
    · exact .inr (bsmall_ok g)
  · obtain ⟨g1, rfl⟩ := grd_ok hg
    obtain ⟨g1, g3⟩ := ba2 g1
    obtain ⟨g1, g2⟩ := ba2 g1
    have e2 := he.int
    subst e2
    obtain ⟨t, rfl⟩ := ry
    exact mul_list I rx hd (of_decide_eq_true g1) (of_decide_eq_true g2) (of_decide_eq_true g3) q
  · obtain ⟨g1, rfl⟩ := grd_ok hg
    obtain ⟨g1, g4⟩ := ba2 g1
    obtain ⟨g1, g3⟩ := ba2 g1
    obtain ⟨g1, g2⟩ := ba2 g1
    have e2 := he.int
    subst e2
    obtain ⟨t, rfl⟩ := ry
    refine mul_tup I rx hd (fun z => ?_) (of_decide_eq_true g2) (of_decide_eq_true g3) (of_decide_eq_true g4) q
    subst z
    simp at g1

/-! ### comparisons -/
def rC (K : PySem.W.Frag) (g : PyData → PyData → Rs Bool) : R2 := fun x y H Q => ∃ F d e z, Vw K F H x d ∧ Vw K F H y e ∧ g d e = .ok z ∧ Q (.bl z) H
def cmpOf : COp → CmpOp
  | .eq => .Eq
  | .ne => .NotEq
  | .lt => .Lt
  | .le => .LtE
  | .gt => .Gt
  | .ge => .GtE
  | .isin => .In
  | .notin => .NotIn
  | .isn => .Is
  | .isnn => .IsNot
/-- what comparisons ask of the stack -/
def roomC (X : Cx) : Prop := X.A.units + 70 < cLine
theorem reads_vw {x : V} {u : Value} {d : PyData} (I : Inv X pins σ H s) (r : RelV x u) (n : shp d = true) (h : Vw X.K F H x d) : ∃ as, Reads s.heap u d as := Dp.reads I d x u (h.dp (shp_dict n)) r
theorem oc_all (hr : roomC X) (op : COp) : OpR X (compareOp (cmpOf op)) (rC X.K (cmpD op)) := by
  unfold roomC at hr
  intro pins s σ H x y v u Q I rx ry h
  obtain ⟨F, d, e, z, hd, he, hg, q⟩ := h
  have fin : EP X pins σ Q (.bool z) s := ⟨.bl z, H, I, rfl, q⟩
  cases op with
  | eq =>
    obtain ⟨g1, rfl⟩ := grd_ok hg
    obtain ⟨g1, g2⟩ := ba2 g1
    exact op_eqD (by omega) pins s σ H x y v u Q I rx ry ⟨d, e, hd.dp (shp_dict g1), he.dp (shp_dict g2), g1, g2, q⟩
  | ne =>
    obtain ⟨g1, rfl⟩ := grd_ok hg
    obtain ⟨g1, g2⟩ := ba2 g1
    exact op_neD (by omega) pins s σ H x y v u Q I rx ry ⟨d, e, hd.dp (shp_dict g1), he.dp (shp_dict g2), g1, g2, q⟩
  | isn =>
    cases e <;> try (exact (not_stk hg).elim)
    have e2 := he.none
    subst e2
    refine op_isN pins s σ H x _ v u Q I rx ry ⟨rfl, ?_⟩
    have hz := ok_in hg
    subst hz
    cases d <;> first
      | (have e1 := hd.none; subst e1; exact q)
      | (have e1 := hd.int; subst e1; exact q)
      | (have e1 := hd.str; subst e1; exact q)
      | (have e1 := hd.bool; subst e1; exact q)
      | (obtain ⟨a, xs, rfl, _⟩ := hd.lst; exact q)
      | (obtain ⟨a, xs, rfl, _⟩ := hd.tup; exact q)
      | (obtain ⟨a, xs, rfl, _⟩ := hd.dic; exact q)
  | isnn =>
    cases e <;> try (exact (not_stk hg).elim)
    have e2 := he.none
    subst e2
    refine op_notN pins s σ H x _ v u Q I rx ry ⟨rfl, ?_⟩
    have hz := ok_in hg
    subst hz
    cases d <;> first
      | (have e1 := hd.none; subst e1; exact q)
      | (have e1 := hd.int; subst e1; exact q)
      | (have e1 := hd.str; subst e1; exact q)
      | (have e1 := hd.bool; subst e1; exact q)
      | (obtain ⟨a, xs, rfl, _⟩ := hd.lst; exact q)
      | (obtain ⟨a, xs, rfl, _⟩ := hd.tup; exact q)
      | (obtain ⟨a, xs, rfl, _⟩ := hd.dic; exact q)
  | lt =>
    cases d <;> cases e <;> try (exact (not_stk hg).elim)
    · obtain rfl := ok_in hg
      have e1 := hd.int
      have e2 := he.int
      subst e1 e2
      exact op_lt pins s σ H _ _ v u Q I rx ry ⟨_, _, rfl, rfl, q⟩
    · obtain rfl := ok_in hg
      have e1 := hd.str
      have e2 := he.str
      subst e1 e2
      exact op_lt_str pins s σ H _ _ v u Q I rx ry ⟨_, _, rfl, rfl, q⟩
    · obtain ⟨g1, rfl⟩ := grd_ok hg
      obtain ⟨g1, g3⟩ := ba2 g1
      obtain ⟨g1, g2⟩ := ba2 g1
      obtain ⟨as, r1⟩ := reads_vw I rx g1 hd
      obtain ⟨bs, r2⟩ := reads_vw I ry g2 he
      have k := SeqAt.depth_of_shaped g1
      exact PySem.W.lt_data r1 r2 g3 (fun z => nomatch z) (by omega) fin
  | le =>
    cases d <;> cases e <;> try (exact (not_stk hg).elim)
    obtain rfl := ok_in hg
    have e1 := hd.int
    have e2 := he.int
    subst e1 e2
    exact op_le pins s σ H _ _ v u Q I rx ry ⟨_, _, rfl, rfl, q⟩
  | gt =>
    cases d <;> cases e <;> try (exact (not_stk hg).elim)
    obtain rfl := ok_in hg
    have e1 := hd.int
    have e2 := he.int
    subst e1 e2
    exact op_gt pins s σ H _ _ v u Q I rx ry ⟨_, _, rfl, rfl, q⟩
  | ge =>
    cases d <;> cases e <;> try (exact (not_stk hg).elim)
    obtain rfl := ok_in hg
    have e1 := hd.int
    have e2 := he.int
    subst e1 e2
    exact op_ge pins s σ H _ _ v u Q I rx ry ⟨_, _, rfl, rfl, q⟩
  | isin =>
    have seqs : ∀ {ds : List PyData}, e = .list ds ∨ e = .tuple ds → (grd (shp d && shp e) (ds.any fun z => PyData.eqv z d) : Rs Bool) = .ok z → wpAny (model X.prog X.w) X.A (compareOp .In v u) (EP X pins σ Q) X.xe s := by
      intro ds hs hg
      obtain ⟨g0, rfl⟩ := grd_ok hg
      obtain ⟨g1, g2⟩ := ba2 g0
      obtain ⟨as, r1⟩ := reads_vw I rx g1 hd
      obtain ⟨bs, r2⟩ := reads_vw I ry g2 he
      rcases hs with hs | hs <;> subst hs
      · exact SeqAt.in_list_reads r2 r1 (SeqAt.canLay_of_shaped g2) (SeqAt.canLay_of_shaped g1) (room_in_shaped g1 (by omega)) fin
      · exact SeqAt.in_tuple_reads r2 r1 (SeqAt.canLay_of_shaped g2) (SeqAt.canLay_of_shaped g1) (room_in_shaped g1 (by omega)) fin
    cases e with
    | list ds => exact seqs (.inl rfl) (by cases d <;> exact hg)
    | tuple ds => exact seqs (.inr rfl) (by cases d <;> exact hg)
    | str y =>
      cases d <;> try (exact (not_stk hg).elim)
      obtain rfl := ok_in hg
      have e1 := hd.str
      have e2 := he.str
      subst e1 e2
      exact op_in_str pins s σ H _ _ v u Q I rx ry ⟨_, _, rfl, rfl, q⟩
    | _ => cases d <;> exact (not_stk hg).elim
  | notin =>
    have seqs : ∀ {ds : List PyData}, e = .list ds ∨ e = .tuple ds → (grd (shp d && shp e) (!ds.any fun z => PyData.eqv z d) : Rs Bool) = .ok z → wpAny (model X.prog X.w) X.A (compareOp .NotIn v u) (EP X pins σ Q) X.xe s := by
      intro ds hs hg
      obtain ⟨g0, rfl⟩ := grd_ok hg
      obtain ⟨g1, g2⟩ := ba2 g0
      obtain ⟨as, r1⟩ := reads_vw I rx g1 hd
      obtain ⟨bs, r2⟩ := reads_vw I ry g2 he
      rcases hs with hs | hs <;> subst hs
      · exact SeqAt.notIn_list_reads r2 r1 (SeqAt.canLay_of_shaped g2) (SeqAt.canLay_of_shaped g1) (room_in_shaped g1 (by omega)) fin
      · exact SeqAt.notIn_tuple_reads r2 r1 (SeqAt.canLay_of_shaped g2) (SeqAt.canLay_of_shaped g1) (room_in_shaped g1 (by omega)) fin
    cases e with
    | list ds => exact seqs (.inl rfl) (by cases d <;> exact hg)
    | tuple ds => exact seqs (.inr rfl) (by cases d <;> exact hg)
    | str y =>
      cases d <;> try (exact (not_stk hg).elim)
      obtain rfl := ok_in hg
      have e1 := hd.str
      have e2 := he.str
      subst e1 e2
      exact op_notin_str pins s σ H _ _ v u Q I rx ry ⟨_, _, rfl, rfl, by rw [Bool.not_not]; exact q⟩
    | _ => cases d <;> exact (not_stk hg).elim
end
end Qv

set_option maxRecDepth 100000
set_option maxHeartbeats 1000000
/-! Q5: built-in calls, subscripts, slices, methods over data. -/
namespace Qv
open PySem PySem.Spec PyProof.Rows L2
section
variable {X : Cx} {pins : List (Addr × Obj)} {σ : L2.St} {H : Hp} {s : Shared} {F : Addr → Prop} {v : V}

/-- what a built-in call of one value asks -/
def rF (K : PySem.W.Frag) (g : PyData → Rs PyData) : List V → Hp → VK → Prop := fun vs H Q => ∃ F x d z, vs = [x] ∧ Vw K F H x d ∧ g d = .ok z ∧ ∀ v H', Mkd K F H v H' (mkV z) → Q v H'
theorem fn_len : CallR X (.builtin "len") (rF X.K (fnD .len)) := by
  intro pins s σ H vs us Q I r h
  obtain ⟨F, x, d, z, rfl, hd, hg, q⟩ := h
  cases d <;> try (exact (not_stk hg).elim)
  · obtain ⟨g1, rfl⟩ := grd_ok hg
    have e := hd.str
    subst e
    exact call_len_str pins s σ H _ us Q I r ⟨_, rfl, Nat.le_trans (of_decide_eq_true g1) lim_line, q _ _ (mk_d (.int _))⟩
  · obtain rfl := ok_in hg
    obtain ⟨a, xs, rfl, h1, h2⟩ := hd.lst
    exact call_len_seq pins s σ H _ us Q I r ⟨a, xs, rfl, .inl h1, by rw [h2.len]; exact q _ _ (mk_d (.int _))⟩
  · obtain rfl := ok_in hg
    obtain ⟨a, xs, rfl, h1, h2⟩ := hd.tup
    exact call_len_seq pins s σ H _ us Q I r ⟨a, xs, rfl, .inr h1.sqT, by rw [h2.len]; exact q _ _ (mk_d (.int _))⟩
  · obtain rfl := ok_in hg
    obtain ⟨a, kvs, rfl, h1, h2⟩ := hd.dic
    have hl : ∀ {kvs : List (Key × V)} {es : List (PyData × PyData)}, RpK X.K F H kvs es → kvs.length = es.length := by
      intro kvs es h
      induction kvs generalizing es with
      | nil => cases h; rfl
      | cons p kvs ih => cases h with | cons _ t => exact congrArg Nat.succ (ih t)
    exact call_lenD pins s σ H _ us Q I r ⟨a, kvs, rfl, h1, by rw [hl h2]; exact q _ _ (mk_d (.int _))⟩
theorem bools_of {K : PySem.W.Frag} : ∀ {ds : List PyData} {xs : List V} {bs : List Bool}, RpA K F H xs ds → boolsD ds = .ok bs → xs = bs.map V.bl
  | [], _, _, r, e => by
    cases r
    obtain rfl := ok_in e
    rfl
  | d :: ds, _, bs, r, e => by
    cases r with
    | cons h1 h2 =>
      cases d <;> try (exact (not_stk e).elim)
      unfold boolsD at e
      cases q : boolsD ds with
      | error x => rw [q] at e; cases e
      | ok bs' =>
        rw [q] at e
        obtain rfl := ok_in e
        cases h1
        rw [bools_of h2 q]
        rfl
theorem ints_of {K : PySem.W.Frag} : ∀ {ds : List PyData} {xs : List V} {bs : List Int}, RpA K F H xs ds → intsD ds = .ok bs → xs = bs.map V.int
  | [], _, _, r, e => by
    cases r
    obtain rfl := ok_in e
    rfl
  | d :: ds, _, bs, r, e => by
    cases r with
    | cons h1 h2 =>
      cases d <;> try (exact (not_stk e).elim)
      unfold intsD at e
      cases q : intsD ds with
      | error x => rw [q] at e; cases e
      | ok bs' =>
        rw [q] at e
        obtain rfl := ok_in e
        cases h1
        rw [ints_of h2 q]
        rfl
theorem strs_of {K : PySem.W.Frag} : ∀ {ds : List PyData} {xs : List V} {bs : List Str}, RpA K F H xs ds → strsD ds = .ok bs → xs = bs.map V.str
  | [], _, _, r, e => by
    cases r
    obtain rfl := ok_in e
    rfl
  | d :: ds, _, bs, r, e => by
    cases r with
    | cons h1 h2 =>
      cases d <;> try (exact (not_stk e).elim)
      unfold strsD at e
      cases q : strsD ds with
      | error x => rw [q] at e; cases e
      | ok bs' =>
        rw [q] at e
        obtain rfl := ok_in e
        cases h1
        rw [strs_of h2 q]
        rfl
theorem bindR {α β : Type} {x : Rs α} {f : α → Rs β} {z : β} (h : (x >>= f) = .ok z) : ∃ y, x = .ok y ∧ f y = .ok z := by
  cases x with
  | error e => cases h
  | ok y => exact ⟨y, rfl, h⟩
theorem fn_all (hc : X.calm = true) : CallR X (.builtin "all") (rF X.K (fnD .all)) := by
  intro pins s σ H vs us Q I r h
  obtain ⟨F, x, d, z, rfl, hd, hg, q⟩ := h
  cases d <;> try (exact (not_stk hg).elim)
  obtain ⟨bs, e1, e2⟩ := bindR hg
  obtain rfl := ok_in e2
  obtain ⟨a, xs, rfl, h1, h2⟩ := hd.lst
  rw [bools_of h2 e1] at h1
  exact cr_all hc pins s σ H _ us Q I r ⟨a, bs, rfl, h1, q _ _ (mk_d (.bl _))⟩
theorem fn_any (hc : X.calm = true) : CallR X (.builtin "any") (rF X.K (fnD .any)) := by
  intro pins s σ H vs us Q I r h
  obtain ⟨F, x, d, z, rfl, hd, hg, q⟩ := h
  cases d <;> try (exact (not_stk hg).elim)
  obtain ⟨bs, e1, e2⟩ := bindR hg
  obtain rfl := ok_in e2
  obtain ⟨a, xs, rfl, h1, h2⟩ := hd.lst
  rw [bools_of h2 e1] at h1
  exact cr_any hc pins s σ H _ us Q I r ⟨a, bs, rfl, h1, q _ _ (mk_d (.bl _))⟩
theorem fn_sum (hc : X.calm = true) : CallR X (.builtin "sum") (rF X.K (fnD .sum)) := by
  intro pins s σ H vs us Q I r h
  obtain ⟨F, x, d, z, rfl, hd, hg, q⟩ := h
  cases d <;> try (exact (not_stk hg).elim)
  obtain ⟨bs, e1, e2⟩ := bindR hg
  obtain rfl := ok_in e2
  obtain ⟨a, xs, rfl, h1, h2⟩ := hd.lst
  rw [ints_of h2 e1] at h1
  exact cr_sum hc pins s σ H _ us Q I r ⟨a, bs, rfl, h1, q _ _ (mk_d (.int _))⟩
theorem fn_int : CallR X (.type "int") (rF X.K (fnD .int)) := by
  intro pins s σ H vs us Q I r h
  obtain ⟨F, x, d, z, rfl, hd, hg, q⟩ := h
  cases d <;> try (exact (not_stk hg).elim)
  · obtain rfl := ok_in hg
    have e := hd.bool
    subst e
    exact call_int1 pins s σ H _ us Q I r (.inr ⟨_, rfl, q _ _ (mk_d (.int _))⟩)
  · obtain rfl := ok_in hg
    have e := hd.int
    subst e
    exact call_int1 pins s σ H _ us Q I r (.inl ⟨_, rfl, q _ _ (mk_d (.int _))⟩)
theorem fn_tuple : CallR X (.type "tuple") (rF X.K (fnD .tuple)) := by
  intro pins s σ H vs us Q I r h
  obtain ⟨F, x, d, z, rfl, hd, hg, q⟩ := h
  obtain ⟨u, rfl, rx⟩ := vals1 r
  cases d <;> try (exact (not_stk hg).elim)
  · obtain rfl := ok_in hg
    obtain ⟨a, xs, rfl, h1, h2⟩ := hd.lst
    cases rx
    obtain ⟨its, rv, pl, hz⟩ := I.list h1
    have hlen := rv.length
    refine call_tuple_list pl.isList (fun h' kp => ?_) (by simp only [List.size_toArray] <;> omega)
    obtain ⟨nw, o, hd, J⟩ := tup_new (h1 := h') (tk := s.toks) (I.kept (t' := s.toks) kp) rv hz
    exact ⟨.ref _, _, J, rfl, q _ _ (mk_tup nw hd h2)⟩
  · obtain rfl := ok_in hg
    obtain ⟨a, xs, rfl, h1, h2⟩ := hd.tup
    cases rx
    obtain ⟨its, rv, pl, hz⟩ := I.tuple h1.sqT
    exact call_tuple_same pl ⟨.ref a, H, I, rfl, q _ _ (mk_d (.tup h1 h2))⟩
theorem fn_list : CallR X (.type "list") (rF X.K (fnD .list)) := by
  intro pins s σ H vs us Q I r h
  obtain ⟨F, x, d, z, rfl, hd, hg, q⟩ := h
  cases d <;> try (exact (not_stk hg).elim)
  · obtain rfl := ok_in hg
    obtain ⟨a, xs, rfl, h1, h2⟩ := hd.lst
    exact call_list_of pins s σ H _ us Q I r ⟨a, xs, rfl, .inl h1, fun l hl => q _ _ (mk_lst hl h2)⟩
  · obtain rfl := ok_in hg
    obtain ⟨a, xs, rfl, h1, h2⟩ := hd.tup
    exact call_list_of pins s σ H _ us Q I r ⟨a, xs, rfl, .inr h1.sqT, fun l hl => q _ _ (mk_lst hl h2)⟩
theorem fn_repr (hg0 : X.A.guards = some []) (hu : roomC X) : CallR X (.builtin "repr") (rF X.K (fnD .repr)) := by
  unfold roomC at hu
  intro pins s σ H vs us Q I r h
  obtain ⟨F, x, d, z, rfl, hd, hg, q⟩ := h
  obtain ⟨u, rfl, rx⟩ := vals1 r
  have hg : grd (d.showable && !d.hasDict && decide (d.depth ≤ 60) && decide (d.shown.length ≤ lim)) (.str d.shown) = .ok z := hg
  obtain ⟨g1, rfl⟩ := grd_ok hg
  obtain ⟨g1, g4⟩ := ba2 g1
  obtain ⟨g1, g3⟩ := ba2 g1
  obtain ⟨g1, g2⟩ := ba2 g1
  have g4 : d.shown.length ≤ sizeLine := Nat.le_trans (of_decide_eq_true g4) lim_line
  have g3 := of_decide_eq_true g3
  have nd : d.hasDict = false := by simpa using g2
  have fin : ∀ t tk, EP X pins σ Q (.str d.shown t) { s with toks := tk } := fun t tk => ⟨.str d.shown, H, I.tok _, ⟨_, rfl⟩, q _ _ (mk_d (.str _))⟩
  have onref : ∀ a, u = .ref a → wpAny (model X.prog X.w) X.A (call (.builtin "repr") [u]) (EP X pins σ Q) X.xe s := fun a ha => by
    obtain ⟨as, r1⟩ := Dp.reads I d x u (hd.dp nd) rx
    subst ha
    refine repr_of_reads' r1 g1 (PyData.noDict_hsm nd) hg0 (by omega) (fun _ _ e => e) (fun h' u tk hk => ?_) g4
    exact ⟨.str d.shown, H, I.kept (t' := tk) hk, ⟨_, rfl⟩, q _ _ (mk_d (.str _))⟩
  cases d with
  | none =>
    have e := hd.none
    subst e
    cases rx
    exact PySem.P.repr_of_none (fin _ _)
  | bool b =>
    have e := hd.bool
    subst e
    cases rx
    exact PySem.P.repr_of_bool (fin _ _)
  | int i =>
    have e := hd.int
    subst e
    obtain ⟨t, rfl⟩ := rx
    exact PySem.P.repr_of_int (of_decide_eq_true g1) (fin _ _)
  | str y =>
    have e := hd.str
    subst e
    obtain ⟨t, rfl⟩ := rx
    exact PySem.P.repr_of_str (fin _ _) g4
  | list xs =>
    obtain ⟨a, xs, rfl, _, _⟩ := hd.lst
    exact onref a rx
  | tuple xs =>
    obtain ⟨a, xs, rfl, _, _⟩ := hd.tup
    exact onref a rx
  | dict es => simp only [PyData.hasDict] at nd; cases nd

/-! ### isinstance -/
def tyName : Ty → String
  | .int => "int"
  | .bool => "bool"
  | .str => "str"
  | .tuple => "tuple"
  | .list => "list"
def dName : PyData → String
  | .none => "NoneType"
  | .bool _ => "bool"
  | .int _ => "int"
  | .str _ => "str"
  | .list _ => "list"
  | .tuple _ => "tuple"
  | .dict _ => "dict"
theorem kit_all (t : Ty) (d : PyData) : kitB (dName d) (tyName t) = some (instD t d) := by
  cases t <;> cases d <;> kernel_rfl
theorem ty_vw {K : PySem.W.Frag} {x : V} {d : PyData} (h : Vw K F H x d) : TyX K H x (.type (dName d)) := by
  cases d with
  | none => rw [h.none]; exact .base .non
  | bool b => rw [h.bool]; exact .base (.bl b)
  | int i => rw [h.int]; exact .base (.int i)
  | str i => rw [h.str]; exact .base (.str i)
  | list xs =>
    obtain ⟨a, xs, rfl, h1, _⟩ := h.rd
    rcases h1 with h1 | ⟨o, h1⟩ | ⟨its, n, h1, _⟩
    · exact .base (.lst h1)
    · exact .base (.frz h1)
    · exact .kList h1 rfl
  | tuple xs =>
    obtain ⟨a, xs, rfl, h1, _⟩ := h.tup
    rcases h1 with ⟨o, h1, _⟩ | ⟨o, its, n, h1, h2, _⟩
    · exact .fTuple h1
    · exact .kTuple h1 h2
  | dict es =>
    obtain ⟨a, xs, rfl, h1, _⟩ := h.dic
    exact .base (.dK h1)

/-! ### subscripts -/
theorem ixN_idx (n : Nat) (i : Int) : ixN n i = idxD n i := by
  unfold ixN idxD
  by_cases h : 0 ≤ i
  · rw [if_pos h, if_pos h]
    by_cases h2 : i < n
    · rw [if_pos h2, if_pos (by omega)]
    · rw [if_neg h2, if_neg (by omega)]
  · rw [if_neg h, if_neg h]
    by_cases h2 : -(n : Int) ≤ i
    · rw [if_pos h2, if_pos (by omega)]
    · rw [if_neg h2, if_neg (by omega)]
def rS (K : PySem.W.Frag) : R2 := fun x y H Q => ∃ F d e z, Vw K F H x d ∧ Vw K F H y e ∧ subD d e = .ok z ∧ ∀ v, Rp K F H v z → Q v H
theorem opt_ok {α : Type} {o : Option α} {z : α} (h : optR o = .ok z) : o = some z := by
  cases o with
  | none => cases h
  | some x =>
    have e : x = z := ok_in h
    rw [e]
theorem eqv_key (k : Key) (x : Str) : PyData.eqv (keyD k) (.str x) = decide (k = .inr x) := by
  cases k with
  | inl i => simp [keyD, PyData.eqv]
  | inr y =>
    simp only [keyD, PyData.eqv]
    by_cases h : y = x
    · subst h; simp
    · rw [beq_eq_false_iff_ne.mpr h, decide_eq_false]
      intro e
      cases e
      exact h rfl
theorem look_val {K : PySem.W.Frag} {x : Str} : ∀ {kvs : List (Key × V)} {es : List (PyData × PyData)} {d : PyData}, RpK K F H kvs es → lookD (.str x) es = some d → ∃ v, valV kvs (.inr x) = some v ∧ Rp K F H v d
  | [], _, _, r, e => by
    cases r
    cases e
  | (k, w) :: kvs, _, d, r, e => by
    cases r with
    | cons h1 h2 =>
      unfold lookD at e
      rw [eqv_key] at e
      by_cases h : k = .inr x
      · rw [decide_eq_true h, if_pos rfl] at e
        cases e
        exact ⟨w, valV_pos h, h1⟩
      · rw [decide_eq_false h, if_neg Bool.false_ne_true] at e
        obtain ⟨v, e1, e2⟩ := look_val h2 e
        exact ⟨v, by rw [valV_neg h]; exact e1, e2⟩
theorem ix_data (hu : roomC X) : IxR X (rS X.K) := by
  unfold roomC at hu
  intro value slice pins s σ H x y v u Q I rx ry h hs
  obtain ⟨F, d, e, z, hd, he, hg, q⟩ := h
  cases d with
  | list ds =>
    cases e <;> try (exact (not_stk hg).elim)
    have e2 := he.int
    subst e2
    obtain ⟨a, xs, rfl, h1, h2⟩ := hd.lst
    have hg := opt_ok hg
    obtain ⟨k, h3, h4⟩ := Option.bind_eq_some_iff.mp hg
    obtain ⟨w, h5, h6⟩ := h2.get' h4
    refine ix_list value slice pins s σ H _ _ v u Q I rx ry ⟨a, xs, _, w, rfl, rfl, h1, ?_, q w h6⟩ hs
    unfold atI
    rw [ixN_idx, h2.len, h3]
    exact h5
  | tuple ds =>
    cases e <;> try (exact (not_stk hg).elim)
    have e2 := he.int
    subst e2
    obtain ⟨a, xs, rfl, h1, h2⟩ := hd.tup
    have hg := opt_ok hg
    obtain ⟨k, h3, h4⟩ := Option.bind_eq_some_iff.mp hg
    obtain ⟨w, h5, h6⟩ := h2.get' h4
    refine ix_tup value slice pins s σ H _ _ v u Q I rx ry ⟨a, xs, _, w, rfl, rfl, h1.sqT, ?_, q w h6⟩ hs
    unfold atI
    rw [ixN_idx, h2.len, h3]
    exact h5
  | str y0 =>
    cases e <;> try (exact (not_stk hg).elim)
    have e2 := he.int
    subst e2
    have e1 := hd.str
    subst e1
    rename_i i0
    have hg : (if y0.length ≤ lim then optR ((idxD y0.length i0).bind fun k => y0.cps.toList[k]?.map fun c => PyData.str ⟨#[c]⟩) else stk) = .ok z := hg
    by_cases hl : y0.length ≤ lim
    · rw [if_pos hl] at hg
      have hg := opt_ok hg
      obtain ⟨k, h3, h4⟩ := Option.bind_eq_some_iff.mp hg
      obtain ⟨c, h5, h6⟩ := Option.map_eq_some_iff.mp h4
      subst h6
      refine ix_str value slice pins s σ H _ _ v u Q I rx ry ⟨y0, _, c, rfl, rfl, Nat.le_trans hl lim_line, ?_, q _ (.str _)⟩ hs
      unfold atI
      rw [ixN_idx, show y0.cps.toList.length = y0.length by simp [Str.length], h3]
      exact h5
    · rw [if_neg hl] at hg
      exact (not_stk hg).elim
  | dict es =>
    cases e <;> try (exact (not_stk hg).elim)
    have e2 := he.str
    subst e2
    obtain ⟨a, kvs, rfl, h1, h2⟩ := hd.dic
    obtain ⟨w, h3, h4⟩ := look_val h2 (opt_ok hg)
    cases rx
    have g : DGet H a (kV (.inr _)) (some w) := h3 ▸ DGet.k h1
    exact tail_any (dict_typeIs I g) PySem.F.slot_dict_getitem.lookup (d_getItem (by omega) I g ry fun w' s3 I3 rw' => ⟨w, H, I3, rw', q w h4⟩) hs
  | _ => cases e <;> exact (not_stk hg).elim

/-! ### slices -/
def optD : Option Int → PyData
  | none => .none
  | some i => .int i
theorem bnd_ix (n d : Nat) (o : Option Int) : bndD n d (optD o) = .ok (HT.sIx n d o) := by
  cases o with
  | none => rfl
  | some i =>
    show (Except.ok (if 0 ≤ i then min i.toNat n else (i + n).toNat) : Rs Nat) = .ok (if i < 0 then (i + (n : Int)).toNat else min i.toNat n)
    by_cases h : i < 0
    · rw [if_pos h, if_neg (by omega)]
    · rw [if_neg h, if_pos (by omega)]
def rSl (K : PySem.W.Frag) : V → Option Int → Option Int → Hp → VK → Prop := fun x lo hi H Q => ∃ F d z, Vw K F H x d ∧ slcD d (optD lo) (optD hi) = .ok z ∧ ∀ v H', Mkd K F H v H' (mkV z) → Q v H'
theorem sl_data : SlR X (rSl X.K) := by
  intro pins s σ H x v vl vu lo hi sl Q I rx hs pl pu h
  obtain ⟨F, d, z, hd, hg, q⟩ := h
  cases d with
  | list ds =>
    have hg : (do let a ← bndD ds.length 0 (optD lo); let b ← bndD ds.length ds.length (optD hi); (.ok (.list ((ds.drop a).take (b - a))) : Rs PyData)) = .ok z := hg
    rw [bnd_ix, bnd_ix] at hg
    obtain rfl := ok_in hg
    obtain ⟨a, xs, rfl, h1, h2⟩ := hd.lst
    refine sl_list pins s σ H _ v vl vu lo hi sl Q I rx hs pl pu ⟨a, xs, rfl, h1, fun p hp => q _ _ (mk_lst hp ?_)⟩
    unfold cutV
    rw [h2.len]
    exact (h2.drop _).take _
  | tuple ds =>
    have hg : (do let a ← bndD ds.length 0 (optD lo); let b ← bndD ds.length ds.length (optD hi); (.ok (.tuple ((ds.drop a).take (b - a))) : Rs PyData)) = .ok z := hg
    rw [bnd_ix, bnd_ix] at hg
    obtain rfl := ok_in hg
    obtain ⟨a, xs, rfl, h1, h2⟩ := hd.tup
    cases rx
    obtain ⟨its, r, ht, hz⟩ := I.tuple h1.sqT
    have hl := h2.len
    have hlen : its.toArray.size = ds.length := by rw [List.size_toArray, ← hl]; exact r.length.symm
    refine ⟨"tuple", _, PyProof.Rows.slot_tuple_getitem.lookup, ht.typeIs, ?_⟩
    by_cases hw : HT.sIx ds.length 0 lo = 0 ∧ HT.sIx ds.length ds.length hi = ds.length
    · refine L2.getItem_tuple_whole ht hs pl pu (by rw [hlen]; exact hw) ⟨.ref a, H, I, rfl, q _ _ ?_⟩
      rw [hw.1, hw.2]
      have e : (ds.drop 0).take (ds.length - 0) = ds := by simp
      rw [e]
      exact mk_d (.tup h1 h2)
    · refine HT.getItem_tuple_cut ht hs pl pu (by rw [hlen]; exact hw) ?_ (by rw [hlen]; omega)
      rw [hlen]
      obtain ⟨nw, o, ho, J⟩ := tup_new (h1 := s.heap) (tk := s.toks) I ((r.drop (HT.sIx ds.length 0 lo)).take (HT.sIx ds.length ds.length hi - HT.sIx ds.length 0 lo)) (by rw [List.length_take, List.length_drop]; omega)
      exact ⟨.ref _, _, J, rfl, q _ _ (mk_tup nw ho ((h2.drop _).take _))⟩
  | _ => exact (not_stk hg).elim

/-! ### methods -/
def mId : Mth → PyData → String
  | .index, .tuple _ => "tuple.index"
  | .index, _ => "list.index"
  | .join, _ => "str.join"
  | .split, _ => "str.split"
  | _, _ => ""
def mName : Mth → Str
  | .index => "index"
  | .join => "join"
  | .split => "split"
  | .count => "count"
  | .get => "get"
  | .items => "items"
  | .values => "values"
theorem find_any (p : PyData → Bool) (xs : List PyData) (h : xs.any p = true) : true ∈ xs.map p ∧ (xs.map p).idxOf true = xs.findIdx p := by
  induction xs with
  | nil => cases h
  | cons a r ih =>
    rw [List.map_cons, List.idxOf_cons, List.findIdx_cons]
    cases e : p a with
    | true => exact ⟨List.mem_cons_self, by simp⟩
    | false =>
      rw [List.any_cons, e, Bool.false_or] at h
      obtain ⟨h1, h2⟩ := ih h
      exact ⟨List.mem_cons_of_mem _ h1, by rw [h2]; simp⟩
theorem itemsEq_reads {A : Around} {vs : List Value} {xs : List PyData} {as bs : List Addr} {x : Value} {d : PyData} (rs : ReadsAll s.heap vs xs as) (rx : Reads s.heap x d bs) (hxs : PyData.canLayAll0 xs = true) (hd : d.canLay0 = true)
    (hu : A.units + d.depth < cLine) : SeqAt.ItemsEq A s vs (xs.map fun z => PyData.eqv z d) x true := by
  induction xs generalizing vs as with
  | nil =>
    cases rs
    exact ⟨rfl, fun j h1 => by simp at h1⟩
  | cons z zs ih =>
    have hc : z.canLay0 = true ∧ PyData.canLayAll0 zs = true := by simpa [PyData.canLayAll0] using hxs
    cases rs with
    | cons r1 r2 =>
      obtain ⟨l1, l2⟩ := ih r2 hc.2
      refine ⟨by simp [l1], fun j h1 h2 => ?_⟩
      cases j with
      | zero =>
        simp only [List.getElem_cons_zero, List.map_cons, decide_eq_true_eq]
        rw [show decide (PyData.eqv z d = true) = PyData.eqv z d by simp]
        exact SeqAt.eqAt_reads _ _ _ _ _ _ _ _ r1 rx hc.1 hd (Nat.lt_of_le_of_lt (Nat.add_le_add_left (Nat.min_le_right _ _) _) hu)
      | succ j => exact l2 j (by simpa using h1) (by simpa using h2)
def rM (K : PySem.W.Frag) (m : Mth) : V → List V → Hp → VK → Prop := fun x vs H Q => ∃ F d ds z, Vw K F H x d ∧ RpA K F H vs ds ∧ methD m d ds = .ok z ∧ ∀ v H', Mkd K F H v H' (mkV z) → Q v H'
theorem canAll {ds : List PyData} (h : shp (.list ds) = true ∨ shp (.tuple ds) = true) : PyData.canLayAll0 ds = true := by
  rcases h with h | h
  · have := SeqAt.canLay_of_shaped h
    simpa [PyData.canLay0] using this
  · have := SeqAt.canLay_of_shaped h
    simpa [PyData.canLay0] using this
theorem mt_data (hu : roomC X) (m : Mth) (d0 : PyData) (hm : mOk m d0 = true) {x : V} {vs : List V} {u : Value} {us : List Value} {ds : List PyData} {d z : PyData} {Q : VK} (I : Inv X pins σ H s) (rx : RelV x u) (rs : Vals vs us) (hs : sameTy d0 d = true)
    (hd : Vw X.K F H x d) (hds : RpA X.K F H vs ds) (hg : methD m d ds = .ok z) (q : ∀ v H', Mkd X.K F H v H' (mkV z) → Q v H') : wpAny (model X.prog X.w) X.A (call (.builtin (mId m d0)) (u :: us)) (EP X pins σ Q) X.xe s := by
  unfold roomC at hu
  cases m <;> cases d0 <;> (try exact absurd hm Bool.false_ne_true) <;> cases d <;> (try exact absurd hs Bool.false_ne_true)
  · -- list.index
    rename_i xs0 xs
    match ds, hds, hg with
    | [e], hds, hg =>
      cases hds with
      | cons he hn =>
      cases hn
      cases rs with
      | cons re rn =>
      cases rn
      obtain ⟨g1, rfl⟩ := grd_ok hg
      obtain ⟨g1, g3⟩ := ba2 g1
      obtain ⟨g1, g2⟩ := ba2 g1
      obtain ⟨a, vs, rfl, h1, h2⟩ := hd.rd
      cases rx
      obtain ⟨z1, its, n, v1, e1⟩ := rd_lst I h1
      obtain ⟨as, r1⟩ := reads_vw I (show RelV (.ref a) (.ref a) from rfl) g1 hd
      obtain ⟨bs, r2⟩ := reads_vw I re g2 (.inl he)
      have k := SeqAt.depth_of_shaped g2
      have hl : s.heap.IsList a its.toArray := ⟨_, e1, rfl, n, rfl⟩
      obtain ⟨hm1, hm2⟩ := find_any (fun z => PyData.eqv z e) xs g3
      have hl1 := h2.len
      cases r1 with
      | list q1 q2 q3 q4 =>
      rw [e1] at q1
      cases q1
      cases q3
      refine SeqAt.call_list_index (ks := xs.map fun z => PyData.eqv z e) (k := true) hl (itemsEq_reads q4 r2 (canAll (.inl g1)) (SeqAt.canLay_of_shaped g2) (by show X.A.units + 1 + _ < _; omega)) (by rw [List.length_map, ← hl1]; exact z1) hm1 ?_
      rw [hm2]
      exact ⟨.int _, H, I.tok _, ⟨_, rfl⟩, q _ _ (mk_d (.int _))⟩
    | [], _, hg => exact (not_stk hg).elim
    | _ :: _ :: _, _, hg => exact (not_stk hg).elim
  · -- tuple.index
    rename_i xs0 xs
    match ds, hds, hg with
    | [e], hds, hg =>
      cases hds with
      | cons he hn =>
      cases hn
      cases rs with
      | cons re rn =>
      cases rn
      obtain ⟨g1, rfl⟩ := grd_ok hg
      obtain ⟨g1, g3⟩ := ba2 g1
      obtain ⟨g1, g2⟩ := ba2 g1
      obtain ⟨a, vs, rfl, h1, h2⟩ := hd.tup
      cases rx
      obtain ⟨z1, its, o, n, v1, e1, e2, e3, e4⟩ := nt_tup I h1
      obtain ⟨as, r1⟩ := reads_vw I (show RelV (.ref a) (.ref a) from rfl) g1 hd
      obtain ⟨bs, r2⟩ := reads_vw I re g2 (.inl he)
      have k := SeqAt.depth_of_shaped g2
      have hl : s.heap.IsTuple a its.toArray := ⟨o, e1, e2, n, e4⟩
      obtain ⟨hm1, hm2⟩ := find_any (fun z => PyData.eqv z e) xs g3
      cases r1 with
      | tuple q1 q2 q3 q4 =>
      rw [e1] at q1
      cases q1
      rw [e4] at q3
      cases q3
      refine SeqAt.call_tuple_index (ks := xs.map fun z => PyData.eqv z e) (k := true) hl (itemsEq_reads q4 r2 (canAll (.inr g1)) (SeqAt.canLay_of_shaped g2) (by show X.A.units + 1 + _ < _; omega)) hm1 ?_
      rw [hm2]
      exact ⟨.int _, H, I.tok _, ⟨_, rfl⟩, q _ _ (mk_d (.int _))⟩
    | [], _, hg => exact (not_stk hg).elim
    | _ :: _ :: _, _, hg => exact (not_stk hg).elim
  · -- str.split
    rename_i a0 a
    match ds, hds, hg with
    | [.str b], hds, hg =>
      cases hds with
      | cons he hn =>
      cases hn
      cases he
      obtain ⟨g1, rfl⟩ := grd_ok hg
      obtain ⟨g1, g2⟩ := ba2 g1
      have e1 := hd.str
      subst e1
      have g1 := of_decide_eq_true g1
      have g2 := of_decide_eq_true g2
      have ll := lim2_line
      refine mt_split pins s σ H _ _ _ us Q I rx rs ⟨a, b, rfl, rfl, beq_eq_false_iff_ne.mpr (by omega), ?_, fun p hp => q _ _ (mk_lst hp ?_)⟩
      · rw [sizeLine_eq]
        have : lim = 16000000 := rfl
        omega
      · generalize Txt.split a b = ys
        induction ys with
        | nil => exact .nil
        | cons y r ih => exact .cons (.str _) ih
    | [], _, hg => exact (not_stk hg).elim
    | .str _ :: _ :: _, _, hg => exact (not_stk hg).elim
    | .none :: _, _, hg | .bool _ :: _, _, hg | .int _ :: _, _, hg | .list _ :: _, _, hg | .tuple _ :: _, _, hg | .dict _ :: _, _, hg => exact (not_stk hg).elim
  · -- str.join
    rename_i a0 a
    match ds, hds, hg with
    | [.list b], hds, hg =>
      cases hds with
      | cons he hn =>
      cases hn
      obtain ⟨ys, e2, hg⟩ := bindR hg
      obtain ⟨g1, rfl⟩ := grd_ok hg
      have e1 := hd.str
      subst e1
      obtain ⟨l, xs, rfl, h1, h2⟩ := Vw.lst (.inl he)
      rw [strs_of h2 e2] at h1
      have ll : lim ≤ 16777216 := by decide
      exact mt_join pins s σ H _ _ _ us Q I rx rs ⟨a, l, ys, rfl, rfl, .inl h1, Nat.le_trans (of_decide_eq_true g1) ll, q _ _ (mk_d (.str _))⟩
    | [], _, hg => exact (not_stk hg).elim
    | .list _ :: _ :: _, _, hg => exact (not_stk hg).elim
    | .none :: _, _, hg | .bool _ :: _, _, hg | .int _ :: _, _, hg | .str _ :: _, _, hg | .tuple _ :: _, _, hg | .dict _ :: _, _, hg => exact (not_stk hg).elim
end
end Qv

set_option maxRecDepth 100000
set_option maxHeartbeats 1000000
/-! Q7: each shape of an expression: the reading made of the evaluator is one of HandS's. -/
namespace Qv
open PySem PySem.Spec PyProof.Rows L2
section
variable {X : Cx} {e : Expr}
theorem peOf {t t' : TE} (h : PE X e t) (i : ∀ σ H Q, t' σ H Q → t σ H Q) : PE X e t' := ⟨fun pins s σ H Q I q => h.run pins s σ H Q I (i σ H Q q)⟩
theorem ptOf {t t' : TT} (h : PT X e t) (i : ∀ σ H Q, t' σ H Q → t σ H Q) : PT X e t' := ⟨fun pins s σ H Q I q => h.run pins s σ H Q I (i σ H Q q)⟩
theorem pwOf {t t' : TT} (h : PW X e t) (i : ∀ σ H Q, t' σ H Q → t σ H Q) : PW X e t' := ⟨fun w pins s σ H Q I q => h.run w pins s σ H Q I (i σ H Q q)⟩
theorem paOf {es : List Expr} {t t' : TA} (h : PA X es t) (i : ∀ σ H Q, t' σ H Q → t σ H Q) : PA X es t' := ⟨fun pos pins s σ H Q I q => h.run pos pins s σ H Q I (i σ H Q q)⟩
end

/-! ### one evaluation behind another, by what was at the start -/
abbrev RR (α β : Type) := (Addr → Prop) → (Addr → Prop) → Hp → Evn → β → α → Prop
section
variable {K : PySem.W.Frag} {W : WX} {α α1 β β1 : Type} {R : RR α β} {R1 : RR α1 β1} {F F' F1 F2 : Addr → Prop} {H H' H1 H2 : Hp} {env env' env1 env2 : Evn} {σ : L2.St} {a : Addr} {v : V} {Q : β → Hp → Prop}
/-- what the end m asks, from the start (F, H, env) -/
def PoK (K : PySem.W.Frag) (W : WX) (R : RR α β) (m : Rs (α × Evn)) (F : Addr → Prop) (env : Evn) (σ : L2.St) (H : Hp) (Q : β → Hp → Prop) : Prop := match m with
  | .ok (r, env') => ∀ v F' H', Aft K F H env σ F' H' env' → R (Nw H env σ) F' H' env' v r → Q v H'
  | .error (.exc c fs) => ∀ cls d F' H', Stp (Ownd env σ) F H F' H' → ExcR K F' H' cls d c fs → W cls d σ H'
  | .error .stuck => False
theorem PoK.of {f : Evn → Rs (α × Evn)} (h : Po K W R f F env σ H Q) : PoK K W R (f env) F env σ H Q := h
theorem Po.of {f : Evn → Rs (α × Evn)} (h : PoK K W R (f env) F env σ H Q) : Po K W R f F env σ H Q := h
theorem PoK.cast {m m' : Rs (α × Evn)} (h : PoK K W R m F env σ H Q) (e : m = m') : PoK K W R m' F env σ H Q := e ▸ h
theorem PoK.imp {m : Rs (α × Evn)} {Q' : β → Hp → Prop} (h : PoK K W R m F env σ H Q) (q : ∀ v H', Q v H' → Q' v H') : PoK K W R m F env σ H Q' := by
  unfold PoK at h ⊢
  split at h
  · exact fun v F' H' s z => q v H' (h v F' H' s z)
  · exact h
  · exact h
/-- the next evaluation -/
theorem PoK.next {f1 : Evn → Rs (α1 × Evn)} {f2 : α1 × Evn → Rs (α × Evn)} (h : PoK K W R (f1 env1 >>= f2) F env σ H Q) (s : Aft K F H env σ F1 H1 env1) :
    Po K W R1 f1 F1 env1 σ H1 (fun v1 H2 => ∃ F2 env2 r, Aft K F H env σ F2 H2 env2 ∧ Aft K F1 H1 env1 σ F2 H2 env2 ∧ R1 (Nw H1 env1 σ) F2 H2 env2 v1 r ∧ f1 env1 = .ok (r, env2) ∧ PoK K W R (f2 (r, env2)) F env σ H Q) := by
  unfold Po
  cases e : f1 env1 with
  | error x =>
    rw [e] at h
    cases x with
    | stuck => exact h
    | exc c fs => exact fun cls d F' H' t q => h cls d F' H' (s.stp.trans t fun a w => .inl (s.sub a w)) q
  | ok p =>
    rw [e] at h
    exact fun v F2 H2 t q => ⟨F2, p.2, p.1, s.trans t, t, q, rfl, h⟩
/-- the end -/
theorem PoK.now {r : α} (h : PoK K W R (.ok (r, env')) F env σ H Q) (s : Aft K F H env σ F' H' env') {v : β} (q : R (Nw H env σ) F' H' env' v r) : Q v H' := h v F' H' s q
theorem PoK.stuck (h : PoK K W R stk F env σ H Q) : False := h
theorem PoK.grd {b : Bool} {p : α × Evn} (h : PoK K W R (grd b p) F env σ H Q) : b = true ∧ PoK K W R (.ok p) F env σ H Q := by
  cases b with
  | true => exact ⟨rfl, h⟩
  | false => exact h.elim
theorem PoK.guard {b : Bool} {f2 : Unit → Rs (α × Evn)} (h : PoK K W R (Qv.grd b () >>= f2) F env σ H Q) : b = true ∧ PoK K W R (f2 ()) F env σ H Q := by
  cases b with
  | true => exact ⟨rfl, h⟩
  | false => exact h.elim
/-- what is computed beside: no exception of its own -/
theorem PoK.calc {γ : Type} {m : Rs γ} {f2 : γ → Rs (α × Evn)} (h : PoK K W R (m >>= f2) F env σ H Q) (nx : ∀ c fs, m ≠ .error (.exc c fs)) : ∃ z, m = .ok z ∧ PoK K W R (f2 z) F env σ H Q := by
  cases m with
  | ok z => exact ⟨z, rfl, h⟩
  | error x =>
    cases x with
    | stuck => exact h.elim
    | exc c fs => exact absurd rfl (nx c fs)
theorem der_nx {p : Opd} : ∀ c fs, der env p ≠ .error (.exc c fs) := by
  intro c fs
  unfold der
  split
  · exact nofun
  · split <;> exact nofun
theorem grd_nx {b : Bool} {x : α} : ∀ c fs, grd b x ≠ .error (.exc c fs) := by
  intro c fs
  cases b <;> exact nofun
theorem PoK.fin2 {γ : Type} {w : γ → Vl} {g : PyData → PyData → Rs γ} {p q : Opd} {R : RR Vl β} (h : PoK K W R (fin2 w g p q env') F env σ H Q) :
    ∃ d e z, der env' p = .ok d ∧ der env' q = .ok e ∧ g d e = .ok z ∧ PoK K W R (.ok (w z, env')) F env σ H Q := by
  unfold Qv.fin2 at h
  cases e1 : der env' p with
  | error x => rw [e1] at h; exact h.elim
  | ok d =>
    cases e2 : der env' q with
    | error x => rw [e1, e2] at h; exact h.elim
    | ok e =>
      rw [e1, e2] at h
      simp only at h
      cases e3 : g d e with
      | error x => rw [e3] at h; exact h.elim
      | ok z =>
        rw [e3] at h
        exact ⟨d, e, z, rfl, rfl, e3, h⟩
theorem PoK.fin2b {g : PyData → PyData → Rs Bool} {p q : Opd} {f2 : Bool → Rs (α × Evn)} (h : PoK K W R (Qv.fin2b g p q env' >>= f2) F env σ H Q) :
    ∃ d e z, der env' p = .ok d ∧ der env' q = .ok e ∧ g d e = .ok z ∧ PoK K W R (f2 z) F env σ H Q := by
  unfold Qv.fin2b at h
  cases e1 : der env' p with
  | error x => rw [e1] at h; exact h.elim
  | ok d =>
    cases e2 : der env' q with
    | error x => rw [e1, e2] at h; exact h.elim
    | ok e =>
      rw [e1, e2] at h
      simp only at h
      cases e3 : g d e with
      | error x => rw [e3] at h; exact h.elim
      | ok z =>
        rw [e3] at h
        exact ⟨d, e, z, rfl, rfl, e3, h⟩
theorem PoK.fin1 {γ : Type} {w : γ → Vl} {g : PyData → Rs γ} {p : Opd} {R : RR Vl β} (h : PoK K W R (fin1 w g p env') F env σ H Q) :
    ∃ d z, der env' p = .ok d ∧ g d = .ok z ∧ PoK K W R (.ok (w z, env')) F env σ H Q := by
  unfold Qv.fin1 at h
  cases e1 : der env' p with
  | error x => rw [e1] at h; exact h.elim
  | ok d =>
    rw [e1] at h
    simp only at h
    cases e3 : g d with
    | error x => rw [e3] at h; exact h.elim
    | ok z =>
      rw [e3] at h
      exact ⟨d, z, rfl, e3, h⟩
/-- a result that is shared from now on -/
theorem Aft.share {N : Addr → Prop} (s : Aft K F H env σ F1 H1 env1) {r : Vl} (q : ResV K σ N F1 H1 env1 v r) (hn : ∀ a, N a → Nw H env σ a) : ∃ F', Aft K F H env σ F' H1 env1 ∧ Kp F1 H1 F' H1 ∧ Rp K F' H1 v r.x := by
  obtain ⟨F', g, k, st, rp⟩ := ResV.share (env1 := env) s.good q hn s.stp
  exact ⟨F', ⟨g, st, s.sub⟩, k, rp⟩
end

/-! ### names, constants -/
section
variable {X : Cx} {W : WX} {a b c : Expr} {e : Expr} {pos : Pos} {fa fb fc f : Evn → Rs (Opd × Evn)} {g g' : Evn → Rs (Vl × Evn)}

theorem s_var {i : Nat} {x : Str} (hN : X.N[i]? = some x) (hv : Vis X.env.scope x) (hd : (x == ("__debug__" : Str)) = false) (hcd : (x == ("__classdict__" : Str)) = false) : PE X (.Name x pos) (tE X.K W (getV i)) := by
  refine peOf (pe_var hN hv hd hcd) fun σ H Q h => ?_
  obtain ⟨F, env, G, po⟩ := h
  have po := PoK.of po
  unfold getV at po
  cases e : env[i]? with
  | none => rw [e] at po; exact po.elim
  | some o =>
    rw [e] at po
    cases o with
    | none => exact po.elim
    | some vl =>
      cases vl with
      | d x =>
        obtain ⟨v, e1, r⟩ := G.sh i x e
        exact ⟨v, e1, po.now (.refl G) r⟩
      | o x =>
        obtain ⟨a, e1, n, c⟩ := G.ow i x e
        have own : Ownd env σ a := ⟨i, x, e, e1⟩
        refine ⟨.ref a, e1, po.now (F' := Fp F a) ⟨G.freeze e e1, ⟨fun b h => .inl h, fun b h => ?_, fun _ _ h _ => h, fun _ h => h⟩, fun b w => ?_⟩ ((c.keep .more fun _ h => h).rp (.inr rfl))⟩
        · rcases h with h | h
          · exact .inl h
          · exact .inr (.inr (h ▸ own))
        · obtain ⟨j, d, h1, h2⟩ := w
          by_cases q : i = j
          · subst q
            rw [List.getElem?_set_self (List.getElem?_eq_some_iff.mp e).1] at h1
            cases h1
          · rw [List.getElem?_set_ne q] at h1
            exact ⟨j, d, h1, h2⟩
/-- a literal, a module's constant -/
theorem s_cst {d : PyData} {v : V} (h : PE X e (tC v)) (r : ∀ F H, Rp X.K F H v d) : PE X e (tE X.K W fun env => .ok (.d d, env)) := by
  refine peOf h fun σ H Q h => ?_
  obtain ⟨F, env, G, po⟩ := h
  exact (PoK.of po).now (.refl G) (r F H)
/-- an operand: a name is looked at later -/
theorem o_var {i : Nat} {x : Str} (hN : X.N[i]? = some x) (hv : Vis X.env.scope x) (hd : (x == ("__debug__" : Str)) = false) (hcd : (x == ("__classdict__" : Str)) = false) {g : Evn → Rs (Vl × Evn)} (hg : ∀ env, g env = getV i env) : PE X (.Name x pos) (tO X.K W (opd (some i) g)) := by
  refine ⟨fun pins s σ H Q I h => ?_⟩
  obtain ⟨F, env, G, po⟩ := h
  have po := PoK.of po
  cases e : env[i]? with
  | none =>
    simp only [opd, e, hg, getV] at po
    exact po.elim
  | some o =>
    cases o with
    | none =>
      simp only [opd, e, hg, getV] at po
      exact po.elim
    | some vl =>
      cases vl with
      | d x =>
        obtain ⟨v, e1, r⟩ := G.sh i x e
        refine (pe_var hN hv hd hcd).run pins s σ H Q I ⟨v, e1, ?_⟩
        simp only [opd, e, hg, getV] at po
        exact PoK.now (r := Opd.vl (.d x)) po (.refl G) r
      | o x =>
        obtain ⟨a, e1, n, c⟩ := G.ow i x e
        refine (pe_var hN hv hd hcd).run pins s σ H Q I ⟨_, e1, ?_⟩
        simp only [opd, e, hg, getV] at po
        exact PoK.now (r := Opd.sl i) po (.refl G) e1
theorem o_any (h : PE X e (tE X.K W g)) : PE X e (tO X.K W (opd none g)) := by
  refine peOf h fun σ H Q h => ?_
  obtain ⟨F, env, G, po⟩ := h
  refine ⟨F, env, G, Po.of ((PoK.next (f1 := g) (PoK.of po) (.refl G)).imp ?_)⟩
  intro v H1 ⟨F1, env1, r, s, t, q, e, po1⟩
  exact PoK.now (r := Opd.vl r) po1 s q

/-! ### two operands -/
def r2 (K : PySem.W.Frag) {γ : Type} (w : γ → Vl) (g : PyData → PyData → Rs γ) : R2 := fun x y H Q => ∃ F d e z, Vw K F H x d ∧ Vw K F H y e ∧ g d e = .ok z ∧ ∀ v H', Mkd K F H v H' (w z) → Q v H'
theorem e2_tOp {γ : Type} {w : γ → Vl} {g : PyData → PyData → Rs γ} {σ : L2.St} {H : Hp} {Q : VK}
    (h : tE X.K W (fun env => fa env >>= fun p => fb p.2 >>= fun q => fin2 w g p.1 q.1 q.2) σ H Q) : tOp (r2 X.K w g) (tO X.K W fa) (tO X.K W fb) σ H Q := by
  obtain ⟨F, env, G, po⟩ := h
  refine ⟨F, env, G, Po.of ((PoK.next (f1 := fa) (PoK.of po) (.refl G)).imp ?_)⟩
  intro x H1 ⟨F1, env1, p, s1, _, r1, e1, po1⟩
  refine ⟨F1, env1, s1.good, (PoK.next (f1 := fb) (R1 := ResO X.K σ) po1 s1).imp ?_⟩
  intro y H2 ⟨F2, env2, q, s2, t2, r2, e2, po2⟩
  obtain ⟨d, e, z, hd, he, hz, fin⟩ := po2.fin2
  exact ⟨F2, d, e, z, s2.good.der (r1.keep s1.good t2) hd, s2.good.der r2 he, hz, fun v H' m => by
    obtain ⟨s, q⟩ := m.res s2.good
    exact fin.now (s2.trans s) (q.mono s2.nw)⟩
theorem OpR.impR {f : Value → Value → Sem Value} {r r' : R2} (h : OpR X f r) (i : ∀ x y H Q, r' x y H Q → r x y H Q) : OpR X f r' := fun pins s σ H x y v u Q I rx ry q => h pins s σ H x y v u Q I rx ry (i _ _ _ _ q)
theorem s_bin {op : Operator} {g : PyData → PyData → Rs PyData} (ho : OpR X (binaryOp op) (rD X.K g)) (ha : PE X a (tO X.K W fa)) (hb : PE X b (tO X.K W fb)) : PE X (.BinOp a op b pos) (tE X.K W fun env => fa env >>= fun p => fb p.2 >>= fun q => fin2 mkV g p.1 q.1 q.2) :=
  peOf (pe_op (OpR.impR (r' := r2 X.K mkV g) ho fun x y H Q q => q) ha hb) fun σ H Q h => e2_tOp h
theorem rC_of {g : PyData → PyData → Rs Bool} {f : Value → Value → Sem Value} (ho : OpR X f (rC X.K g)) : OpR X f (r2 X.K (fun z => .d (.bool z)) g) := OpR.impR ho fun x y H Q ⟨F, d, e, z, h1, h2, h3, q⟩ => ⟨F, d, e, z, h1, h2, h3, q _ _ (mk_d (.bl z))⟩
theorem s_cmp {op : CmpOp} {g : PyData → PyData → Rs Bool} (ho : OpR X (compareOp op) (rC X.K g)) (ha : PE X a (tO X.K W fa)) (hb : PE X b (tO X.K W fb)) (hm : behindInMarks op b = false) :
    PE X (.Compare a [op] [b] pos) (tE X.K W fun env => fa env >>= fun p => fb p.2 >>= fun q => fin2 (fun z => .d (.bool z)) g p.1 q.1 q.2) :=
  peOf (pe_cmpR (rC_of ho) ha hb hm) fun σ H Q h => e2_tOp h
theorem t_of_e {σ : L2.St} {H : Hp} {Q : Bool → Hp → Prop} (h : tT X.K W (asT g) σ H Q) : tE X.K W g σ H (fun x H' => ∃ k, x = .bl k ∧ Q k H') := by
  obtain ⟨F, env, G, po⟩ := h
  refine ⟨F, env, G, Po.of ((PoK.next (f1 := g) (PoK.of po) (.refl G)).imp ?_)⟩
  intro v H1 ⟨F1, env1, r, s, t, q, e, po1⟩
  cases r with
  | o x => exact po1.elim
  | d x =>
    cases x <;> try exact po1.elim
    rename_i b
    cases q
    exact ⟨b, rfl, PoK.now po1 s rfl⟩
theorem t_cmp {op : CmpOp} {g : PyData → PyData → Rs Bool} (ho : OpR X (compareOp op) (rC X.K g)) (ha : PE X a (tO X.K W fa)) (hb : PE X b (tO X.K W fb)) (hm : behindInMarks op b = false) :
    PT X (.Compare a [op] [b] pos) (tT X.K W (asT fun env => fa env >>= fun p => fb p.2 >>= fun q => fin2 (fun z => .d (.bool z)) g p.1 q.1 q.2)) :=
  ptOf (pt_cmpR (rC_of ho) ha hb hm) fun σ H Q h => e2_tOp (t_of_e h)
/-- a value that is no comparison, no and, or, not, if-else, as a test -/
theorem t_val (h : PE X e (tE X.K W g)) (he : ∀ whole, isTrue e X.env whole = (do let v ← whole; standAt e.pos; holding [v] (truthy v))) : PT X e (tT X.K W (asT g)) :=
  ptOf (pt_val h he) fun σ H Q h => t_of_e h

/-! ### a < b < c -/
def chnE (g1 g2 : PyData → PyData → Rs Bool) (fa fb fc : Evn → Rs (Opd × Evn)) : Evn → Rs (Vl × Evn) := fun env => fa env >>= fun p => fb p.2 >>= fun q => fin2b g1 p.1 q.1 q.2 >>= fun z =>
  if z then fc q.2 >>= fun s => fin2 (fun z => .d (.bool z)) g2 q.1 s.1 s.2 else .ok (.d (.bool false), q.2)
theorem e_chn {g1 g2 : PyData → PyData → Rs Bool} {σ : L2.St} {H : Hp} {Q : VK} (h : tE X.K W (chnE g1 g2 fa fb fc) σ H Q) : tChain (r2 X.K (fun z => .d (.bool z)) g1) (r2 X.K (fun z => .d (.bool z)) g2) (tO X.K W fa) (tO X.K W fb) (tO X.K W fc) σ H Q := by
  obtain ⟨F, env, G, po⟩ := h
  refine ⟨F, env, G, Po.of ((PoK.next (f1 := fa) (PoK.of po) (.refl G)).imp ?_)⟩
  intro x H1 ⟨F1, env1, p, s1, _, r1, e1, po1⟩
  refine ⟨F1, env1, s1.good, (PoK.next (f1 := fb) (R1 := ResO X.K σ) po1 s1).imp ?_⟩
  intro y H2 ⟨F2, env2, q, s2, t2, r2, e2, po2⟩
  obtain ⟨d, e, z, hd, he, hz, po3⟩ := po2.fin2b
  refine ⟨F2, d, e, z, s2.good.der (r1.keep s1.good t2) hd, s2.good.der r2 he, hz, fun v H' m => ?_⟩
  obtain ⟨sm, hv⟩ := m
  cases hv
  refine ⟨z, rfl, ?_⟩
  have s3 : Aft X.K F2 H2 env2 σ F2 H' env2 := .same s2.good sm
  cases z with
  | false => exact PoK.now po3 (s2.trans s3) (.bl false)
  | true =>
    refine ⟨F2, env2, s3.good, (PoK.next (f1 := fc) (R1 := ResO X.K σ) po3 (s2.trans s3)).imp ?_⟩
    intro w H3 ⟨F3, env3, p3, s4, t4, r4, e4, po4⟩
    obtain ⟨d', e', z', hd', he', hz', po5⟩ := po4.fin2
    exact ⟨F3, d', e', z', s4.good.der ((r2.keep s2.good s3).keep s3.good t4) hd', s4.good.der r4 he', hz', fun v H' m => by
      obtain ⟨s, q⟩ := m.res s4.good
      exact po5.now (s4.trans s) (q.mono s4.nw)⟩
theorem s_chn {o1 o2 : CmpOp} {g1 g2 : PyData → PyData → Rs Bool} (h1 : OpR X (compareOp o1) (rC X.K g1)) (h2 : OpR X (compareOp o2) (rC X.K g2)) (ha : PE X a (tO X.K W fa)) (hb : PE X b (tO X.K W fb)) (hc : PE X c (tO X.K W fc)) (hm : lastMarks [o1, o2] [b, c] = false) :
    PE X (.Compare a [o1, o2] [b, c] pos) (tE X.K W (chnE g1 g2 fa fb fc)) := peOf (pe_chain (rC_of h1) (rC_of h2) ha hb hc hm) fun σ H Q h => e_chn h
theorem t_chn {o1 o2 : CmpOp} {g1 g2 : PyData → PyData → Rs Bool} (h1 : OpR X (compareOp o1) (rC X.K g1)) (h2 : OpR X (compareOp o2) (rC X.K g2)) (ha : PE X a (tO X.K W fa)) (hb : PE X b (tO X.K W fb)) (hc : PE X c (tO X.K W fc)) (hm : lastMarks [o1, o2] [b, c] = false) :
    PT X (.Compare a [o1, o2] [b, c] pos) (tT X.K W (asT (chnE g1 g2 fa fb fc))) := ptOf (pt_chain (rC_of h1) (rC_of h2) ha hb hc hm) fun σ H Q h => e_chn (t_of_e h)

/-! ### one operand -/
def r1 (K : PySem.W.Frag) {γ : Type} (w : γ → Vl) (g : PyData → Rs γ) : V → Hp → VK → Prop := fun x H Q => ∃ F d z, Vw K F H x d ∧ g d = .ok z ∧ ∀ v H', Mkd K F H v H' (w z) → Q v H'
theorem e1_t {γ : Type} {w : γ → Vl} {g : PyData → Rs γ} {σ : L2.St} {H : Hp} {Q : VK} (h : tE X.K W (fun env => fa env >>= fun p => fin1 w g p.1 p.2) σ H Q) : tO X.K W fa σ H (fun x H1 => r1 X.K w g x H1 Q) := by
  obtain ⟨F, env, G, po⟩ := h
  refine ⟨F, env, G, Po.of ((PoK.next (f1 := fa) (PoK.of po) (.refl G)).imp ?_)⟩
  intro x H1 ⟨F1, env1, p, s1, _, q1, e1, po1⟩
  obtain ⟨d, z, hd, hz, fin⟩ := po1.fin1
  exact ⟨F1, d, z, s1.good.der q1 hd, hz, fun v H' m => by
    obtain ⟨s, q⟩ := m.res s1.good
    exact fin.now (s1.trans s) (q.mono s1.nw)⟩
theorem pa_one (ha : PE X a (tO X.K W fa)) (hs : starEach [a] X.env = [(false, eval a X.env)]) : PA X [a] (tCons (tO X.K W fa) tNil) := pa_cons ha pa_nil hs
theorem s_fnB {x : Str} {id : String} {g : PyData → Rs PyData} {p : Pos} (hc : CallR X (.builtin id) (rF X.K g)) (hg : Gl X x) (hm : X.mg x = none) (hv : bootBuiltins x = some (.builtin id)) (hn : x ≠ "__name__") (hd : (x == ("__debug__" : Str)) = false)
    (hs : starEach [a] X.env = [(false, eval a X.env)]) (ha : PE X a (tO X.K W fa)) : PE X (.Call (.Name x p) [a] [] pos) (tE X.K W fun env => fa env >>= fun p => fin1 mkV g p.1 p.2) := by
  refine peOf (pe_callB hc hg hm hv (pa_one ha hs) hn hd hs rfl) fun σ H Q h => ?_
  obtain ⟨F, env, G, po⟩ := e1_t h
  exact ⟨F, env, G, po.imp fun x H1 ⟨F, d, z, h1, h2, q⟩ => ⟨F, x, d, z, rfl, h1, h2, q⟩⟩
theorem s_fnT {x : Str} {id : String} {g : PyData → Rs PyData} {p : Pos} (hc : CallR X (.type id) (rF X.K g)) (hg : Gl X x) (hm : X.mg x = none) (hv : bootBuiltins x = some (.type id)) (hn : x ≠ "__name__") (hd : (x == ("__debug__" : Str)) = false)
    (hs : starEach [a] X.env = [(false, eval a X.env)]) (ha : PE X a (tO X.K W fa)) : PE X (.Call (.Name x p) [a] [] pos) (tE X.K W fun env => fa env >>= fun p => fin1 mkV g p.1 p.2) := by
  refine peOf (pe_callTy hc hg hm hv (pa_one ha hs) hn hd hs rfl) fun σ H Q h => ?_
  obtain ⟨F, env, G, po⟩ := e1_t h
  exact ⟨F, env, G, po.imp fun x H1 ⟨F, d, z, h1, h2, q⟩ => ⟨F, x, d, z, rfl, h1, h2, q⟩⟩
theorem s_neg (ha : PE X a (tE X.K W g)) : PE X (.UnaryOp .USub a pos) (tE X.K W fun env => g env >>= fun p => match p.1 with
  | .d (.int i) => .ok (.d (.int (-i)), p.2)
  | _ => stk) := by
  refine peOf (pe_un un_neg ha) fun σ H Q h => ?_
  obtain ⟨F, env, G, po⟩ := h
  refine ⟨F, env, G, Po.of ((PoK.next (f1 := g) (PoK.of po) (.refl G)).imp ?_)⟩
  intro v H1 ⟨F1, env1, r, s, t, q, e, po1⟩
  cases r with
  | o x => exact po1.elim
  | d x =>
    cases x <;> try exact po1.elim
    cases q
    exact ⟨_, rfl, PoK.now po1 s (.int _)⟩
end
end Qv

set_option maxRecDepth 100000
set_option maxHeartbeats 1000000
/-! Q8: and, or, not, if-else, displays, subscripts, methods. -/
namespace Qv
open PySem PySem.Spec PyProof.Rows L2
section
variable {K : PySem.W.Frag} {W : WX} {α β : Type} {R : RR α β} {F F1 : Addr → Prop} {H H1 : Hp} {env env1 : Evn} {σ : L2.St} {Q : β → Hp → Prop}
/-- the start moves on -/
theorem PoK.base {m : Rs (α × Evn)} (h : PoK K W R m F env σ H Q) (s : Aft K F H env σ F1 H1 env1) (mono : ∀ N N' F H env v r, (∀ a, N a → N' a) → R N F H env v r → R N' F H env v r) : PoK K W R m F1 env1 σ H1 Q := by
  cases m with
  | error x =>
    cases x with
    | stuck => exact h
    | exc c fs => exact fun cls d F' H' t q => h cls d F' H' (s.stp.trans t fun a w => .inl (s.sub a w)) q
  | ok p => exact fun v F2 H2 t q => h v F2 H2 (s.trans t) (mono _ _ _ _ _ _ _ s.nw q)
end
section
variable {X : Cx} {W : WX} {a b c : Expr} {e : Expr} {es : List Expr} {pos : Pos} {fa fb fc : Evn → Rs (Opd × Evn)} {g g' ga gb : Evn → Rs (Vl × Evn)} {ft fu : Evn → Rs (Bool × Evn)}
def fromT (ft : Evn → Rs (Bool × Evn)) : Evn → Rs (Vl × Evn) := fun env => ft env >>= fun p => .ok (.d (.bool p.1), p.2)
def andF (g : Evn → Rs (Vl × Evn)) (ft : Evn → Rs (Bool × Evn)) : Evn → Rs (Bool × Evn) := fun env => asT g env >>= fun p => if p.1 then ft p.2 else .ok (false, p.2)
def orF (g : Evn → Rs (Vl × Evn)) (ft : Evn → Rs (Bool × Evn)) : Evn → Rs (Bool × Evn) := fun env => asT g env >>= fun p => if p.1 then .ok (true, p.2) else ft p.2
def notF (g : Evn → Rs (Vl × Evn)) : Evn → Rs (Bool × Evn) := fun env => asT g env >>= fun p => .ok (!p.1, p.2)
def iteF {α : Type} (ft : Evn → Rs (Bool × Evn)) (g g' : Evn → Rs (α × Evn)) : Evn → Rs (α × Evn) := fun env => ft env >>= fun p => if p.1 then g p.2 else g' p.2
/-- a first value that is a bool, then a choice -/
theorem v_choice {σ : L2.St} {H : Hp} {Q : VK} {k : Bool → Evn → Rs (Bool × Evn)} (h : tE X.K W (fromT fun env => asT g env >>= fun p => k p.1 p.2) σ H Q) :
    tE X.K W g σ H (fun x H1 => ∃ c, x = .bl c ∧ tE X.K W (fromT (k c)) σ H1 Q) := by
  obtain ⟨F, env, G, po⟩ := h
  have po : PoK X.K W (ResV X.K σ) (g env >>= fun p => ((match p.1 with
    | .d (.bool b) => (.ok (b, p.2) : Rs (Bool × Evn))
    | _ => stk) >>= fun p => k p.1 p.2) >>= fun p => .ok (.d (.bool p.1), p.2)) F env σ H Q := by
    refine (PoK.of po).cast ?_
    unfold fromT asT
    dsimp only
    generalize g env = m
    cases m with
    | error x => rfl
    | ok p => rfl
  refine ⟨F, env, G, Po.of ((PoK.next (f1 := g) po (.refl G)).imp ?_)⟩
  intro v H1 ⟨F1, env1, r, s, t, q, e, po1⟩
  cases r with
  | o x => exact po1.elim
  | d x =>
    cases x <;> try exact po1.elim
    rename_i b
    cases q
    exact ⟨b, rfl, F1, env1, s.good, Po.of (po1.base s mono_V)⟩
theorem t_choice {σ : L2.St} {H : Hp} {Q : Bool → Hp → Prop} {α : Type} {k : Bool → Evn → Rs (Bool × Evn)} (h : tT X.K W (fun env => ft env >>= fun p => k p.1 p.2) σ H Q) :
    tT X.K W ft σ H (fun c H1 => tT X.K W (k c) σ H1 Q) := by
  obtain ⟨F, env, G, po⟩ := h
  refine ⟨F, env, G, Po.of ((PoK.next (f1 := ft) (PoK.of po) (.refl G)).imp ?_)⟩
  intro v H1 ⟨F1, env1, r, s, t, q, e, po1⟩
  cases q
  exact ⟨F1, env1, s.good, Po.of (po1.base s mono_B)⟩
theorem tT_id {σ : L2.St} {H : Hp} {Q : Bool → Hp → Prop} {b : Bool} (h : tT X.K W (fun env => .ok (b, env)) σ H Q) : Q b H := by
  obtain ⟨F, env, G, po⟩ := h
  exact PoK.now (PoK.of po) (.refl G) rfl
theorem tE_id {σ : L2.St} {H : Hp} {Q : VK} {b : Bool} (h : tE X.K W (fromT fun env => .ok (b, env)) σ H Q) : Q (.bl b) H := by
  obtain ⟨F, env, G, po⟩ := h
  exact PoK.now (PoK.of po) (.refl G) (.bl b)
def yesF : Evn → Rs (Bool × Evn) := fun env => .ok (true, env)
def noF : Evn → Rs (Bool × Evn) := fun env => .ok (false, env)
theorem s_and1 (ha : PE X a (tE X.K W g)) : PE X (.BoolOp .And [a] pos) (tE X.K W (fromT (andF g yesF))) := by
  refine peOf (pe_one ha) fun σ H Q h => ?_
  obtain ⟨F, env, G, po⟩ := v_choice (k := fun b e => if b then yesF e else .ok (false, e)) h
  refine ⟨F, env, G, po.imp fun x H1 ⟨c, e, q⟩ => ?_⟩
  subst e
  cases c with
  | true => exact tE_id q
  | false => exact tE_id q
theorem s_and {rest : List Expr} (ha : PE X a (tE X.K W g)) (hb : PE X (.BoolOp .And (b :: rest) pos) (tE X.K W (fromT ft))) : PE X (.BoolOp .And (a :: b :: rest) pos) (tE X.K W (fromT (andF g ft))) := by
  refine peOf (pe_and ha hb) fun σ H Q h => ?_
  obtain ⟨F, env, G, po⟩ := v_choice (k := fun b e => if b then ft e else .ok (false, e)) h
  refine ⟨F, env, G, po.imp fun x H1 ⟨c, e, q⟩ => ⟨c, e, ?_⟩⟩
  cases c with
  | true => exact q
  | false => exact tE_id q
theorem s_or1 (ha : PE X a (tE X.K W g)) : PE X (.BoolOp .Or [a] pos) (tE X.K W (fromT (orF g noF))) := by
  refine peOf (pe_one ha) fun σ H Q h => ?_
  obtain ⟨F, env, G, po⟩ := v_choice (k := fun b e => if b then .ok (true, e) else noF e) h
  refine ⟨F, env, G, po.imp fun x H1 ⟨c, e, q⟩ => ?_⟩
  subst e
  cases c with
  | true => exact tE_id q
  | false => exact tE_id q
theorem s_or {rest : List Expr} (ha : PE X a (tE X.K W g)) (hb : PE X (.BoolOp .Or (b :: rest) pos) (tE X.K W (fromT ft))) : PE X (.BoolOp .Or (a :: b :: rest) pos) (tE X.K W (fromT (orF g ft))) := by
  refine peOf (pe_or ha hb) fun σ H Q h => ?_
  obtain ⟨F, env, G, po⟩ := v_choice (k := fun b e => if b then .ok (true, e) else ft e) h
  refine ⟨F, env, G, po.imp fun x H1 ⟨c, e, q⟩ => ⟨c, e, ?_⟩⟩
  cases c with
  | true => exact tE_id q
  | false => exact q
theorem s_not (ha : PE X a (tE X.K W g)) : PE X (.UnaryOp .Not a pos) (tE X.K W (fromT (notF g))) := by
  refine peOf (pe_not ha) fun σ H Q h => ?_
  obtain ⟨F, env, G, po⟩ := v_choice (k := fun b e => .ok (!b, e)) h
  exact ⟨F, env, G, po.imp fun x H1 ⟨c, e, q⟩ => ⟨c, e, tE_id q⟩⟩
theorem pt_pw (h : PW X e (tT X.K W ft)) : PT X e (tT X.K W ft) := ⟨fun pins s σ H Q I q => h.run _ pins s σ H Q I q⟩
theorem w_and1 (ha : PT X a (tT X.K W (asT g))) : PW X (.BoolOp .And [a] pos) (tT X.K W (andF g yesF)) := by
  refine pwOf (pw_and1 ha) fun σ H Q h => ?_
  obtain ⟨F, env, G, po⟩ := t_choice (α := Unit) (k := fun b e => if b then yesF e else .ok (false, e)) h
  refine ⟨F, env, G, po.imp fun c H1 q => ?_⟩
  cases c with
  | true => exact tT_id q
  | false => exact tT_id q
theorem w_and {rest : List Expr} (ha : PT X a (tT X.K W (asT g))) (hb : PW X (.BoolOp .And (b :: rest) pos) (tT X.K W ft)) : PW X (.BoolOp .And (a :: b :: rest) pos) (tT X.K W (andF g ft)) := by
  refine pwOf (pw_and ha hb) fun σ H Q h => ?_
  obtain ⟨F, env, G, po⟩ := t_choice (α := Unit) (k := fun b e => if b then ft e else .ok (false, e)) h
  refine ⟨F, env, G, po.imp fun c H1 q => ?_⟩
  cases c with
  | true => exact q
  | false => exact tT_id q
theorem w_or1 (ha : PT X a (tT X.K W (asT g))) : PW X (.BoolOp .Or [a] pos) (tT X.K W (orF g noF)) := by
  refine pwOf (pw_or1 ha) fun σ H Q h => ?_
  obtain ⟨F, env, G, po⟩ := t_choice (α := Unit) (k := fun b e => if b then .ok (true, e) else noF e) h
  refine ⟨F, env, G, po.imp fun c H1 q => ?_⟩
  cases c with
  | true => exact tT_id q
  | false => exact tT_id q
theorem w_or {rest : List Expr} (ha : PT X a (tT X.K W (asT g))) (hb : PW X (.BoolOp .Or (b :: rest) pos) (tT X.K W ft)) : PW X (.BoolOp .Or (a :: b :: rest) pos) (tT X.K W (orF g ft)) := by
  refine pwOf (pw_or ha hb) fun σ H Q h => ?_
  obtain ⟨F, env, G, po⟩ := t_choice (α := Unit) (k := fun b e => if b then .ok (true, e) else ft e) h
  refine ⟨F, env, G, po.imp fun c H1 q => ?_⟩
  cases c with
  | true => exact tT_id q
  | false => exact q
theorem t_not (ha : PT X a (tT X.K W (asT g))) : PT X (.UnaryOp .Not a pos) (tT X.K W (notF g)) := by
  refine ptOf (L2.pt_not ha) fun σ H Q h => ?_
  obtain ⟨F, env, G, po⟩ := t_choice (α := Unit) (k := fun b e => .ok (!b, e)) h
  exact ⟨F, env, G, po.imp fun c H1 q => tT_id q⟩
theorem s_ite (hc : PT X c (tT X.K W ft)) (ha : PE X a (tE X.K W g)) (hb : PE X b (tE X.K W g')) : PE X (.IfExp c a b pos) (tE X.K W (iteF ft g g')) := by
  refine peOf (pe_ifExp hc ha hb) fun σ H Q h => ?_
  obtain ⟨F, env, G, po⟩ := h
  refine ⟨F, env, G, Po.of ((PoK.next (f1 := ft) (PoK.of po) (.refl G)).imp ?_)⟩
  intro v H1 ⟨F1, env1, r, s, t, q, e, po1⟩
  cases q
  have := po1.base s mono_V
  cases v with
  | true => exact ⟨F1, env1, s.good, Po.of this⟩
  | false => exact ⟨F1, env1, s.good, Po.of this⟩

/-! ### several values, shared -/
def consL (g : Evn → Rs (Vl × Evn)) (gl : Evn → Rs (List PyData × Evn)) : Evn → Rs (List PyData × Evn) := fun env => g env >>= fun p => gl p.2 >>= fun q => .ok (p.1.x :: q.1, q.2)
theorem a_nil : PA X [] (tL X.K W fun env => .ok ([], env)) := paOf pa_nil fun σ H Q ⟨F, env, G, po⟩ => PoK.now (PoK.of po) (.refl G) .nil
theorem a_cons {gl : Evn → Rs (List PyData × Evn)} (ha : PE X a (tE X.K W g)) (hr : PA X es (tL X.K W gl)) (hs : starEach (a :: es) X.env = (false, eval a X.env) :: starEach es X.env) : PA X (a :: es) (tL X.K W (consL g gl)) := by
  refine paOf (pa_cons ha hr hs) fun σ H Q h => ?_
  obtain ⟨F, env, G, po⟩ := h
  refine ⟨F, env, G, Po.of ((PoK.next (f1 := g) (PoK.of po) (.refl G)).imp ?_)⟩
  intro v H1 ⟨F1, env1, r, s, _, q, e, po1⟩
  obtain ⟨F1', s', k', rp⟩ := s.share q fun _ h => h
  refine ⟨F1', env1, s'.good, (PoK.next (f1 := gl) (R1 := ResL X.K) po1 s').imp ?_⟩
  intro vs H2 ⟨F2, env2, r2, s2, t2, q2, e2, po2⟩
  exact PoK.now (R := ResL X.K) po2 s2 (.cons (rp.keep (t2.kp s'.good)) q2)
/-- a tuple's display -/
theorem s_tup {x1 : Nat} {gl : Evn → Rs (List PyData × Evn)} (ha : PA X es (tL X.K W gl)) : PE X (.Tuple es x1 pos) (tE X.K W fun env => gl env >>= fun p => grd (decide (p.1.length ≤ lim)) (.d (.tuple p.1), p.2)) := by
  refine ⟨fun pins s σ H Q I h => ?_⟩
  obtain ⟨F, env, G, po⟩ := h
  refine wpAny_Tuple_spliced (thn (ha.run pos pins s σ H _ I ⟨F, env, G, Po.of (PoK.next (f1 := gl) (PoK.of po) (.refl G))⟩) fun us s1 ⟨xs, H1, I1, r, q⟩ => ?_)
  obtain ⟨F1, env1, ds, s1', _, q1, e1, po1⟩ := q
  obtain ⟨hz, po1⟩ := po1.grd
  have hz : ds.length ≤ lim := of_decide_eq_true hz
  have l1 := q1.len
  have l2 := r.length
  have ll := lim_line
  refine ⟨by omega, ?_⟩
  obtain ⟨nw, o, hd, J⟩ := tup_new (h1 := s1.heap) (tk := s1.toks) I1 r (by omega)
  obtain ⟨sa, qa⟩ := (mk_tup nw hd q1).res s1'.good
  exact ⟨.ref _, _, J, rfl, po1.now (s1'.trans sa) (qa.mono s1'.nw)⟩
theorem s_lst {gl : Evn → Rs (List PyData × Evn)} (ha : PA X es (tL X.K W gl)) : PE X (.List es pos) (tE X.K W fun env => gl env >>= fun p => grd (decide (p.1.length ≤ lim)) (.o (.list p.1), p.2)) := by
  refine peOf (pe_lst ha) fun σ H Q h => ?_
  obtain ⟨F, env, G, po⟩ := h
  refine ⟨F, env, G, Po.of ((PoK.next (f1 := gl) (PoK.of po) (.refl G)).imp ?_)⟩
  intro vs H1 ⟨F1, env1, ds, s1, _, q1, e, po1⟩
  obtain ⟨hz, po1⟩ := po1.grd
  have hz : ds.length ≤ lim := of_decide_eq_true hz
  have l1 := q1.len
  have ll := lim_line
  refine ⟨by omega, fun p hp => ?_⟩
  obtain ⟨sa, qa⟩ := (mk_lst hp q1).res s1.good
  exact po1.now (s1.trans sa) (qa.mono s1.nw)

/-! ### subscripts, slices -/
theorem IxR.impR {r r' : R2} (h : IxR X r) (i : ∀ x y H Q, r' x y H Q → r x y H Q) : IxR X r' := fun v1 v2 pins s σ H x y v u Q I rx ry q => h v1 v2 pins s σ H x y v u Q I rx ry (i _ _ _ _ q)
theorem s_sub (hu : roomC X) (ha : PE X a (tO X.K W fa)) (hb : PE X b (tO X.K W fb)) (hs : PlainIx b) : PE X (.Subscript a b pos) (tE X.K W fun env => fa env >>= fun p => fb p.2 >>= fun q => fin2 .d subD p.1 q.1 q.2) :=
  peOf (pe_ix (IxR.impR (r' := r2 X.K .d subD) (ix_data hu) fun x y H Q ⟨F, d, e, z, h1, h2, h3, q⟩ => ⟨F, d, e, z, h1, h2, h3, fun v r => q v H (mk_d r)⟩) ha hb hs) fun σ H Q h => e2_tOp h
/-- a slice's bound -/
def tBd (K : PySem.W.Frag) (W : WX) (g : Evn → Rs (Vl × Evn)) : TO := fun σ H Q => tE K W g σ H fun v H1 => (v = .non ∧ Q none H1) ∨ ∃ i, v = .int i ∧ Q (some i) H1
theorem po_of {o : Option Expr} {t t' : TO} (h : PO X o t) (i : ∀ σ H Q, t' σ H Q → t σ H Q) : PO X o t' := ⟨fun pins s σ H Q I q => h.run pins s σ H Q I (i σ H Q q)⟩
def noneF : Evn → Rs (Vl × Evn) := fun env => .ok (.d .none, env)
/-- the bounds: none, or ints -/
inductive Bd (X : Cx) (W : WX) : Option Expr → (Evn → Rs (Vl × Evn)) → Prop
  | no : Bd X W none noneF
  | so {e : Expr} {g : Evn → Rs (Vl × Evn)} : PE X e (tE X.K W g) → Bd X W (some e) g
theorem Bd.po {o : Option Expr} (h : Bd X W o g) : PO X o (tBd X.K W g) := by
  cases h with
  | no =>
    refine po_of po_none fun σ H Q h => ?_
    obtain ⟨F, env, G, po⟩ := h
    rcases PoK.now (PoK.of po) (.refl G) .non with ⟨_, q⟩ | ⟨i, e, _⟩
    · exact q
    · cases e
  | so h =>
    refine ⟨fun pins s σ H Q I q => ?_⟩
    rw [evalPart_some]
    refine thn (h.run pins s σ H _ I q) fun u s1 ⟨x, H1, I1, r1, q1⟩ => ?_
    rcases q1 with ⟨e, q⟩ | ⟨i, e, q⟩
    · subst e
      cases r1
      exact ⟨none, H1, I1, .none, q⟩
    · subst e
      obtain ⟨t, rfl⟩ := r1
      exact ⟨some i, H1, I1, .int i t, q⟩
theorem bnd_cases {N F : Addr → Prop} {H : Hp} {env : Evn} {σ : L2.St} {v : V} {r : Vl} (h : bndOk r = true) (q : ResV X.K σ N F H env v r) : ∃ o, r.x = optD o ∧ ((v = .non ∧ o = none) ∨ ∃ i, v = .int i ∧ o = some i) := by
  cases r with
  | o x => cases h
  | d x =>
    cases x <;> try cases h
    · cases q
      exact ⟨none, rfl, .inl ⟨rfl, rfl⟩⟩
    · cases q
      exact ⟨some _, rfl, .inr ⟨_, rfl, rfl⟩⟩
theorem s_slc {lo hi : Option Expr} {p2 : Pos} {gl gh : Evn → Rs (Vl × Evn)} (ha : PE X a (tO X.K W fa)) (hl : Bd X W lo gl) (hh : Bd X W hi gh) :
    PE X (.Subscript a (.Slice lo hi none p2) pos) (tE X.K W fun env => fa env >>= fun p => gl p.2 >>= fun q => grd (bndOk q.1) () >>= fun _ => gh q.2 >>= fun s => grd (bndOk s.1) () >>= fun _ => fin1 mkV (fun x => slcD x q.1.x s.1.x) p.1 s.2) := by
  refine peOf (pe_slice sl_data ha hl.po hh.po) fun σ H Q h => ?_
  obtain ⟨F, env, G, po⟩ := h
  refine ⟨F, env, G, Po.of ((PoK.next (f1 := fa) (PoK.of po) (.refl G)).imp ?_)⟩
  intro x H1 ⟨F1, env1, p, s1, _, q1, e1, po1⟩
  refine ⟨F1, env1, s1.good, (PoK.next (f1 := gl) (R1 := ResV X.K σ) po1 s1).imp ?_⟩
  intro v H2 ⟨F2, env2, q, s2, t2, q2, e2, po2⟩
  obtain ⟨b2, po2⟩ := po2.guard
  obtain ⟨o2, x2, c2⟩ := bnd_cases b2 q2
  have key : tBd X.K W gh σ H2 fun u H3 => rSl X.K x o2 u H3 Q := by
    refine ⟨F2, env2, s2.good, (PoK.next (f1 := gh) (R1 := ResV X.K σ) po2 s2).imp ?_⟩
    intro v H3 ⟨F3, env3, r3, s3, t3, q3, e3, po3⟩
    obtain ⟨b3, po3⟩ := po3.guard
    obtain ⟨o3, x3, c3⟩ := bnd_cases b3 q3
    obtain ⟨d, z, hd, hz, fin⟩ := po3.fin1
    have k : rSl X.K x o2 o3 H3 Q := ⟨F3, d, z, s3.good.der ((q1.keep s1.good t2).keep s2.good t3) hd, by rw [← x2, ← x3]; exact hz, fun v H' m => by
      obtain ⟨s, q⟩ := m.res s3.good
      exact fin.now (s3.trans s) (q.mono s3.nw)⟩
    rcases c3 with ⟨e, rfl⟩ | ⟨i, e, rfl⟩
    · exact .inl ⟨e, k⟩
    · exact .inr ⟨i, e, k⟩
  rcases c2 with ⟨e, rfl⟩ | ⟨i, e, rfl⟩
  · exact .inl ⟨e, key⟩
  · exact .inr ⟨i, e, key⟩
theorem s_rev {k : Nat} {p1 p2 p3 : Pos} (ha : PE X a (tO X.K W fa)) : PE X (.Subscript a (.Slice none none (some (.UnaryOp .USub (.Constant (.int 1) k p1) p2)) p3) pos) (tE X.K W fun env => fa env >>= fun p => fin1 mkV revD p.1 p.2) := by
  refine peOf (pe_revL ha) fun σ H Q h => ?_
  obtain ⟨F, env, G, po⟩ := e1_t h
  refine ⟨F, env, G, po.imp fun x H1 ⟨F, d, z, h1, h2, q⟩ => ?_⟩
  cases d <;> try exact (not_stk h2).elim
  obtain rfl := ok_in h2
  obtain ⟨a, xs, rfl, h3, h4⟩ := h1.lst
  exact ⟨a, xs, rfl, h3, fun p hp => q _ _ (mk_lst hp h4.rev)⟩

/-! ### methods -/
def nst : Expr → Bool
  | .Starred _ _ => false
  | _ => true
theorem star_cons {env : Env} (h : nst a = true) : starEach (a :: es) env = (false, eval a env) :: starEach es env := by
  cases a <;> first | rfl | exact absurd h Bool.false_ne_true
theorem star_any {env : Env} : ∀ {es : List Expr}, es.all nst = true → (backTo pos (starEach es env)).any (·.1) = false
  | [], _ => rfl
  | a :: es, h => by
    rw [List.all_cons, Bool.and_eq_true] at h
    rw [star_cons h.1]
    show (false || (backTo pos (starEach es env)).any (·.1)) = false
    rw [star_any h.2]
    rfl
theorem star_all {env : Env} : ∀ {es : List Expr}, es.all nst = true → (backTo pos (starEach es env)).all (fun x => !x.1) = true
  | [], _ => rfl
  | a :: es, h => by
    rw [List.all_cons, Bool.and_eq_true] at h
    rw [star_cons h.1]
    show (true && (backTo pos (starEach es env)).all (fun x => !x.1)) = true
    rw [star_all h.2]
    rfl
def baseOk : Expr → Bool
  | .Call _ _ _ _ => false
  | _ => true
theorem base_ok {name : Str} {env : Env} {w : Sem Value} (h : baseOk a = true) : attributeBase a name env w = w := by
  cases a <;> first | rfl | exact absurd h Bool.false_ne_true
theorem mth_on {m : Mth} {d0 : PyData} {pins : List (Addr × Obj)} {σ : L2.St} {H : Hp} {s : Shared} {F : Addr → Prop} {x : V} {u : Value} (I : Inv X pins σ H s) (rx : RelV x u) (hm : mOk m d0 = true) (hx : Vw X.K F H x d0) :
    ∃ T, PlainAttrs T ∧ Slot T (mName m) (mId m d0) ∧ typeOf (.builtin (mId m d0)) = pure (.type "method_descriptor") ∧ s.TypeIs u T ∧ ∀ a, u = .ref a → ∃ ob, s.heap.get? a = some ob ∧ ob.dict = none := by
  cases m <;> cases d0 <;> (try exact absurd hm Bool.false_ne_true)
  · obtain ⟨a, vs, rfl, h1, h2⟩ := hx.rd
    cases rx
    obtain ⟨z1, its, n, v1, e1⟩ := rd_lst I h1
    exact ⟨"list", PySem.F.plainAttrs_list, PySem.F.slot_list_index, PySem.F.type_list_index, ⟨_, e1, rfl⟩, fun a e => by cases e; exact ⟨_, e1, rfl⟩⟩
  · obtain ⟨a, vs, rfl, h1, h2⟩ := hx.tup
    cases rx
    obtain ⟨z1, its, o, n, v1, e1, e2, e3, e4⟩ := nt_tup I h1
    exact ⟨"tuple", PySem.F.plainAttrs_tuple, PySem.F.slot_tuple_index, PySem.F.type_tuple_index, ⟨_, e1, e2⟩, fun a e => by cases e; exact ⟨_, e1, e3⟩⟩
  · have e := hx.str
    subst e
    obtain ⟨t, rfl⟩ := rx
    exact ⟨"str", PySem.F.plainAttrs_str, PySem.F.slot_str_split, PySem.F.type_str_split, typeIs_str _ _ _, fun a e => nomatch e⟩
  · have e := hx.str
    subst e
    obtain ⟨t, rfl⟩ := rx
    exact ⟨"str", PySem.F.plainAttrs_str, PySem.F.slot_str_join, PySem.F.type_str_join, typeIs_str _ _ _, fun a e => nomatch e⟩
theorem s_mth {m : Mth} {apos : Pos} {gl : Evn → Rs (List PyData × Evn)} (hu : roomC X) (ha : PE X a (tO X.K W fa)) (he : PA X es (tL X.K W gl)) (hb : baseOk a = true) (hs : es.all nst = true) (hl : es.length < 30) (hne : es ≠ []) (hline : (apos.endLine == pos.line) = true) :
    PE X (.Call (.Attribute a (mName m) apos) es [] pos) (tE X.K W fun env => fa env >>= fun p => der p.2 p.1 >>= fun x0 => grd (mOk m x0) () >>= fun _ => gl p.2 >>= fun q => fin1 mkV (fun x => if sameTy x0 x then methD m x q.1 else stk) p.1 q.2) := by
  refine ⟨fun pins s σ H Q I h => ?_⟩
  obtain ⟨F, env, G, po⟩ := h
  have hfew : ((backTo pos (starEach es X.env)).all (fun x => !x.1) && (backToKw pos (keywordEach [] X.env)).all (fun x => x.1.isSome)
      && decide (es.length + ([] : List Keyword).length + (if ([] : List Keyword).isEmpty then 0 else 1) < 30)) = true := by
    rw [star_all hs]
    show (true && true && decide (es.length + 0 + 0 < 30)) = true
    simpa using hl
  refine wpAny_Call_method_late (base_ok hb) hfew hline rfl (thn (ha.run pins s σ H _ I ⟨F, env, G, Po.of (PoK.next (f1 := fa) (PoK.of po) (.refl G))⟩) fun u s1 ⟨x, H1, I1, rx, q1⟩ => ?_)
  obtain ⟨F1, env1, p, s1', _, r1, e1, po1⟩ := q1
  obtain ⟨x0, hx0, po1⟩ := po1.calc der_nx
  obtain ⟨hm, po1⟩ := po1.guard
  obtain ⟨T, h1, h2, h3, h4, h5⟩ := mth_on I1 rx hm (s1'.good.der r1 hx0)
  refine ⟨T, _, h1, h2, h3, h4, h5, ?_⟩
  have hA := he.run pos pins s1 σ H1 _ I1 ⟨F1, env1, s1'.good, Po.of (PoK.next (f1 := gl) (R1 := ResL X.K) po1 s1')⟩
  match es, hne with
  | e0 :: es', _ =>
    rw [List.all_cons, Bool.and_eq_true] at hs
    rw [star_cons hs.1] at hA ⊢
    refine Calls.callWith_builtin (by show (false || (backTo pos (starEach es' X.env)).any (·.1)) = false; rw [star_any hs.2] <;> rfl) (Calls.evalArgs_plain ?_)
    refine thn hA fun us s2 ⟨vs, H2, I2, r2, q2⟩ => ?_
    obtain ⟨F2, env2, ds, s2', t2', q2, e2, po2⟩ := q2
    obtain ⟨d, z, hd, hz, fin⟩ := po2.fin1
    by_cases hsm : sameTy x0 d = true
    · rw [if_pos hsm] at hz
      exact mt_data hu m x0 hm I2 rx r2 hsm (s2'.good.der (r1.keep s1'.good t2') hd) q2 hz fun v H' mk => by
        obtain ⟨s, q⟩ := mk.res s2'.good
        exact fin.now (s2'.trans s) (q.mono s2'.nw)
    · rw [if_neg hsm] at hz
      exact (not_stk hz).elim

/-! ### isinstance -/
theorem s_inst {t : Ty} {p pt : Pos} (hg : Gl X "isinstance") (hm : X.mg "isinstance" = none) (hg2 : Gl X (tyName t)) (hm2 : X.mg (tyName t) = none) (ha : PE X a (tE X.K W g)) (hn : nst a = true) :
    PE X (.Call (.Name "isinstance" p) [a, .Name (tyName t) pt] [] pos) (tE X.K W fun env => g env >>= fun p => .ok (.d (.bool (instD t p.1.x)), p.2)) := by
  have hT : PE X (.Name (tyName t) pt) (tC (.ty (tyName t))) := by
    refine pe_bltn hg2 hm2 (u := .type (tyName t)) (by cases t <;> rfl) rfl (by cases t <;> decide) (by cases t <;> decide)
  refine peOf (pe_callB call_isi hg hm (by rfl) (pa_cons ha (pa_cons hT pa_nil rfl) (star_cons hn)) (by decide) (by decide) (star_cons hn) rfl) fun σ H Q h => ?_
  obtain ⟨F, env, G, po⟩ := h
  refine ⟨F, env, G, Po.of ((PoK.next (f1 := g) (PoK.of po) (.refl G)).imp ?_)⟩
  intro v H1 ⟨F1, env1, r, s, _, q, e, po1⟩
  exact ⟨v, _, _, _, _, rfl, .ty _, ty_vw q.vw, kit_ty (kit_all t r.x), PoK.now po1 s (.bl _)⟩
end
end Qv

set_option maxRecDepth 100000
set_option maxHeartbeats 1000000
/-! QE: enumerate of a tuple. -/
namespace Qv
open PySem PySem.Spec PyProof.Rows L2 AutoSeq1
theorem enum_new1 {v : Value} {o : Obj} {G : Heap → Prop} (B : Begins v o G) :
    Meets (Builtin.«enumerate.__new__» ⟨[.type "enumerate", v], []⟩) (fun _ R s => G s.heap ∧
      R (.ok (.ret (.ref (s.heap.push o).objs.size)))
        { s with heap := (s.heap.push o).push { cls := .type "enumerate", data := .fields #[.none, .bool false, .ref s.heap.objs.size, rawInt 0, .none, .none] } }) :=
  .of_wp fun prog w A R s h => by
    obtain ⟨hp, g, d, tk, os⟩ := s
    obtain ⟨hl, h⟩ := h
    have hsub := sub_enumerate
    have q1 : ∀ {A : Around} {E : Value → Shared → Prop} {Q : Value → Shared → Prop}, Q (.ref hp.objs.size) ⟨hp.push o, g, d, tk, os⟩ → wpAny (model prog w) A (pyIter v) Q E ⟨hp, g, d, tk, os⟩ := fun q => B.iter prog w _ _ ⟨hp, g, d, tk, os⟩ _ hl q
    wp_walk using q1
    refine wpAny_stack_any fun st => wpAny_pure ?_
    split
    · rename_i c _ _ _ _ _
      cases (c == Value.type "enumerate")
      · wp_walk using q1
        exact ⟨_, rfl, h⟩
      · wp_walk using q1
        exact ⟨_, rfl, h⟩
    · wp_walk using q1
      exact ⟨_, rfl, h⟩
section
variable {prog : Program} {w : World} {A : Around} {E : Value → Shared → Prop} {s : Shared}
theorem call_enum1 {v : Value} {o : Obj} {G : Heap → Prop} {Q : Value → Shared → Prop} (B : Begins v o G) (h1 : G s.heap)
    (h : ∀ h', IsEnum h' (s.heap.objs.size + 1) s.heap.objs.size 0 .none → h'.get? s.heap.objs.size = some o → h'.objs.size = s.heap.objs.size + 2 →
      (∀ b o, s.heap.get? b = some o → h'.get? b = some o) → Q (.ref (s.heap.objs.size + 1)) { s with heap := h' }) :
    wpAny (model prog w) A (call (.type "enumerate") [v]) Q E s := by
  refine callType_new PySem.F.called_enumerate (by decide) (PySem.F.typeCall_enumerate_1 _) (PySem.F.newCall_enumerate_1 _) (fun obj => PySem.F.args_object_init_2 obj _) PySem.F.entry_enumerate_new
    (enum_new1 B) ⟨h1, ?_⟩
  have hz : (s.heap.push o).objs.size = s.heap.objs.size + 1 := Heap.size_push ..
  show _ ∧ _
  rw [hz]
  have he : IsEnum ((s.heap.push o).push { cls := .type "enumerate", data := .fields #[.none, .bool false, .ref s.heap.objs.size, rawInt 0, .none, .none] }) (s.heap.objs.size + 1) s.heap.objs.size 0 .none := by
    have := Heap.get?_push_size (s.heap.push o) (o := { cls := .type "enumerate", data := .fields #[.none, .bool false, .ref s.heap.objs.size, rawInt 0, .none, .none] }) rfl
    rw [hz] at this; exact this
  exact ⟨⟨_, he, rfl⟩, h _ he (Heap.get?_push_of_some _ (Heap.get?_push_size _ B.free)) (by rw [Heap.size_push, hz]) fun b o x => Heap.get?_push_of_some _ (Heap.get?_push_of_some _ x)⟩
end
theorem enum_endT {prog : Program} {w : World} {A : Around} {E : Value → Shared → Prop} {s : Shared} {e it t : Addr} {items : Array Value} {i : Nat} {k : Int} {old : Value} {Q : Option Value → Shared → Prop} (hh : A.handled = none)
    (he : IsEnum s.heap e it k old) (hit : s.heap.IsTupleIter it t i) (ht : s.heap.IsTuple t items) (hx : items[i]? = none)
    (hQ : ∀ h', Heap.ExtBut it s.heap h' → Q none { s with heap := h' }) : wpAny (model prog w) A (pyNext (.ref e)) Q E s := by
  have hT : s.TypeIs (.ref e) "enumerate" := ⟨_, he, rfl⟩
  unfold pyNext
  refine wpAny_bind (wpAny_attempt (wpAny_callSpecial?_slot (name := Str.ofString "__next__") hT PySem.F.slot_enumerate_next
    (wpAny_call_entry PySem.F.slot_enumerate_next hT PySem.F.entry_enumerate_next ?_ (PySem.F.args_enumerate_next_1 _))))
  show wpAny _ _ (field (.ref e) 2 >>= _) _ _ _
  refine wpAny_bind (wpAny_field he rfl (x := .ref it) rfl ?_)
  refine wpAny_bind (wpAny_nextOf_tuple_end hh hit ht hx fun h' x he' hx' => ?_)
  obtain ⟨o, ho, hc⟩ := hx'
  refine wpAny_bind (wpAny_isInstance (T := "StopIteration") (b := true) ⟨o, ho, hc⟩ isSubtype_stop ?_)
  exact wpAny_pure (hQ _ he')
def IteT (K : PySem.W.Frag) (a : Addr) : It :=
  ⟨fun i H => ∃ (xs : List V) (x : V), SqT K H a xs ∧ xs[i]? = some x, fun i H v H' => ∃ T x, v = .ref T ∧ H T = none ∧ H' = upd H T (.tup [.int (i : Nat), x]) ∧ ∀ xs, SqT K H a xs → xs[i]? = some x, fun i H => ∃ xs : List V, SqT K H a xs ∧ xs.length ≤ i⟩
theorem turn_enumT {P : Program} {w : World} {K : PySem.W.Frag} {elts : List Expr} {kk : Nat} {tpos : Pos} (a e it : Addr) (hai : a ≠ it) (hae : a ≠ e) :
    Turn P w K (.Tuple elts kk tpos) (IteT K a) [e, it] e (fun i h => (∃ old, IsEnum h e it ((i : Nat) : Int) old) ∧ h.IsTupleIter it a i ∧ e ≠ it) where
  mem := by simp
  obj := fun i h st b hb => by
    obtain ⟨⟨old, he⟩, ⟨o, ho, hc, hd⟩, _⟩ := st
    have e' : b = e ∨ b = it := by simpa using hb
    rcases e' with z | z
    · rw [z]; exact ⟨_, he, fun v q => nomatch q⟩
    · rw [z]; exact ⟨o, ho, fun v q => by rw [hd] at q; cases q⟩
  keep := fun i h h' st k => let ⟨⟨old, he⟩, hi, hne⟩ := st; ⟨⟨old, k e (by simp) _ he⟩, hi.at fun o q => k it (by simp) o q, hne⟩
  item := by
    intro X hP hw hK hc i pins s σ H E I hf st hg
    subst hP hw hK
    obtain ⟨⟨old, he⟩, hit, hne⟩ := st
    obtain ⟨xs, x, hq, hx⟩ := hg
    obtain ⟨its, rv, p, hz⟩ := I.tuple hq
    obtain ⟨u, hu, ru⟩ := rv.get hx
    have hel : e < s.heap.objs.size := Heap.lt_size he
    have hil : it < s.heap.objs.size := by obtain ⟨_, q, _⟩ := hit; exact Heap.lt_size q
    have hp : s.heap.IsTuple a its.toArray := p
    have hlt : i < its.toArray.size := by
      have := (List.getElem?_eq_some_iff.mp hx).1
      have := rv.length
      simp
      omega
    refine wpAny_pyNext_enum_itemD (Draws.tuple (prog := X.prog) (w := X.w) (A := X.A.in1) (I.ok.hd hc) it a hai its.toArray) he ⟨hit, hp⟩ hlt hne (by simp [hne, hae.symm]) fun y h' tk hy ho st' hT hsz hk => ?_
    have ey : y = u := by
      have e1 : its.toArray[i]? = some u := by simpa using hu
      rw [e1] at hy
      exact (Option.some.inj hy).symm
    subst ey
    refine ⟨_, rfl, wpAny_letOwnedTupleGo_enum (s := { s with heap := h', toks := tk + 1 }) ho fun h'' he' sb => ?_⟩
    have hT2 : h''.get? s.heap.objs.size = some { cls := .type "tuple", data := .seq #[.int i tk, y] } := (sb.2 _ (Nat.ne_of_gt hel)).trans hT
    have new : ObjOk X.prog X.w (upd H s.heap.objs.size (.tup [.int (i : Nat), x])) h'' s.heap.objs.size (.tup [.int (i : Nat), x]) :=
      ⟨by show 2 ≤ sizeLine; decide, [.int i tk, y], .cons ⟨_, rfl⟩ (.cons ru .nil), ⟨_, hT2, rfl, _, rfl⟩⟩
    have I1 : Inv X pins σ (upd H s.heap.objs.size (.tup [.int (i : Nat), x])) { s with heap := h'', toks := tk + 1 } :=
      I.turnedNew (ch := [e, it]) (fun b ob hb q => (sb.2 b (fun z => hb (by simp [z]))).trans (hk b ob (fun z => hb (by simp [z])) (fun z => hb (by simp [z])) q)) hf (Nat.le_refl _) new
    refine ⟨.ref s.heap.objs.size, _, I1, rfl, ⟨_, x, rfl, I.hok.fresh (Nat.le_refl _), rfl, fun ys hy => by rw [I.tuple_inj hy hq]; exact hx⟩, ⟨⟨y, ?_⟩, st'.1.at fun o q => (sb.2 it (Ne.symm hne)).trans q, hne⟩, fun b hb => ?_⟩
    · have e1 : ((i + 1 : Nat) : Int) = (i : Int) + 1 := by omega
      rw [e1]; exact he'
    · have hb' : b < s.heap.objs.size := by
        have e' : b = e ∨ b = it := by simpa using hb
        rcases e' with z | z
        · rw [z]; exact hel
        · rw [z]; exact hil
      rw [upd_ne (Nat.ne_of_lt hb')]
      exact (hf b hb).1
  done := by
    intro X hP hw hK hc i pins s σ H E I hf st hg
    subst hP hw hK
    obtain ⟨⟨old, he⟩, hit, hne⟩ := st
    obtain ⟨xs, hq, hx⟩ := hg
    obtain ⟨its, rv, p, hz⟩ := I.tuple hq
    obtain ⟨f0, f1, f2, f3, f4, f5⟩ := hf it (by simp)
    have hl := rv.length
    have hp : s.heap.IsTuple a its.toArray := p
    have he0 : its.toArray[i]? = none := Array.getElem?_eq_none (by simp; omega)
    refine enum_endT (I.ok.hd hc) he hit hp he0 fun h' eb => ⟨rfl, I.turned (t' := s.toks) (fun b o hb q => eb b o hb q) f0 f1 f3 f4 f5⟩
  self := fun A i s Q E st h => let ⟨⟨_, he⟩, _⟩ := st; wpAny_pyIter_enum he h
end Qv

set_option maxRecDepth 100000
set_option maxHeartbeats 1000000
/-! Q9: frames whose names are stored; iterators, targets. -/
namespace Qv
open PySem PySem.Spec PyProof.Rows L2
section
variable {K : PySem.W.Frag} {F F' F1 F2 : Addr → Prop} {H H' H1 H2 : Hp} {env env' env1 env2 : Evn} {σ σ' σ1 σ2 : L2.St} {a : Addr} {v : V}
/-- the slot i is forgotten -/
theorem Good.drop1 (g : Good K F H env σ) (i : Nat) : Good K F H (env.set i none) (σ.set i none) := by
  have un : ∀ (j : Nat) (x : Vl), (env.set i none)[j]? = some (some x) → i ≠ j ∧ env[j]? = some (some x) := fun j x h => by
    by_cases e : i = j
    · subst e
      by_cases hl : i < env.length
      · rw [List.getElem?_set_self hl] at h
        cases h
      · rw [List.getElem?_eq_none (by rw [List.length_set]; omega)] at h
        cases h
    · rw [List.getElem?_set_ne e] at h
      exact ⟨e, h⟩
  refine ⟨by rw [List.length_set, List.length_set]; exact g.len, fun j d h => ?_, fun j d h => ?_, fun j k d e a h1 h2 h3 h4 => ?_, g.dom⟩
  · obtain ⟨n, h⟩ := un j _ h
    obtain ⟨v, e, r⟩ := g.sh j d h
    exact ⟨v, by rw [List.getElem?_set_ne n]; exact e, r⟩
  · obtain ⟨n, h⟩ := un j _ h
    obtain ⟨a, e, r⟩ := g.ow j d h
    exact ⟨a, by rw [List.getElem?_set_ne n]; exact e, r⟩
  · obtain ⟨n1, h1⟩ := un j _ h1
    obtain ⟨n2, h2⟩ := un k _ h2
    rw [List.getElem?_set_ne n1] at h3
    rw [List.getElem?_set_ne n2] at h4
    exact g.inj j k d e a h1 h2 h3 h4
theorem own_drop1 {i : Nat} (h : Ownd (env.set i none) (σ.set i none) a) : Ownd env σ a := by
  obtain ⟨j, d, h1, h2⟩ := h
  by_cases e : i = j
  · subst e
    by_cases hl : i < env.length
    · rw [List.getElem?_set_self hl] at h1
      cases h1
    · rw [List.getElem?_eq_none (by rw [List.length_set]; omega)] at h1
      cases h1
  · rw [List.getElem?_set_ne e] at h1 h2
    exact ⟨j, d, h1, h2⟩
theorem Good.wipe (g : Good K F H env σ) : ∀ vs : List Nat, Good K F H (wipeE env vs) (wipe σ vs)
  | [] => g
  | v :: vs => (Good.wipe g vs).drop1 v
theorem own_wipe : ∀ {vs : List Nat}, Ownd (wipeE env vs) (wipe σ vs) a → Ownd env σ a
  | [], h => h
  | v :: vs, h => own_wipe (vs := vs) (own_drop1 h)
/-- a store -/
theorem Good.set (g : Good K F H env σ) (i : Nat) {r : Vl} {N : Addr → Prop} (q : ResV K σ N F H env v r) : Good K F H (env.set i (some r)) (σ.set i (some v)) := by
  have un : ∀ (j : Nat) (x : Vl), (env.set i (some r))[j]? = some (some x) → (i = j ∧ i < env.length ∧ x = r) ∨ i ≠ j ∧ env[j]? = some (some x) := fun j x h => by
    by_cases e : i = j
    · subst e
      by_cases hl : i < env.length
      · rw [List.getElem?_set_self hl] at h
        cases h
        exact .inl ⟨rfl, hl, rfl⟩
      · rw [List.getElem?_eq_none (by rw [List.length_set]; omega)] at h
        cases h
    · rw [List.getElem?_set_ne e] at h
      exact .inr ⟨e, h⟩
  have self : i < env.length → (σ.set i (some v))[i]? = some (some v) := fun hl => List.getElem?_set_self (by rw [g.len]; exact hl)
  refine ⟨by rw [List.length_set, List.length_set]; exact g.len, fun j d h => ?_, fun j d h => ?_, fun j k d e a h1 h2 h3 h4 => ?_, g.dom⟩
  · rcases un j _ h with ⟨rfl, hl, rfl⟩ | ⟨n, h⟩
    · exact ⟨v, self hl, q⟩
    · obtain ⟨v, e, r⟩ := g.sh j d h
      exact ⟨v, by rw [List.getElem?_set_ne n]; exact e, r⟩
  · rcases un j _ h with ⟨rfl, hl, rfl⟩ | ⟨n, h⟩
    · obtain ⟨a, e, n, o, c, _⟩ := q
      subst e
      exact ⟨a, self hl, n, c⟩
    · obtain ⟨a, e, r⟩ := g.ow j d h
      exact ⟨a, by rw [List.getElem?_set_ne n]; exact e, r⟩
  · rcases un j _ h1 with ⟨rfl, hl, e1⟩ | ⟨n1, h1⟩
    · rcases un k _ h2 with ⟨e2, _, _⟩ | ⟨n2, h2'⟩
      · exact e2
      · rw [self hl] at h3
        cases h3
        rw [List.getElem?_set_ne n2] at h4
        rw [← e1] at q
        obtain ⟨b, eb, _, o, _, _⟩ := q
        cases eb
        exact absurd ⟨k, e, h2', h4⟩ o
    · rcases un k _ h2 with ⟨rfl, hl, e2⟩ | ⟨n2, h2⟩
      · rw [self hl] at h4
        cases h4
        rw [List.getElem?_set_ne n1] at h3
        rw [← e2] at q
        obtain ⟨b, eb, _, o, _, _⟩ := q
        cases eb
        exact absurd ⟨j, d, h1, h3⟩ o
      · rw [List.getElem?_set_ne n1] at h3
        rw [List.getElem?_set_ne n2] at h4
        exact g.inj j k d e a h1 h2 h3 h4
theorem own_set {i : Nat} {r : Vl} {N : Addr → Prop} (q : ResV K σ N F H env v r) (h : Ownd (env.set i (some r)) (σ.set i (some v)) a) : Ownd env σ a ∨ ((∃ x, r = .o x) ∧ v = .ref a) := by
  obtain ⟨j, d, h1, h2⟩ := h
  by_cases e : i = j
  · subst e
    by_cases hl : i < env.length
    · rw [List.getElem?_set_self hl] at h1
      cases h1
      by_cases hl2 : i < σ.length
      · rw [List.getElem?_set_self hl2] at h2
        cases h2
        exact .inr ⟨⟨_, rfl⟩, rfl⟩
      · rw [List.getElem?_eq_none (by rw [List.length_set]; omega)] at h2
        cases h2
    · rw [List.getElem?_eq_none (by rw [List.length_set]; omega)] at h1
      cases h1
  · rw [List.getElem?_set_ne e] at h1 h2
    exact .inl ⟨j, d, h1, h2⟩
/-- from one state to a later one, names may be stored; the slots pr stay -/
structure AftS (K : PySem.W.Frag) (pr : List Nat) (F : Addr → Prop) (H : Hp) (env : Evn) (σ : L2.St) (F' : Addr → Prop) (H' : Hp) (env' : Evn) (σ' : L2.St) : Prop where
  good : Good K F' H' env' σ'
  stp : Stp (Ownd env σ) F H F' H'
  sub : ∀ a, Ownd env' σ' a → Ownd env σ a ∨ H a = none
  pr : ∀ i ∈ pr, σ'[i]? = σ[i]?
theorem AftS.refl {pr : List Nat} (g : Good K F H env σ) : AftS K pr F H env σ F H env σ := ⟨g, .refl _ _ _, fun _ h => .inl h, fun _ _ => rfl⟩
theorem Aft.s {pr : List Nat} (s : Aft K F H env σ F' H' env') : AftS K pr F H env σ F' H' env' σ := ⟨s.good, s.stp, fun a h => .inl (s.sub a h), fun _ _ => rfl⟩
theorem AftS.trans {pr : List Nat} (s : AftS K pr F H env σ F1 H1 env1 σ1) (t : AftS K pr F1 H1 env1 σ1 F2 H2 env2 σ2) : AftS K pr F H env σ F2 H2 env2 σ2 :=
  ⟨t.good, s.stp.trans t.stp fun a h => s.sub a h, fun a h => by
    rcases t.sub a h with h | h
    · exact s.sub a h
    · cases e : H a with
      | none => exact .inr rfl
      | some o => exact absurd h (s.stp.dom a (by rw [e]; simp)), fun i hi => (t.pr i hi).trans (s.pr i hi)⟩
theorem AftS.kp {pr : List Nat} (g : Good K F H env σ) (s : AftS K pr F H env σ F1 H1 env1 σ1) : Kp F H F1 H1 := g.kp s.stp
theorem AftS.set {pr : List Nat} (s : AftS K pr F H env σ F1 H1 env1 σ1) {i : Nat} (hi : i ∉ pr) {r : Vl} {N : Addr → Prop} (q : ResV K σ1 N F1 H1 env1 v r) (hn : ∀ a, N a → Ownd env σ a ∨ H a = none) : AftS K pr F H env σ F1 H1 (env1.set i (some r)) (σ1.set i (some v)) :=
  ⟨s.good.set i q, s.stp, fun a h => by
    rcases own_set q h with h | ⟨⟨x, e⟩, e2⟩
    · exact s.sub a h
    · subst e
      obtain ⟨b, e3, _, _, _, n⟩ := q
      rw [e2] at e3
      cases e3
      exact hn a n, fun j hj => by
    have ne : i ≠ j := fun e => by subst e; exact hi hj
    rw [List.getElem?_set_ne ne]
    exact s.pr j hj⟩

/-! ### what a turn brings -/
/-- the item x bears d; under tp a pair that was just laid will do -/
def Brg (K : PySem.W.Frag) (tp : Bool) (F : Addr → Prop) (H : Hp) (x : V) (d : PyData) : Prop := Rp K F H x d ∨ (tp = true ∧ ∃ a vs ds, x = .ref a ∧ SqT K H a vs ∧ d = .tuple ds ∧ RpA K F H vs ds)
theorem Brg.parts {tp : Bool} {x : V} {ds : List PyData} (h : Brg K tp F H x (.tuple ds)) : ∃ a vs, x = .ref a ∧ SqT K H a vs ∧ RpA K F H vs ds := by
  rcases h with h | ⟨_, a, vs, es, h1, h2, h3, h4⟩
  · cases h with
    | tup h1 h2 => exact ⟨_, _, rfl, h1.sqT, h2⟩
  · cases h3
    exact ⟨a, vs, h1, h2, h4⟩
/-- an iterator over the data xs -/
def ItrOk (K : PySem.W.Frag) (tp : Bool) (J : It) (F : Addr → Prop) (H : Hp) (xs : List PyData) : Prop :=
  ∀ F' H', Kp F H F' H' → ∀ i, (i = xs.length → J.stop i H') ∧ (∀ d, xs[i]? = some d → J.go i H' ∧ ∀ x H'', J.yld i H' x H'' → Same H' H'' ∧ Brg K tp F' H'' x d)
def ResI (K : PySem.W.Frag) (tp : Bool) : (Addr → Prop) → (Addr → Prop) → Hp → Evn → It → List PyData → Prop := fun _ F H _ J xs => ItrOk K tp J F H xs
def tI (K : PySem.W.Frag) (W : WX) (tp : Bool) (f : Evn → Rs (List PyData × Evn)) : TI := fun σ H R => ∃ F env, Good K F H env σ ∧ Po K W (ResI K tp) f F env σ H R
theorem itr_list {tp : Bool} {a : Addr} {ds : List PyData} (h : Rp K F H (.ref a) (.list ds)) : ItrOk K tp (Itl K a) F H ds := fun F' H' k i => by
  obtain ⟨b, xs, e, h1, h2⟩ := Vw.lst (.inl (h.keep k))
  cases e
  refine ⟨fun e => ⟨xs, h1, by rw [h2.len]; omega⟩, fun d hd => ?_⟩
  obtain ⟨x, e1, r⟩ := h2.get' hd
  refine ⟨⟨xs, x, h1, e1⟩, fun y H'' ⟨e2, e3⟩ => ?_⟩
  subst e2
  have := e3 xs h1
  rw [e1] at this
  cases this
  exact ⟨fun _ _ h => h, .inl r⟩
theorem itr_tup {tp : Bool} {a : Addr} {ds : List PyData} (h : Rp K F H (.ref a) (.tuple ds)) : ItrOk K tp (Itt K a) F H ds := fun F' H' k i => by
  obtain ⟨b, xs, e, h1, h2⟩ := Vw.tup (.inl (h.keep k))
  cases e
  have h1 := h1.sqT
  refine ⟨fun e => ⟨xs, h1, by rw [h2.len]; omega⟩, fun d hd => ?_⟩
  obtain ⟨x, e1, r⟩ := h2.get' hd
  refine ⟨⟨xs, x, h1, e1⟩, fun y H'' ⟨e2, e3⟩ => ?_⟩
  subst e2
  have := e3 xs h1
  rw [e1] at this
  cases this
  exact ⟨fun _ _ h => h, .inl r⟩
theorem itr_rng {tp : Bool} {lo : Int} {n : Nat} : ItrOk K tp (L2.Itr lo n) F H ((List.range n).map fun k : Nat => PyData.int (lo + k)) := fun F' H' k i => by
  refine ⟨fun e => ?_, fun d hd => ?_⟩
  · show n ≤ i
    simp at e
    omega
  · rw [List.getElem?_map] at hd
    obtain ⟨j, e1, e2⟩ := Option.map_eq_some_iff.mp hd
    rw [List.getElem?_eq_some_iff] at e1
    obtain ⟨hl, e1⟩ := e1
    simp at e1 hl
    subst e1 e2
    refine ⟨hl, fun x H'' ⟨e2, e3⟩ => ?_⟩
    subst e2 e3
    exact ⟨fun _ _ h => h, .inl (.int _)⟩
theorem itr_str {tp : Bool} {x : Str} : ItrOk K tp (Its x) F H (x.cps.toList.map fun c => .str ⟨#[c]⟩) := fun F' H' k i => by
  refine ⟨fun e => ?_, fun d hd => ?_⟩
  · show x.cps.size ≤ i
    simp at e
    omega
  · rw [List.getElem?_map] at hd
    obtain ⟨c, e1, e2⟩ := Option.map_eq_some_iff.mp hd
    subst e2
    have e1 : x.cps[i]? = some c := by simpa using e1
    refine ⟨(Array.getElem?_eq_some_iff.mp e1).1, fun y H'' ⟨e2, c', e3, e4⟩ => ?_⟩
    subst e2 e4
    rw [e1] at e3
    cases e3
    exact ⟨fun _ _ h => h, .inl (.str _)⟩
theorem brg_pair {T : Addr} {x y : V} {d e : PyData} (hT : H T = none) (h1 : Rp K F H x d) (h2 : Rp K F H y e) : Same H (upd H T (.tup [x, y])) ∧ Brg K true F (upd H T (.tup [x, y])) (.ref T) (.tuple [d, e]) :=
  have s := same_new hT
  ⟨s, .inr ⟨rfl, T, [x, y], [d, e], rfl, .of upd_same, rfl, .cons (h1.keep (Same.kp s)) (.cons (h2.keep (Same.kp s)) .nil)⟩⟩
theorem itr_enu {a : Addr} {ds : List PyData} (h : Rp K F H (.ref a) (.list ds)) : ItrOk K true (Ite K a) F H (ds.zipIdx.map fun (x, k) => PyData.tuple [.int k, x]) := fun F' H' k i => by
  obtain ⟨b, xs, e, h1, h2⟩ := Vw.lst (.inl (h.keep k))
  cases e
  refine ⟨fun e => ⟨xs, h1, by rw [h2.len]; simp at e; omega⟩, fun d hd => ?_⟩
  rw [List.getElem?_map, List.getElem?_zipIdx] at hd
  obtain ⟨p, e1, e2⟩ := Option.map_eq_some_iff.mp hd
  obtain ⟨d0, e0, e1⟩ := Option.map_eq_some_iff.mp e1
  subst e1 e2
  obtain ⟨x, e1, r⟩ := h2.get' e0
  refine ⟨⟨xs, x, h1, e1⟩, fun y H'' ⟨T, z, e2, e3, e4, e5⟩ => ?_⟩
  have := e5 xs h1
  rw [e1] at this
  cases this
  subst e2 e4
  have := brg_pair e3 (.int (i : Nat) : Rp K F' H' _ _) r
  simpa using this
theorem itr_enuT {a : Addr} {ds : List PyData} (h : Rp K F H (.ref a) (.tuple ds)) : ItrOk K true (IteT K a) F H (ds.zipIdx.map fun (x, k) => PyData.tuple [.int k, x]) := fun F' H' k i => by
  obtain ⟨b, xs, e, h1, h2⟩ := Vw.tup (.inl (h.keep k))
  cases e
  have h1 := h1.sqT
  refine ⟨fun e => ⟨xs, h1, by rw [h2.len]; simp at e; omega⟩, fun d hd => ?_⟩
  rw [List.getElem?_map, List.getElem?_zipIdx] at hd
  obtain ⟨p, e1, e2⟩ := Option.map_eq_some_iff.mp hd
  obtain ⟨d0, e0, e1⟩ := Option.map_eq_some_iff.mp e1
  subst e1 e2
  obtain ⟨x, e1, r⟩ := h2.get' e0
  refine ⟨⟨xs, x, h1, e1⟩, fun y H'' ⟨T, z, e2, e3, e4, e5⟩ => ?_⟩
  have := e5 xs h1
  rw [e1] at this
  cases this
  subst e2 e4
  have := brg_pair e3 (.int (i : Nat) : Rp K F' H' _ _) r
  simpa using this
theorem zip_get {ds es : List PyData} {i : Nat} {d : PyData} (h : ((ds.zip es).map fun (x, y) => PyData.tuple [x, y])[i]? = some d) : ∃ x y, ds[i]? = some x ∧ es[i]? = some y ∧ d = .tuple [x, y] := by
  rw [List.getElem?_map] at h
  obtain ⟨p, e1, e2⟩ := Option.map_eq_some_iff.mp h
  rw [List.getElem?_zip_eq_some] at e1
  exact ⟨p.1, p.2, e1.1, e1.2, e2.symm⟩
theorem itr_zip {a b : Addr} {ds es : List PyData} (h : Rp K F H (.ref a) (.list ds)) (g : Rp K F H (.ref b) (.list es)) : ItrOk K true (Itz K a b) F H ((ds.zip es).map fun (x, y) => PyData.tuple [x, y]) := fun F' H' k i => by
  obtain ⟨_, xs, e, h1, h2⟩ := Vw.lst (.inl (h.keep k))
  cases e
  obtain ⟨_, ys, e, g1, g2⟩ := Vw.lst (.inl (g.keep k))
  cases e
  refine ⟨fun e => ⟨xs, ys, h1, g1, by rw [h2.len, g2.len]; simp at e; omega⟩, fun d hd => ?_⟩
  obtain ⟨d1, d2, e1, e2, rfl⟩ := zip_get hd
  obtain ⟨x, e1, r⟩ := h2.get' e1
  obtain ⟨y, e2, r2⟩ := g2.get' e2
  refine ⟨⟨xs, ys, x, y, h1, g1, e1, e2⟩, fun z H'' ⟨T, x', y', e3, e4, e5, e6, e7⟩ => ?_⟩
  have q1 := e6 xs h1
  have q2 := e7 ys g1
  rw [e1] at q1
  rw [e2] at q2
  cases q1
  cases q2
  subst e3 e5
  exact brg_pair e4 r r2
theorem itr_zipT {a b : Addr} {ds es : List PyData} (h : Rp K F H (.ref a) (.tuple ds)) (g : Rp K F H (.ref b) (.tuple es)) : ItrOk K true (RZ.ItzT K a b) F H ((ds.zip es).map fun (x, y) => PyData.tuple [x, y]) := fun F' H' k i => by
  obtain ⟨_, xs, e, h1, h2⟩ := Vw.tup (.inl (h.keep k))
  cases e
  obtain ⟨_, ys, e, g1, g2⟩ := Vw.tup (.inl (g.keep k))
  cases e
  have h1 := h1.sqT
  have g1 := g1.sqT
  refine ⟨fun e => ⟨xs, ys, h1, g1, by rw [h2.len, g2.len]; simp at e; omega⟩, fun d hd => ?_⟩
  obtain ⟨d1, d2, e1, e2, rfl⟩ := zip_get hd
  obtain ⟨x, e1, r⟩ := h2.get' e1
  obtain ⟨y, e2, r2⟩ := g2.get' e2
  refine ⟨⟨xs, ys, x, y, h1, g1, e1, e2⟩, fun z H'' ⟨T, x', y', e3, e4, e5, e6, e7⟩ => ?_⟩
  have q1 := e6 xs h1
  have q2 := e7 ys g1
  rw [e1] at q1
  rw [e2] at q2
  cases q1
  cases q2
  subst e3 e5
  exact brg_pair e4 r r2
end
end Qv

set_option maxRecDepth 100000
set_option maxHeartbeats 1000000
/-! Q9b: iterators of expressions, targets. -/
namespace Qv
open PySem PySem.Spec PyProof.Rows L2
section
variable {X : Cx} {W : WX} {a b c : Expr} {e tg : Expr} {pos : Pos} {g g' : Evn → Rs (Vl × Evn)} {pins : List (Addr × Obj)} {σ : L2.St} {H : Hp} {s : Shared} {F : Addr → Prop}
theorem iter_any {tp : Bool} {x : V} {v : Value} {d : PyData} {xs : List PyData} {R : It → Hp → Prop} (I : Inv X pins σ H s) (rx : RelV x v) (hx : Rp X.K F H x d) (hi : itemsD d = .ok xs) (q : ∀ J, ItrOk X.K tp J F H xs → R J H) :
    wpAny (model X.prog X.w) X.A (pyIter v) (PIE X pins σ tg R) X.xe s := by
  cases d with
  | list ds =>
    obtain rfl := ok_in hi
    obtain ⟨a, ys, e, h1, h2⟩ := Vw.lst (.inl hx)
    subst e
    cases rx
    obtain ⟨its, rv, p, hz⟩ := I.list h1
    refine wpAny_pyIter_list p.isList ?_
    refine ⟨s.heap.objs.size, [s.heap.objs.size], _, _, H, rfl, I.kept (t' := s.toks) fun b o e => Heap.get?_push_of_some _ e, turn_list a _, ⟨_, Heap.get?_push_size _ rfl, rfl, rfl⟩, fun b hb => ?_, q _ (itr_list hx)⟩
    have e : b = s.heap.objs.size := by simpa using hb
    subst e
    exact I.fpOk (Nat.le_refl _) (I.hok.fresh (Nat.le_refl _))
  | tuple ds =>
    obtain rfl := ok_in hi
    obtain ⟨a, ys, e, h1, h2⟩ := Vw.tup (.inl hx)
    subst e
    cases rx
    obtain ⟨its, rv, p, hz⟩ := I.tuple h1.sqT
    refine wpAny_pyIter_tuple (show s.heap.IsTuple a its.toArray from p) ?_
    refine ⟨s.heap.objs.size, [s.heap.objs.size], _, _, H, rfl, I.kept (t' := s.toks) fun b o e => Heap.get?_push_of_some _ e, turn_tuple a _, ⟨_, Heap.get?_push_size _ rfl, rfl, rfl⟩, fun b hb => ?_, q _ (itr_tup hx)⟩
    have e : b = s.heap.objs.size := by simpa using hb
    subst e
    exact I.fpOk (Nat.le_refl _) (I.hok.fresh (Nat.le_refl _))
  | str y =>
    obtain rfl := ok_in hi
    cases hx
    obtain ⟨t, rfl⟩ := rx
    cases ha : y.cps.all (· < 128)
    · exact wpAny_pyIter_wide ha (pi_one I _ (turn_str _ y t "str_iterator" (.inr rfl)) ⟨_, Heap.get?_push_size _ rfl, rfl, rfl⟩ (q _ itr_str))
    · exact wpAny_pyIter_ascii ha (pi_one I _ (turn_str _ y t "str_ascii_iterator" (.inl rfl)) ⟨_, Heap.get?_push_size _ rfl, rfl, rfl⟩ (q _ itr_str))
  | _ => exact (not_stk hi).elim
def srcF (g : Evn → Rs (Vl × Evn)) : Evn → Rs (List PyData × Evn) := fun env => g env >>= fun p => match itemsD p.1.x with
  | .ok xs => .ok (xs, p.2)
  | .error _ => stk
theorem i_src {tp : Bool} (h : PE X e (tE X.K W g)) : PI X tg e (tI X.K W tp (srcF g)) := by
  refine ⟨fun pins s σ H R I h0 => ?_⟩
  obtain ⟨F, env, G, po⟩ := h0
  refine thn (h.run pins s σ H _ I ⟨F, env, G, Po.of (PoK.next (f1 := g) (PoK.of po) (.refl G))⟩) fun v s1 ⟨x, H1, I1, rx, q1⟩ => ?_
  obtain ⟨F1, env1, r, s1', _, q, e, po1⟩ := q1
  obtain ⟨F1', s', k', rp⟩ := s1'.share q fun _ h => h
  cases e2 : itemsD r.x with
  | error y =>
    rw [e2] at po1
    exact po1.elim
  | ok xs =>
    rw [e2] at po1
    exact iter_any I1 rx rp e2 fun J hJ => PoK.now (R := ResI X.K tp) po1 s' hJ
def rng1F (g : Evn → Rs (Vl × Evn)) : Evn → Rs (List PyData × Evn) := fun env => g env >>= fun p => match p.1 with
  | .d (.int n) => grd (decide (-(lim : Int) ≤ n) && decide (n ≤ lim)) ((List.range n.toNat).map fun (k : Nat) => PyData.int k, p.2)
  | _ => stk
def rng2F (g g' : Evn → Rs (Vl × Evn)) : Evn → Rs (List PyData × Evn) := fun env => g env >>= fun p => g' p.2 >>= fun q => match p.1, q.1 with
  | .d (.int i), .d (.int j) => grd (decide (-(lim : Int) ≤ i) && decide (i ≤ lim) && decide (-(lim : Int) ≤ j) && decide (j ≤ lim)) ((List.range (j - i).toNat).map fun (k : Nat) => PyData.int (i + k), q.2)
  | _, _ => stk
theorem i_rng1 {tp : Bool} {p : Pos} (hg : Gl X "range") (hm : X.mg "range" = none) (ha : PE X a (tE X.K W g)) (hn : nst a = true) : PI X tg (.Call (.Name "range" p) [a] [] pos) (tI X.K W tp (rng1F g)) := by
  refine ⟨fun pins s σ H R I h => (pi_range1 (ta := tCons (tE X.K W g) tNil) hg hm (pa_cons ha pa_nil (star_cons hn)) (star_cons hn)).run pins s σ H R I ?_⟩
  obtain ⟨F, env, G, po⟩ := h
  refine ⟨F, env, G, Po.of ((PoK.next (f1 := g) (PoK.of po) (.refl G)).imp ?_)⟩
  intro v H1 ⟨F1, env1, r, s, t, q, e, po1⟩
  cases r with
  | o x => exact po1.elim
  | d x =>
    cases x <;> try exact po1.elim
    rename_i n
    cases q
    obtain ⟨hz, po1⟩ := PoK.grd po1
    obtain ⟨h1, h2⟩ := ba2 hz
    have h1 := of_decide_eq_true h1
    have h2 := of_decide_eq_true h2
    have ll : (lim : Int) = 16000000 := rfl
    refine ⟨n, rfl, by omega, by omega, ?_⟩
    have := itr_rng (K := X.K) (tp := tp) (F := F1) (H := H1) (lo := 0) (n := n.toNat)
    simp only [Int.zero_add] at this
    exact PoK.now (R := ResI X.K tp) po1 s this
theorem i_rng2 {tp : Bool} {p : Pos} (hg : Gl X "range") (hm : X.mg "range" = none) (ha : PE X a (tE X.K W g)) (hb : PE X b (tE X.K W g')) (hn : nst a = true) (hn2 : nst b = true) : PI X tg (.Call (.Name "range" p) [a, b] [] pos) (tI X.K W tp (rng2F g g')) := by
  refine ⟨fun pins s σ H R I h => (pi_range2 (ta := tCons (tE X.K W g) (tCons (tE X.K W g') tNil)) hg hm (pa_cons ha (pa_cons hb pa_nil (star_cons hn2)) (star_cons hn)) (by rw [star_cons hn, star_cons hn2]; rfl) (star_cons hn2)).run pins s σ H R I ?_⟩
  obtain ⟨F, env, G, po⟩ := h
  refine ⟨F, env, G, Po.of ((PoK.next (f1 := g) (PoK.of po) (.refl G)).imp ?_)⟩
  intro v H1 ⟨F1, env1, r, s, t, q, e, po1⟩
  refine ⟨F1, env1, s.good, (PoK.next (f1 := g') (R1 := ResV X.K σ) po1 s).imp ?_⟩
  intro v2 H2 ⟨F2, env2, r2, s2, t2, q2, e2, po2⟩
  cases r with
  | o x => exact po2.elim
  | d x =>
    cases x <;> try exact po2.elim
    rename_i i
    cases r2 with
    | o x => exact po2.elim
    | d x =>
      cases x <;> try exact po2.elim
      rename_i j
      cases q
      cases q2
      obtain ⟨hz, po1⟩ := PoK.grd po2
      obtain ⟨hz, h4⟩ := ba2 hz
      obtain ⟨hz, h3⟩ := ba2 hz
      obtain ⟨h1, h2⟩ := ba2 hz
      have h1 := of_decide_eq_true h1
      have h2 := of_decide_eq_true h2
      have h3 := of_decide_eq_true h3
      have h4 := of_decide_eq_true h4
      have ll : (lim : Int) = 16000000 := rfl
      refine ⟨i, j, rfl, ⟨by omega, by omega, by omega, by omega⟩, ?_⟩
      exact PoK.now (R := ResI X.K tp) po1 s2 itr_rng
def enuF (g : Evn → Rs (Vl × Evn)) : Evn → Rs (List PyData × Evn) := fun env => g env >>= fun p => match p.1.x with
  | .list xs => .ok (xs.zipIdx.map fun (x, k) => PyData.tuple [.int k, x], p.2)
  | .tuple xs => .ok (xs.zipIdx.map fun (x, k) => PyData.tuple [.int k, x], p.2)
  | _ => stk
theorem i_enu {p tpos : Pos} {elts : List Expr} {kk : Nat} (hg : Gl X "enumerate") (hm : X.mg "enumerate" = none) (ha : PE X a (tE X.K W g)) (hn : nst a = true) : PI X (.Tuple elts kk tpos) (.Call (.Name "enumerate" p) [a] [] pos) (tI X.K W true (enuF g)) := by
  refine ⟨fun pins s σ H R I h => ?_⟩
  obtain ⟨F, env, G, po⟩ := h
  have hA : PA X [a] (tCons (tE X.K W g) tNil) := pa_cons ha pa_nil (star_cons hn)
  have key : tCons (tE X.K W g) tNil σ H (fun vs H1 => ∃ v F1 env1 r, vs = [v] ∧ Aft X.K F H env σ F1 H1 env1 ∧ ResV X.K σ (Nw H env σ) F1 H1 env1 v r ∧ PoK X.K W (ResI X.K true) (match r.x with
    | .list xs => .ok (xs.zipIdx.map fun (x, k) => PyData.tuple [.int k, x], env1)
    | .tuple xs => .ok (xs.zipIdx.map fun (x, k) => PyData.tuple [.int k, x], env1)
    | _ => stk) F env σ H R) := by
    refine ⟨F, env, G, Po.of ((PoK.next (f1 := g) (PoK.of po) (.refl G)).imp ?_)⟩
    intro v H1 ⟨F1, env1, r, s, t, q, e, po1⟩
    exact ⟨v, F1, env1, r, rfl, s, q, po1⟩
  refine Call_ (ld_blt I hg hm boot_enumerate (PyProof.Rows.callWith_type1 (thn (hA.run pos pins s σ H _ I key) fun us s1 ⟨vs, H1, I1, r1, q1⟩ => ?_) (star_cons hn) rfl))
  obtain ⟨v, F1, env1, r, ev, s1', q, po1⟩ := q1
  subst ev
  obtain ⟨u, rfl, rx⟩ := vals1 r1
  obtain ⟨F1', s', k', rp⟩ := s1'.share q fun _ h => h
  have fp2 : ∀ b ∈ [s1.heap.objs.size + 1, s1.heap.objs.size], FpOk X pins H1 b := fun b hb => by
    have e' : b = s1.heap.objs.size + 1 ∨ b = s1.heap.objs.size := by simpa using hb
    have hle : s1.heap.objs.size ≤ b := by
      rcases e' with z | z
      · rw [z]; exact Nat.le_add_right _ _
      · rw [z]; exact Nat.le_refl _
    exact I1.fpOk hle (I1.hok.fresh hle)
  cases e2 : r.x with
  | list ds =>
    rw [e2] at po1 rp
    obtain ⟨l, xs, ev, h1, h2⟩ := Vw.lst (.inl rp)
    subst ev
    cases rx
    obtain ⟨its, rv, p', hz⟩ := I1.list h1
    refine call_enumerate_list p'.isList fun h' he hit hsz hk => wpAny_pyIter_enum he ?_
    have I2 : Inv X pins σ H1 { s1 with heap := h' } := I1.kept (t' := s1.toks) hk
    exact ⟨s1.heap.objs.size + 1, [s1.heap.objs.size + 1, s1.heap.objs.size], _, _, H1, rfl, I2, turn_enum l (s1.heap.objs.size + 1) s1.heap.objs.size, ⟨⟨.none, he⟩, hit, Nat.succ_ne_self _⟩, fp2, PoK.now (R := ResI X.K true) po1 s' (itr_enu rp)⟩
  | tuple ds =>
    rw [e2] at po1 rp
    obtain ⟨l, xs, ev, h1, h2⟩ := Vw.tup (.inl rp)
    subst ev
    cases rx
    obtain ⟨its, rv, p', hz⟩ := I1.tuple h1.sqT
    have hl : s1.heap.IsTuple l its.toArray := p'
    have ll : l < s1.heap.objs.size := let ⟨o, e, _⟩ := hl; Heap.lt_size e
    refine call_enum1 (begins_tuple l its.toArray) hl fun h' he hit hsz hk => wpAny_pyIter_enum he ?_
    have I2 : Inv X pins σ H1 { s1 with heap := h' } := I1.kept (t' := s1.toks) hk
    exact ⟨s1.heap.objs.size + 1, [s1.heap.objs.size + 1, s1.heap.objs.size], _, _, H1, rfl, I2, turn_enumT l (s1.heap.objs.size + 1) s1.heap.objs.size (Nat.ne_of_lt ll) (Nat.ne_of_lt (Nat.lt_succ_of_lt ll)), ⟨⟨.none, he⟩, ⟨_, hit, rfl, rfl⟩, Nat.succ_ne_self _⟩, fp2, PoK.now (R := ResI X.K true) po1 s' (itr_enuT rp)⟩
  | _ => rw [e2] at po1; exact po1.elim
def zipF (g g' : Evn → Rs (Vl × Evn)) : Evn → Rs (List PyData × Evn) := fun env => g env >>= fun p => g' p.2 >>= fun q => match p.1.x, q.1.x with
  | .list xs, .list ys => .ok ((xs.zip ys).map fun (x, y) => PyData.tuple [x, y], q.2)
  | .tuple xs, .tuple ys => .ok ((xs.zip ys).map fun (x, y) => PyData.tuple [x, y], q.2)
  | _, _ => stk
theorem i_zip {p tpos : Pos} {elts : List Expr} {kk : Nat} (hg : Gl X "zip") (hm : X.mg "zip" = none) (ha : PE X a (tE X.K W g)) (hb : PE X b (tE X.K W g')) (hn : nst a = true) (hn2 : nst b = true) : PI X (.Tuple elts kk tpos) (.Call (.Name "zip" p) [a, b] [] pos) (tI X.K W true (zipF g g')) := by
  refine ⟨fun pins s σ H R I h => (RZ.pi_zipA (ta := tCons (tE X.K W g) (tCons (tE X.K W g') tNil)) hg hm (pa_cons ha (pa_cons hb pa_nil (star_cons hn2)) (star_cons hn)) (star_cons hn) (by rw [star_cons hn2]; rfl)).run pins s σ H R I ?_⟩
  obtain ⟨F, env, G, po⟩ := h
  refine ⟨F, env, G, Po.of ((PoK.next (f1 := g) (PoK.of po) (.refl G)).imp ?_)⟩
  intro v H1 ⟨F1, env1, r, s, t, q, e, po1⟩
  obtain ⟨F1', s', k', rp⟩ := s.share q fun _ h => h
  refine ⟨F1', env1, s'.good, (PoK.next (f1 := g') (R1 := ResV X.K σ) po1 s').imp ?_⟩
  intro v2 H2 ⟨F2, env2, r2, s2, t2, q2, e2, po2⟩
  have rp := rp.keep (t2.kp s'.good)
  obtain ⟨F2', s2', k2', rp2⟩ := s2.share q2 fun a h => s'.nw a h
  have rp := rp.keep k2'
  show ∃ a b xs ys, [v, v2] = [.ref a, .ref b] ∧ _
  cases e1 : r.x <;> rw [e1] at po2 rp <;> (try exact po2.elim) <;> cases e3 : r2.x <;> rw [e3] at po2 rp2 <;> (try exact po2.elim)
  · obtain ⟨l, xs, ev, h1, h2⟩ := Vw.lst (.inl rp)
    obtain ⟨m, ys, ev2, g1, g2⟩ := Vw.lst (.inl rp2)
    subst ev ev2
    exact ⟨l, m, xs, ys, rfl, .inl ⟨h1, g1, PoK.now (R := ResI X.K true) po2 s2' (itr_zip rp rp2)⟩⟩
  · obtain ⟨l, xs, ev, h1, h2⟩ := Vw.tup (.inl rp)
    obtain ⟨m, ys, ev2, g1, g2⟩ := Vw.tup (.inl rp2)
    subst ev ev2
    exact ⟨l, m, xs, ys, rfl, .inr ⟨h1.sqT, g1.sqT, PoK.now (R := ResI X.K true) po2 s2' (itr_zipT rp rp2)⟩⟩

/-! ### targets -/
def gNms : List Nat → TGs
  | [] => gNil
  | i :: is => gCons (gName i) (gNms is)
def gT (K : PySem.W.Frag) : Tg → TG
  | .nm i => gName i
  | .tp is => gTup K is.length (gNms is)
def Tg.sl : Tg → List Nat
  | .nm i => [i]
  | .tp is => is
def stV (σ : L2.St) (is : List Nat) (vs : List V) : L2.St := (is.zip vs).foldl (fun s p => s.set p.1 (some p.2)) σ
theorem gNms_ok {Q : L2.St → Hp → Prop} : ∀ {is : List Nat} {vs : List V} {σ : L2.St}, is.length = vs.length → Q (stV σ is vs) H → gNms is vs σ H Q
  | [], [], _, _, q => ⟨rfl, q⟩
  | i :: is, v :: vs, σ, hl, q => ⟨v, vs, rfl, gNms_ok (is := is) (vs := vs) (σ := σ.set i (some v)) (by simpa using hl) q⟩
def stE (env : Evn) (is : List Nat) (ds : List PyData) : Evn := (is.zip ds).foldl (fun e p => e.set p.1 (some (.d p.2))) env
/-- names stored with shared data -/
theorem st_aft {K : PySem.W.Frag} {pr : List Nat} : ∀ {is : List Nat} {vs : List V} {ds : List PyData} {env : Evn} {σ : L2.St}, Good K F H env σ → RpA K F H vs ds → (∀ i ∈ is, i ∉ pr) → AftS K pr F H env σ F H (stE env is ds) (stV σ is vs)
  | [], _, _, _, _, g, _, _ => .refl g
  | _ :: _, [], _, _, _, g, r, _ => by cases r; exact .refl g
  | i :: is, v :: vs, d :: ds, env, σ, g, .cons r rs, h => ((AftS.refl g).set (h i (List.mem_cons_self ..)) (N := fun _ => False) (r := .d d) r fun _ h => h.elim).trans
      (st_aft (is := is) (((AftS.refl (pr := pr) g).set (h i (List.mem_cons_self ..)) (N := fun _ => False) (r := .d d) r fun _ h => h.elim).good) rs fun j hj => h j (List.mem_cons_of_mem _ hj))
theorem st_own {K : PySem.W.Frag} {a : Addr} : ∀ {is : List Nat} {vs : List V} {ds : List PyData} {env : Evn} {σ : L2.St}, Good K F H env σ → RpA K F H vs ds → Ownd (stE env is ds) (stV σ is vs) a → Ownd env σ a
  | [], _, _, _, _, _, _, h => h
  | _ :: _, [], _, _, _, _, r, h => by cases r; exact h
  | i :: is, v :: vs, d :: ds, env, σ, g, .cons r rs, h => by
    have h1 := st_own (is := is) (g.set i (N := fun _ => False) (r := .d d) r) rs h
    rcases own_set (N := fun _ => False) (r := .d d) r h1 with h | ⟨⟨y, h⟩, _⟩
    · exact h
    · cases h
theorem wipe_set {i : Nat} {w : Option V} : ∀ {vs : List Nat} {σ : L2.St}, i ∈ vs → wipe (σ.set i w) vs = wipe σ vs := by
  intro vs
  induction vs with
  | nil => intro σ h; cases h
  | cons v vs ih =>
    intro σ h
    show (wipe (σ.set i w) vs).set v none = (wipe σ vs).set v none
    by_cases e : i ∈ vs
    · rw [ih e]
    · have ev : i = v := by
        rcases List.mem_cons.mp h with h | h
        · exact h
        · exact absurd h e
      subst ev
      apply List.ext_getElem?
      intro j
      by_cases hj : i = j
      · subst hj
        rw [List.getElem?_set, List.getElem?_set, wipe_length, wipe_length, List.length_set, if_pos rfl, if_pos rfl]
      · rw [List.getElem?_set_ne hj, List.getElem?_set_ne hj]
        have out : ∀ {us : List Nat} {τ : L2.St}, (wipe (τ.set i w) us)[j]? = (wipe τ us)[j]? := by
          intro us τ
          induction us with
          | nil => exact List.getElem?_set_ne hj
          | cons u us ih2 =>
            show ((wipe (τ.set i w) us).set u none)[j]? = ((wipe τ us).set u none)[j]?
            rw [List.getElem?_set, List.getElem?_set, wipe_length, wipe_length, List.length_set, ih2]
        exact out
theorem wipe_st {ws : List Nat} : ∀ {is : List Nat} {vs : List V} {σ : L2.St}, (∀ i ∈ is, i ∈ ws) → wipe (stV σ is vs) ws = wipe σ ws
  | [], _, _, _ => rfl
  | _ :: _, [], _, _ => rfl
  | i :: is, v :: vs, σ, h => (wipe_st (is := is) (vs := vs) (σ := σ.set i (some v)) fun j hj => h j (List.mem_cons_of_mem _ hj)).trans (wipe_set (h i (List.mem_cons_self ..)))
/-- a target takes an item -/
theorem bind_ok {K : PySem.W.Frag} {tp : Bool} {tg : Tg} {pr : List Nat} {env env' : Evn} {σ : L2.St} {x : V} {d : PyData} {Q : L2.St → Hp → Prop} (g : Good K F H env σ) (b : Brg K tp F H x d) (e : bindT tg d env = .ok env') (ht : tp = false ∨ ∃ is, tg = .tp is) (hp : ∀ i ∈ tg.sl, i ∉ pr)
    (q : ∀ σ', AftS K pr F H env σ F H env' σ' → (∀ a, Ownd env' σ' a → Ownd env σ a) → (∀ ws : List Nat, (∀ i ∈ tg.sl, i ∈ ws) → wipe σ' ws = wipe σ ws) → Q σ' H) : gT K tg x σ H Q := by
  cases tg with
  | nm i =>
    have rp : Rp K F H x d := by
      rcases b with b | ⟨b, _⟩
      · exact b
      · rcases ht with h | ⟨_, h⟩
        · rw [b] at h; cases h
        · cases h
    obtain rfl := ok_in e
    refine q _ ((AftS.refl g).set (hp i (by simp [Tg.sl])) (N := fun _ => False) (r := .d d) rp fun _ h => h.elim) (fun a h => ?_) fun ws h => wipe_set (h i (by simp [Tg.sl]))
    rcases own_set (N := fun _ => False) (r := .d d) rp h with h | ⟨⟨y, h⟩, _⟩
    · exact h
    · cases h
  | tp is =>
    cases d <;> try exact (not_stk e).elim
    rename_i ds
    have e : (if ds.length = is.length then .ok (stE env is ds) else stk : Rs Evn) = .ok env' := e
    by_cases hl : ds.length = is.length
    · rw [if_pos hl] at e
      obtain rfl := ok_in e
      obtain ⟨a, vs, e1, h1, h2⟩ := b.parts
      have l2 := h2.len
      exact ⟨a, vs, e1, h1, by omega, gNms_ok (by omega) (q _ (st_aft g h2 hp) (fun a h => st_own g h2 h) fun ws h => wipe_st h)⟩
    · rw [if_neg hl] at e
      exact (not_stk e).elim
end
end Qv

set_option maxRecDepth 100000
set_option maxHeartbeats 1000000
/-! Q10: comprehensions. -/
namespace Qv
open PySem PySem.Spec PyProof.Rows L2
theorem ne_by {P : Addr → Prop} {a D : Addr} (h : P a) (n : ¬ P D) : a ≠ D := fun e => n (e ▸ h)
theorem fold_set {α : Type} (f : Nat → α) : ∀ (vs : List Nat) (l : List α), (vs.foldr (fun v e => e.set v (f v)) l).length = l.length ∧ ∀ j, (vs.foldr (fun v e => e.set v (f v)) l)[j]? = if j ∈ vs then (if j < l.length then some (f j) else none) else l[j]?
  | [], l => ⟨rfl, fun j => by simp⟩
  | v :: vs, l => by
    obtain ⟨h1, h2⟩ := fold_set f vs l
    rw [List.foldr_cons]
    refine ⟨by rw [List.length_set]; exact h1, fun j => ?_⟩
    rw [List.getElem?_set, h1, h2]
    by_cases e : v = j
    · subst e
      simp
    · rw [if_neg e]
      have : (j ∈ v :: vs) = (j ∈ vs) := by
        rw [List.mem_cons]
        exact propext ⟨fun h => h.elim (fun h => absurd h.symm e) id, .inr⟩
      simp only [this]
theorem wipe_fold (σ : L2.St) (vs : List Nat) : wipe σ vs = vs.foldr (fun v e => e.set v none) σ := by
  induction vs with
  | nil => rfl
  | cons v vs ih => show (wipe σ vs).set v none = _; rw [ih]; rfl
theorem wipe_at (σ : L2.St) (vs : List Nat) (j : Nat) : (wipe σ vs)[j]? = if j ∈ vs then (if j < σ.length then some none else none) else σ[j]? := by
  rw [wipe_fold]
  exact (fold_set (fun _ => none) vs σ).2 j
theorem wipeE_at (env : Evn) (vs : List Nat) (j : Nat) : (wipeE env vs)[j]? = if j ∈ vs then (if j < env.length then some none else none) else env[j]? := (fold_set (fun _ => none) vs env).2 j
theorem wipeE_len (env : Evn) (vs : List Nat) : (wipeE env vs).length = env.length := (fold_set (fun _ => none) vs env).1
theorem restE_at (e0 env : Evn) (vs : List Nat) (j : Nat) : (restE e0 env vs)[j]? = if j ∈ vs then (if j < env.length then some (e0[j]?.getD none) else none) else env[j]? := (fold_set (fun v => e0[v]?.getD none) vs env).2 j
theorem restE_len (e0 env : Evn) (vs : List Nat) : (restE e0 env vs).length = env.length := (fold_set (fun v => e0[v]?.getD none) vs env).1
theorem wipe_sub {σ : L2.St} {vs ws : List Nat} (h : ∀ i ∈ vs, i ∈ ws) : wipe (wipe σ vs) ws = wipe σ ws := by
  apply List.ext_getElem?
  intro j
  rw [wipe_at, wipe_at, wipe_length, wipe_at]
  by_cases e : j ∈ ws
  · rw [if_pos e, if_pos e]
  · rw [if_neg e, if_neg e, if_neg fun q => e (h j q)]
theorem wipeE_sub {σ : Evn} {vs ws : List Nat} (h : ∀ i ∈ vs, i ∈ ws) : wipeE (wipeE σ vs) ws = wipeE σ ws := by
  apply List.ext_getElem?
  intro j
  rw [wipeE_at, wipeE_at, wipeE_len, wipeE_at]
  by_cases e : j ∈ ws
  · rw [if_pos e, if_pos e]
  · rw [if_neg e, if_neg e, if_neg fun q => e (h j q)]
section
variable {K : PySem.W.Frag} {pr : List Nat} {F F' F1 F2 : Addr → Prop} {H H' H1 H2 : Hp} {env env' env1 env2 : Evn} {σ σ' σ1 σ2 : L2.St} {a D : Addr} {v : V} {o : HO}
/-- what stands outside stays -/
theorem AftS.out (s : AftS K pr F H env σ F' H' env' σ') (hD : H D = some o) (nF : ¬ F D) (nO : ¬ Ownd env σ D) : H' D = some o ∧ ¬ F' D ∧ ¬ Ownd env' σ' D := by
  refine ⟨s.stp.keep D o hD nO, fun f => ?_, fun f => ?_⟩
  · rcases s.stp.new D f with f | f | f
    · exact nF f
    · rw [hD] at f; cases f
    · exact nO f
  · rcases s.sub D f with f | f
    · exact nO f
    · rw [hD] at f; cases f
theorem kp_write {o' : HO} (nF : ¬ F D) (hD : H D = some o) (hm : (∃ xs, o = .lst xs) ∨ ∃ xs, o = .dK xs) : Kp F H F (upd H D o') :=
  have ne : ∀ a u, H a = some u → (∀ xs, u ≠ .lst xs) → (∀ xs, u ≠ .dK xs) → a ≠ D := fun a u h n1 n2 e => by
    subst e
    rw [hD] at h
    cases h
    rcases hm with ⟨xs, e⟩ | ⟨xs, e⟩
    · exact n1 xs e
    · exact n2 xs e
  ⟨fun _ h => h, fun a u h f => by rw [upd_ne (ne_by f nF)]; exact h, fun a xs h => by rw [upd_ne (ne a _ h (fun _ q => nomatch q) fun _ q => nomatch q)]; exact h, fun a u w h => by rw [upd_ne (ne a _ h (fun _ q => nomatch q) fun _ q => nomatch q)]; exact h⟩
/-- a thing that nobody holds, new since the start, is written -/
theorem AftS.write {o' : HO} (s : AftS K pr F H env σ F' H' env' σ') (h0 : H D = none) (hD : H' D = some o) (nF : ¬ F' D) (nO : ¬ Ownd env' σ' D) (hm : (∃ xs, o = .lst xs) ∨ ∃ xs, o = .dK xs) : AftS K pr F H env σ F' (upd H' D o') env' σ' := by
  have k := kp_write (o' := o') nF hD hm
  refine ⟨s.good.stay k (fun a w => ⟨(s.good.wok a w).1, fun u h => by rw [upd_ne (ne_by w nO)]; exact h⟩) (fun a f => by
      rw [upd_ne (ne_by f nF)]
      exact s.good.dom a f), ⟨s.stp.mono, s.stp.new, fun a u h n => ?_, fun a h => ?_⟩, s.sub, s.pr⟩
  · have ne : a ≠ D := fun e => by rw [e, h0] at h; cases h
    rw [upd_ne ne]
    exact s.stp.keep a u h n
  · have ne : a ≠ D := fun e => h (by rw [e, h0])
    rw [upd_ne ne]
    exact s.stp.dom a h
theorem aft_wipe {vs : List Nat} (g : Good K F H env σ) : AftS K [] F H env σ F H (wipeE env vs) (wipe σ vs) := ⟨g.wipe vs, .refl _ _ _, fun a h => .inl (own_wipe h), fun i h => nomatch h⟩
theorem AftS.new1 (g : Good K F H env σ) {o : HO} (hp : H D = none) : AftS K pr F H env σ F (upd H D o) env σ := (Aft.same g (same_new hp)).s
/-- the frame as it was, behind a block that had its own names -/
theorem rest_aft {vs : List Nat} (g : Good K F H env σ) (s : AftS K [] F H (wipeE env vs) (wipe σ vs) F' H' (wipeE env' vs) (wipe σ vs)) (sub : ∀ a, Ownd (wipeE env' vs) (wipe σ vs) a → Ownd (wipeE env vs) (wipe σ vs) a) : Aft K F H env σ F' H' (restE env env' vs) := by
  have hl : env'.length = env.length := by
    have h1 := s.good.len
    rw [wipeE_len, wipe_length, g.len] at h1
    exact h1.symm
  have k : Kp F H F' H' := s.kp (g.wipe vs)
  have inn : ∀ {j : Nat} {x : Vl}, j ∈ vs → (restE env env' vs)[j]? = some (some x) → env[j]? = some (some x) := fun {j x} hj h => by
    rw [restE_at, if_pos hj] at h
    by_cases hlt : j < env'.length
    · rw [if_pos hlt] at h
      have h := Option.some.inj h
      cases e : env[j]? with
      | none => rw [e] at h; cases h
      | some w =>
        rw [e] at h
        rw [show w = some x from h]
    · rw [if_neg hlt] at h; cases h
  have out : ∀ {j : Nat} {x : Vl}, j ∉ vs → (restE env env' vs)[j]? = some (some x) → (wipeE env' vs)[j]? = some (some x) := fun {j x} hj h => by
    rw [restE_at, if_neg hj] at h
    rw [wipeE_at, if_neg hj]
    exact h
  have sg : ∀ {j : Nat}, j ∉ vs → (wipe σ vs)[j]? = σ[j]? := fun {j} hj => by rw [wipe_at, if_neg hj]
  -- what a slot of the block held
  have own : ∀ {j : Nat} {d : PyData} {a : Addr}, j ∈ vs → env[j]? = some (some (.o d)) → σ[j]? = some (some (.ref a)) → ¬ Ownd (wipeE env vs) (wipe σ vs) a := fun {j d a} hj h1 h2 ⟨i, e, h3, h4⟩ => by
    by_cases hi : i ∈ vs
    · rw [wipeE_at, if_pos hi] at h3
      split at h3 <;> cases h3
    · rw [wipeE_at, if_neg hi] at h3
      rw [wipe_at, if_neg hi] at h4
      have e := g.inj i j e d a h3 h1 h4 h2
      subst e
      exact hi hj
  have held : ∀ {j : Nat} {d : PyData} {a : Addr}, j ∈ vs → env[j]? = some (some (.o d)) → σ[j]? = some (some (.ref a)) → ¬ F a → Ct K F H a d → ¬ F' a ∧ Ct K F' H' a d := fun {j d a} hj h1 h2 n c => by
    have no := own hj h1 h2
    obtain ⟨u, hu⟩ := c.some
    refine ⟨fun f => ?_, c.keep k fun u h => s.stp.keep a u h no⟩
    rcases s.stp.new a f with f | f | f
    · exact n f
    · rw [hu] at f; cases f
    · exact no f
  refine ⟨⟨by rw [restE_len, hl, g.len], fun j d h => ?_, fun j d h => ?_, fun i j d e a h1 h2 h3 h4 => ?_, s.good.dom⟩, s.stp.weak fun a h => .inl (own_wipe h), fun a h => ?_⟩
  · by_cases hj : j ∈ vs
    · obtain ⟨v, e, r⟩ := g.sh j d (inn hj h)
      exact ⟨v, e, r.keep k⟩
    · obtain ⟨v, e, r⟩ := s.good.sh j d (out hj h)
      rw [sg hj] at e
      exact ⟨v, e, r⟩
  · by_cases hj : j ∈ vs
    · have h := inn hj h
      obtain ⟨a, e, n, c⟩ := g.ow j d h
      obtain ⟨n', c'⟩ := held hj h e n c
      exact ⟨a, e, n', c'⟩
    · obtain ⟨a, e, r⟩ := s.good.ow j d (out hj h)
      rw [sg hj] at e
      exact ⟨a, e, r⟩
  · have cross : ∀ {i j : Nat} {d e : PyData}, i ∈ vs → j ∉ vs → (restE env env' vs)[i]? = some (some (.o d)) → (restE env env' vs)[j]? = some (some (.o e)) → σ[i]? = some (some (.ref a)) → σ[j]? = some (some (.ref a)) → False := fun {i j d e} hi hj h1 h2 h3 h4 =>
      own hi (inn hi h1) h3 (sub a ⟨j, e, out hj h2, by rw [sg hj]; exact h4⟩)
    by_cases hi : i ∈ vs
    · by_cases hj : j ∈ vs
      · exact g.inj i j d e a (inn hi h1) (inn hj h2) h3 h4
      · exact (cross hi hj h1 h2 h3 h4).elim
    · by_cases hj : j ∈ vs
      · exact (cross hj hi h2 h1 h4 h3).elim
      · exact s.good.inj i j d e a (out hi h1) (out hj h2) (by rw [sg hi]; exact h3) (by rw [sg hj]; exact h4)
  · obtain ⟨j, d, h1, h2⟩ := h
    by_cases hj : j ∈ vs
    · exact ⟨j, d, inn hj h1, h2⟩
    · exact own_wipe (sub a ⟨j, d, out hj h1, by rw [sg hj]; exact h2⟩)

/-! ### the turns -/
/-- a comprehension's list at D, behind the start (F1, H1, e1, σ1) -/
structure LcSt (K : PySem.W.Frag) (vs : List Nat) (σw : L2.St) (D : Addr) (F1 : Addr → Prop) (H1 : Hp) (e1 : Evn) (σ1 : L2.St) (F' : Addr → Prop) (H' : Hp) (env' : Evn) (acc : List PyData) : Prop where
  aft : AftS K [] F1 H1 e1 σ1 F' H' (wipeE env' vs) σw
  sub : ∀ a, Ownd (wipeE env' vs) σw a → Ownd e1 σ1 a
  nf : ¬ F' D
  no : ¬ Ownd (wipeE env' vs) σw D
  at' : ∃ ys, H' D = some (.lst ys) ∧ RpA K F' H' ys acc
def noW : WX := fun _ _ _ _ => False
theorem Po.ok {α β : Type} {R : RR α β} {f : Evn → Rs (α × Evn)} {r : α} {Q : β → Hp → Prop} {W : WX} (e : f env = .ok (r, env')) (h : ∀ v F' H', Aft K F H env σ F' H' env' → R (Nw H env σ) F' H' env' v r → Q v H') : Po K W R f F env σ H Q := by
  unfold Po
  rw [e]
  exact h
theorem lc_turnK {vs : List Nat} {σ0 : L2.St} {tp : Bool} {tgd : Tg} {g : Evn → Rs (Vl × Evn)} {ts : Evn → Rs (Bool × Evn)} {e1 eN : Evn} {acc accN : List PyData} {d : PyData} {r : List PyData} {x : V} {Nx : Hp → Prop} (h0 : H1 D = none)
    (L : LcSt K vs (wipe σ0 vs) D F1 H1 e1 σ1 F' H' env' acc) (sm : Same H' H2) (b : Brg K tp F' H2 x d) (ht : tp = false ∨ ∃ is, tgd = .tp is) (hsl : ∀ i ∈ tgd.sl, i ∈ vs) (hl : lcLoop vs g tgd ts (d :: r) acc env' = .ok (accN, eN))
    (nx : ∀ F'' H'' env'' acc'', Kp F' H' F'' H'' → LcSt K vs (wipe σ0 vs) D F1 H1 e1 σ1 F'' H'' env'' acc'' → lcLoop vs g tgd ts r acc'' env'' = .ok (accN, eN) → Nx H'') :
    gT K tgd x (wipe σ0 vs) H2 fun σ2 H2 => wipe σ2 vs = wipe σ0 vs ∧ tT K noW ts σ2 H2 fun b H3 => if b = true then tE K noW g σ2 H3 fun y H4 => ∃ acc, H4 D = some (.lst acc) ∧ acc.length < sizeLine ∧ Nx (upd H4 D (.lst (acc ++ [y]))) else Nx H3 := by
  obtain ⟨be1, hb, hl⟩ := bindR (show (bindT tgd d (wipeE env' vs) >>= fun e1 => ts e1 >>= fun p => if p.1 = true then (g p.2 >>= fun q => grd (decide (acc.length < lim)) () >>= fun _ => lcLoop vs g tgd ts r (acc ++ [q.1.x]) q.2) else lcLoop vs g tgd ts r acc p.2) = .ok (accN, eN) from hl)
  obtain ⟨⟨bb, e2⟩, hts, hl⟩ := bindR hl
  obtain ⟨ys, hD, hys⟩ := L.at'
  have A1 : AftS K [] F1 H1 e1 σ1 F' H2 (wipeE env' vs) (wipe σ0 vs) := L.aft.trans (Aft.same L.aft.good sm).s
  have hD2 : H2 D = some (.lst ys) := sm D _ hD
  have hys2 := hys.keep (Same.kp (F := F') sm)
  refine bind_ok (pr := []) A1.good b hb ht (fun i _ h => nomatch h) fun σ2 B sub2 wp => ?_
  have ws : wipe σ2 vs = wipe σ0 vs := (wp vs hsl).trans (wipe_sub fun i h => h)
  refine ⟨ws, F', be1, B.good, Po.ok hts fun v F3 H3 s3 ev => ?_⟩
  cases ev
  have C : AftS K [] F' H2 (wipeE env' vs) (wipe σ0 vs) F3 H3 e2 σ2 := B.trans s3.s
  obtain ⟨hD3, nF3, nO3⟩ := C.out hD2 L.nf L.no
  have hys3 := hys2.keep (C.kp A1.good)
  have subC : ∀ a, Ownd e2 σ2 a → Ownd e1 σ1 a := fun a h => L.sub a (sub2 a (s3.sub a h))
  cases bb with
  | false =>
    refine nx F3 H3 e2 acc ((Same.kp sm).trans (C.kp A1.good)) ⟨?_, fun a h => subC a ?_, nF3, fun h => nO3 ?_, ys, hD3, hys3⟩ hl
    · have := (A1.trans C).trans (aft_wipe (vs := vs) C.good)
      rw [ws] at this
      exact this
    · rw [← ws] at h; exact own_wipe h
    · rw [← ws] at h; exact own_wipe h
  | true =>
    obtain ⟨⟨rv, e3⟩, hg, hl⟩ := bindR (show (g e2 >>= fun q => grd (decide (acc.length < lim)) () >>= fun _ => lcLoop vs g tgd ts r (acc ++ [q.1.x]) q.2) = .ok (accN, eN) from hl)
    obtain ⟨u, hgd, hl⟩ := bindR hl
    obtain ⟨hacc, _⟩ := grd_ok hgd
    have hacc := of_decide_eq_true hacc
    refine ⟨F3, e2, C.good, Po.ok hg fun y F4 H4 s4 q4 => ?_⟩
    obtain ⟨F4', s4', k4, rp⟩ := s4.share q4 fun _ h => h
    have E : AftS K [] F' H2 (wipeE env' vs) (wipe σ0 vs) F4' H4 e3 σ2 := C.trans s4'.s
    obtain ⟨hD4, nF4, nO4⟩ := E.out hD2 L.nf L.no
    have hys4 := hys2.keep (E.kp A1.good)
    have ll := lim2_line
    have hlen := hys.len
    refine ⟨ys, hD4, by omega, ?_⟩
    have kw : Kp F4' H4 F4' (upd H4 D (.lst (ys ++ [y]))) := kp_write nF4 hD4 (.inl ⟨_, rfl⟩)
    refine nx F4' _ e3 (acc ++ [rv.x]) (((Same.kp sm).trans (E.kp A1.good)).trans kw) ⟨?_, fun a h => subC a (s4.sub a ?_), nF4, fun h => nO4 ?_, ys ++ [y], upd_same, (hys4.keep kw).app (.cons (rp.keep kw) .nil)⟩ hl
    · have := ((A1.trans E).write (o' := .lst (ys ++ [y])) h0 hD4 nF4 nO4 (.inl ⟨_, rfl⟩))
      have := this.trans (aft_wipe (vs := vs) this.good)
      rw [ws] at this
      exact this
    · rw [← ws] at h; exact own_wipe h
    · rw [← ws] at h; exact own_wipe h
end
section
variable {X : Cx} {W : WX}
/-- [elt for tg in it if ..] -/
def lcF (vs : List Nat) (g : Evn → Rs (Vl × Evn)) (tgd : Tg) (it : Evn → Rs (List PyData × Evn)) (ts : Evn → Rs (Bool × Evn)) : Evn → Rs (Vl × Evn) := fun env => it env >>= fun p => quiet (lcLoop vs g tgd ts p.1 [] (wipeE p.2 vs)) >>= fun q => .ok (.o (.list q.1), restE p.2 q.2 vs)
theorem e_lc {vs : List Nat} {tp : Bool} {tgd : Tg} {g : Evn → Rs (Vl × Evn)} {it : Evn → Rs (List PyData × Evn)} {ts : Evn → Rs (Bool × Evn)} {σ : L2.St} {H : Hp} {Q : VK} (ht : tp = false ∨ ∃ is, tgd = .tp is) (hsl : ∀ i ∈ tgd.sl, i ∈ vs)
    (h : tE X.K W (lcF vs g tgd it ts) σ H Q) : tLc (tI X.K W tp it) (gT X.K tgd) (tT X.K noW ts) (tE X.K noW g) vs σ H Q := by
  obtain ⟨F, env, G, po⟩ := h
  refine ⟨F, env, G, Po.of ((PoK.next (f1 := it) (PoK.of po) (.refl G)).imp ?_)⟩
  intro J H1 ⟨F1, env1, xs, s1, t1, hJ, e1, po1⟩ D hD
  have po1 : PoK X.K W (ResV X.K σ) (quiet (lcLoop vs g tgd ts xs [] (wipeE env1 vs)) >>= fun q => .ok (.o (.list q.1), restE env1 q.2 vs)) F env σ H Q := po1
  cases hq : lcLoop vs g tgd ts xs [] (wipeE env1 vs) with
  | error y => rw [hq] at po1; exact po1.elim
  | ok p =>
    obtain ⟨accN, eN⟩ := p
    rw [hq] at po1
    have po1 : PoK X.K W (ResV X.K σ) (.ok (.o (.list accN), restE env1 eN vs)) F env σ H Q := po1
    have Gw := s1.good.wipe vs
    have nF : ¬ F1 D := fun f => s1.good.dom D f hD
    have nO : ¬ Ownd (wipeE env1 vs) (wipe σ vs) D := fun w => by
      obtain ⟨_, z⟩ | ⟨_, z⟩ := (Gw.wok D w).2 <;> (rw [hD] at z; cases z)
    have start : LcSt X.K vs (wipe σ vs) D F1 H1 (wipeE env1 vs) (wipe σ vs) F1 (upd H1 D (.lst [])) (wipeE env1 vs) [] :=
      ⟨by rw [wipeE_sub fun _ h => h]; exact AftS.new1 Gw hD, fun a h => by rw [wipeE_sub fun _ h => h] at h; exact h, nF, by rw [wipeE_sub fun _ h => h]; exact nO, [], upd_same, .nil⟩
    refine ⟨fun i m H' => m = xs.length - i ∧ i ≤ xs.length ∧ ∃ F' env' acc, LcSt X.K vs (wipe σ vs) D F1 H1 (wipeE env1 vs) (wipe σ vs) F' H' env' acc ∧ lcLoop vs g tgd ts (xs.drop i) acc env' = .ok (accN, eN), ⟨_, rfl, Nat.zero_le _, F1, _, [], start, hq⟩, ?_⟩
    intro i m H' ⟨hm, hi, F', env', acc, L, hl⟩
    have k := L.aft.kp Gw
    obtain ⟨stop, go⟩ := hJ F' H' k i
    by_cases he : i = xs.length
    · refine .inl ⟨stop he, ?_⟩
      rw [he, List.drop_length] at hl
      obtain ⟨rfl, rfl⟩ : acc = accN ∧ env' = eN := by
        have := ok_in (show (Except.ok (acc, env') : Rs _) = .ok (accN, eN) from hl)
        cases this
        exact ⟨rfl, rfl⟩
      have A := rest_aft s1.good L.aft L.sub
      obtain ⟨ys, hD', hys⟩ := L.at'
      have no : ¬ Ownd (restE env1 env' vs) σ D := fun w => by
        obtain ⟨_, z⟩ | ⟨_, z⟩ := (s1.good.wok D (A.sub D w)).2 <;> (rw [hD] at z; cases z)
      refine PoK.now po1 (s1.trans A) ⟨D, rfl, L.nf, no, .lst hD' hys, .inl ?_⟩
      cases e : H D with
      | none => rfl
      | some o => exact absurd hD (s1.stp.dom D (by rw [e]; simp))
    · have hlt : i < xs.length := by omega
      obtain ⟨jgo, yld⟩ := go xs[i] (List.getElem?_eq_getElem hlt)
      rw [List.drop_eq_getElem_cons hlt] at hl
      refine .inr ⟨jgo, fun H'' => ∃ F'' env'' acc'', LcSt X.K vs (wipe σ vs) D F1 H1 (wipeE env1 vs) (wipe σ vs) F'' H'' env'' acc'' ∧ lcLoop vs g tgd ts (xs.drop (i + 1)) acc'' env'' = .ok (accN, eN), fun H'' ⟨F'', env'', acc'', L'', hl''⟩ => ⟨xs.length - (i + 1), by omega, rfl, hlt, F'', env'', acc'', L'', hl''⟩, fun x H'' y => ?_⟩
      obtain ⟨sm, b⟩ := yld x H'' y
      exact lc_turnK hD L sm b ht hsl hl fun F'' H'' env'' acc'' _ L'' hl'' => ⟨F'', env'', acc'', L'', hl''⟩
/-- the list's state, seen with more names forgotten -/
theorem LcSt.wider {K : PySem.W.Frag} {vs ws : List Nat} {σ2 σw : L2.St} {D : Addr} {F1 F' : Addr → Prop} {H1 H' : Hp} {e1 env' : Evn} {σ1 : L2.St} {acc : List PyData} (L : LcSt K vs (wipe σ2 vs) D F1 H1 e1 σ1 F' H' env' acc) (h : ∀ i ∈ vs, i ∈ ws) (hw : wipe σ2 ws = σw) : LcSt K ws σw D F1 H1 e1 σ1 F' H' env' acc := by
  have e1' : wipeE (wipeE env' vs) ws = wipeE env' ws := wipeE_sub h
  have e2' : wipe (wipe σ2 vs) ws = σw := (wipe_sub h).trans hw
  refine ⟨?_, fun a q => L.sub a ?_, L.nf, fun q => L.no ?_, L.at'⟩
  · have := L.aft.trans (aft_wipe (vs := ws) L.aft.good)
    rw [e1', e2'] at this
    exact this
  · rw [← e1', ← e2'] at q; exact own_wipe q
  · rw [← e1', ← e2'] at q; exact own_wipe q
def lc2F (vs vs1 : List Nat) (g : Evn → Rs (Vl × Evn)) (tgd : Tg) (it : Evn → Rs (List PyData × Evn)) (ts : Evn → Rs (Bool × Evn)) (tgd1 : Tg) (it1 : Evn → Rs (List PyData × Evn)) (ts1 : Evn → Rs (Bool × Evn)) : Evn → Rs (Vl × Evn) :=
  fun env => it env >>= fun p => quiet (lc2Loop vs vs1 g tgd ts it1 tgd1 ts1 p.1 [] (wipeE p.2 vs)) >>= fun q => .ok (.o (.list q.1), restE p.2 q.2 vs)
theorem e_lc2 {vs vs1 : List Nat} {tp tp1 : Bool} {tgd tgd1 : Tg} {g : Evn → Rs (Vl × Evn)} {it it1 : Evn → Rs (List PyData × Evn)} {ts ts1 : Evn → Rs (Bool × Evn)} {σ : L2.St} {H : Hp} {Q : VK} (ht : tp = false ∨ ∃ is, tgd = .tp is) (hsl : ∀ i ∈ tgd.sl, i ∈ vs)
    (ht1 : tp1 = false ∨ ∃ is, tgd1 = .tp is) (hsl1 : ∀ i ∈ tgd1.sl, i ∈ vs1) (hvv : ∀ i ∈ vs1, i ∈ vs)
    (h : tE X.K W (lc2F vs vs1 g tgd it ts tgd1 it1 ts1) σ H Q) : tLc2 (tI X.K W tp it) (gT X.K tgd) (tT X.K noW ts) (tI X.K noW tp1 it1) (gT X.K tgd1) (tT X.K noW ts1) (tE X.K noW g) vs vs1 σ H Q := by
  obtain ⟨F, env, G, po⟩ := h
  refine ⟨F, env, G, Po.of ((PoK.next (f1 := it) (PoK.of po) (.refl G)).imp ?_)⟩
  intro J H1 ⟨F1, env1, xs, s1, t1, hJ, e1, po1⟩ D hD
  have po1 : PoK X.K W (ResV X.K σ) (quiet (lc2Loop vs vs1 g tgd ts it1 tgd1 ts1 xs [] (wipeE env1 vs)) >>= fun q => .ok (.o (.list q.1), restE env1 q.2 vs)) F env σ H Q := po1
  cases hq : lc2Loop vs vs1 g tgd ts it1 tgd1 ts1 xs [] (wipeE env1 vs) with
  | error y => rw [hq] at po1; exact po1.elim
  | ok p =>
    obtain ⟨accN, eN⟩ := p
    rw [hq] at po1
    have po1 : PoK X.K W (ResV X.K σ) (.ok (.o (.list accN), restE env1 eN vs)) F env σ H Q := po1
    have Gw := s1.good.wipe vs
    have nF : ¬ F1 D := fun f => s1.good.dom D f hD
    have nO : ¬ Ownd (wipeE env1 vs) (wipe σ vs) D := fun w => by
      obtain ⟨_, z⟩ | ⟨_, z⟩ := (Gw.wok D w).2 <;> (rw [hD] at z; cases z)
    have start : LcSt X.K vs (wipe σ vs) D F1 H1 (wipeE env1 vs) (wipe σ vs) F1 (upd H1 D (.lst [])) (wipeE env1 vs) [] :=
      ⟨by rw [wipeE_sub fun _ h => h]; exact AftS.new1 Gw hD, fun a h => by rw [wipeE_sub fun _ h => h] at h; exact h, nF, by rw [wipeE_sub fun _ h => h]; exact nO, [], upd_same, .nil⟩
    refine ⟨fun i m H' => m = xs.length - i ∧ i ≤ xs.length ∧ ∃ F' env' acc, LcSt X.K vs (wipe σ vs) D F1 H1 (wipeE env1 vs) (wipe σ vs) F' H' env' acc ∧ lc2Loop vs vs1 g tgd ts it1 tgd1 ts1 (xs.drop i) acc env' = .ok (accN, eN), ⟨_, rfl, Nat.zero_le _, F1, _, [], start, hq⟩, ?_⟩
    intro i m H' ⟨hm, hi, F', env', acc, L, hl⟩
    have k := L.aft.kp Gw
    obtain ⟨stop, go⟩ := hJ F' H' k i
    by_cases he : i = xs.length
    · refine .inl ⟨stop he, ?_⟩
      rw [he, List.drop_length] at hl
      obtain ⟨rfl, rfl⟩ : acc = accN ∧ env' = eN := by
        have := ok_in (show (Except.ok (acc, env') : Rs _) = .ok (accN, eN) from hl)
        cases this
        exact ⟨rfl, rfl⟩
      have A := rest_aft s1.good L.aft L.sub
      obtain ⟨ys, hD', hys⟩ := L.at'
      have no : ¬ Ownd (restE env1 env' vs) σ D := fun w => by
        obtain ⟨_, z⟩ | ⟨_, z⟩ := (s1.good.wok D (A.sub D w)).2 <;> (rw [hD] at z; cases z)
      refine PoK.now po1 (s1.trans A) ⟨D, rfl, L.nf, no, .lst hD' hys, .inl ?_⟩
      cases e : H D with
      | none => rfl
      | some o => exact absurd hD (s1.stp.dom D (by rw [e]; simp))
    · have hlt : i < xs.length := by omega
      obtain ⟨jgo, yld⟩ := go xs[i] (List.getElem?_eq_getElem hlt)
      rw [List.drop_eq_getElem_cons hlt] at hl
      refine .inr ⟨jgo, fun H'' => ∃ F'' env'' acc'', LcSt X.K vs (wipe σ vs) D F1 H1 (wipeE env1 vs) (wipe σ vs) F'' H'' env'' acc'' ∧ lc2Loop vs vs1 g tgd ts it1 tgd1 ts1 (xs.drop (i + 1)) acc'' env'' = .ok (accN, eN), fun H'' ⟨F'', env'', acc'', L'', hl''⟩ => ⟨xs.length - (i + 1), by omega, rfl, hlt, F'', env'', acc'', L'', hl''⟩, fun x H2 y => ?_⟩
      obtain ⟨sm, b⟩ := yld x H2 y
      -- the outer target, the outer tests
      obtain ⟨be1, hb, hl⟩ := bindR (show (bindT tgd xs[i] (wipeE env' vs) >>= fun e1 => ts e1 >>= fun p => if p.1 = true then (it1 p.2 >>= fun q => lcLoop vs1 g tgd1 ts1 q.1 acc q.2 >>= fun w => lc2Loop vs vs1 g tgd ts it1 tgd1 ts1 (xs.drop (i + 1)) w.1 w.2) else lc2Loop vs vs1 g tgd ts it1 tgd1 ts1 (xs.drop (i + 1)) acc p.2) = .ok (accN, eN) from hl)
      obtain ⟨⟨bb, e2⟩, hts, hl⟩ := bindR hl
      obtain ⟨ys, hDy, hys⟩ := L.at'
      have A1 : AftS X.K [] F1 H1 (wipeE env1 vs) (wipe σ vs) F' H2 (wipeE env' vs) (wipe σ vs) := L.aft.trans (Aft.same L.aft.good sm).s
      have hD2 : H2 D = some (.lst ys) := sm D _ hDy
      have hys2 := hys.keep (Same.kp (F := F') sm)
      refine bind_ok (pr := []) A1.good b hb ht (fun i _ h => nomatch h) fun σ2 B sub2 wp => ?_
      have ws : wipe σ2 vs = wipe σ vs := (wp vs hsl).trans (wipe_sub fun i h => h)
      refine ⟨ws, F', be1, B.good, Po.ok hts fun v F3 H3 s3 ev => ?_⟩
      cases ev
      have C : AftS X.K [] F' H2 (wipeE env' vs) (wipe σ vs) F3 H3 e2 σ2 := B.trans s3.s
      obtain ⟨hD3, nF3, nO3⟩ := C.out hD2 L.nf L.no
      have hys3 := hys2.keep (C.kp A1.good)
      have subC : ∀ a, Ownd e2 σ2 a → Ownd (wipeE env1 vs) (wipe σ vs) a := fun a h => L.sub a (sub2 a (s3.sub a h))
      have wide : ∀ {F'' : Addr → Prop} {H'' : Hp} {e'' : Evn} {acc'' : List PyData}, AftS X.K [] F1 H1 (wipeE env1 vs) (wipe σ vs) F'' H'' e'' σ2 → (∀ a, Ownd e'' σ2 a → Ownd (wipeE env1 vs) (wipe σ vs) a) → ¬ F'' D → ¬ Ownd e'' σ2 D → (∃ ys, H'' D = some (.lst ys) ∧ RpA X.K F'' H'' ys acc'') →
          ∀ us : List Nat, LcSt X.K us (wipe σ2 us) D F1 H1 (wipeE env1 vs) (wipe σ vs) F'' H'' e'' acc'' := fun A sub nf no at' us =>
        ⟨A.trans (aft_wipe (vs := us) A.good), fun a h => sub a (own_wipe h), nf, fun h => no (own_wipe h), at'⟩
      cases bb with
      | false =>
        have W1 := wide (A1.trans C) subC nF3 nO3 ⟨ys, hD3, hys3⟩ vs
        rw [ws] at W1
        exact ⟨F3, e2, acc, W1, hl⟩
      | true =>
        obtain ⟨⟨zs, e3⟩, hit, hl⟩ := bindR (show (it1 e2 >>= fun q => lcLoop vs1 g tgd1 ts1 q.1 acc q.2 >>= fun w => lc2Loop vs vs1 g tgd ts it1 tgd1 ts1 (xs.drop (i + 1)) w.1 w.2) = .ok (accN, eN) from hl)
        obtain ⟨⟨acc4, e4⟩, hin, hl⟩ := bindR hl
        refine ⟨F3, e2, C.good, Po.ok hit fun J1 F4 H4 s4 hJ1 => ?_⟩
        have C4 : AftS X.K [] F' H2 (wipeE env' vs) (wipe σ vs) F4 H4 e3 σ2 := C.trans s4.s
        obtain ⟨hD4, nF4, nO4⟩ := C4.out hD2 L.nf L.no
        have hys4 := hys2.keep (C4.kp A1.good)
        have S4 := A1.trans C4
        have W4 := wide S4 (fun a h => subC a (s4.sub a h)) nF4 nO4 ⟨ys, hD4, hys4⟩ vs1
        have hJ1 : ItrOk X.K tp1 J1 F4 H4 zs := hJ1
        -- the inner turns go on from (F4, H4)
        refine ⟨fun j m H' => m = zs.length - j ∧ j ≤ zs.length ∧ ∃ F' env' acc, Kp F4 H4 F' H' ∧ LcSt X.K vs1 (wipe σ2 vs1) D F1 H1 (wipeE env1 vs) (wipe σ vs) F' H' env' acc ∧ lcLoop vs1 g tgd1 ts1 (zs.drop j) acc env' = .ok (acc4, e4), ⟨_, rfl, Nat.zero_le _, F4, e3, acc, .refl _ _, W4, hin⟩, ?_⟩
        intro j k H5 ⟨hk, hj, F5, env5, acc5, k5, L5, hl5⟩
        obtain ⟨stop1, go1⟩ := hJ1 F5 H5 k5 j
        by_cases he1 : j = zs.length
        · refine .inl ⟨stop1 he1, ?_⟩
          rw [he1, List.drop_length] at hl5
          have := ok_in (show (Except.ok (acc5, env5) : Rs _) = .ok (acc4, e4) from hl5)
          cases this
          exact ⟨F5, _, _, L5.wider hvv ws, hl⟩
        · have hlt1 : j < zs.length := by omega
          obtain ⟨jgo1, yld1⟩ := go1 zs[j] (List.getElem?_eq_getElem hlt1)
          rw [List.drop_eq_getElem_cons hlt1] at hl5
          refine .inr ⟨jgo1, fun H'' => ∃ F'' env'' acc'', Kp F4 H4 F'' H'' ∧ LcSt X.K vs1 (wipe σ2 vs1) D F1 H1 (wipeE env1 vs) (wipe σ vs) F'' H'' env'' acc'' ∧ lcLoop vs1 g tgd1 ts1 (zs.drop (j + 1)) acc'' env'' = .ok (acc4, e4), fun H'' ⟨F'', env'', acc'', k'', L'', hl''⟩ => ⟨zs.length - (j + 1), by omega, rfl, hlt1, F'', env'', acc'', k'', L'', hl''⟩, fun x5 H6 y5 => ?_⟩
          obtain ⟨sm5, b5⟩ := yld1 x5 H6 y5
          exact lc_turnK hD L5 sm5 b5 ht1 hsl1 hl5 fun F'' H'' env'' acc'' kk L'' hl'' => ⟨F'', env'', acc'', k5.trans kk, L'', hl''⟩
end
end Qv

set_option maxRecDepth 100000
set_option maxHeartbeats 1000000
/-! QO: comprehensions over a list of one's own, that stays one's own. -/
namespace Qv
open PySem PySem.Spec PyProof.Rows L2
section
variable {X : Cx} {W : WX}
/-- the iterator of a list of one's own -/
def tIO (K : PySem.W.Frag) (i : Nat) : TI := fun σ H R => ∃ F env l xs, Good K F H env σ ∧ env[i]? = some (some (.o (.list xs))) ∧ σ[i]? = some (some (.ref l)) ∧ R (Itl K l) H
theorem i_own {tg e : Expr} {i : Nat} (h : PE X e (tVar i)) : PI X tg e (tIO X.K i) := by
  refine ⟨fun pins s σ H R I h0 => ?_⟩
  obtain ⟨F, env, l, xs, G, e1, e2, q⟩ := h0
  refine thn (h.run pins s σ H (fun v H1 => v = .ref l ∧ H1 = H) I ⟨_, e2, rfl, rfl⟩) fun v s1 ⟨x, H1, I1, rx, q1, q2⟩ => ?_
  subst q1
  subst q2
  obtain ⟨a, e3, n, c⟩ := G.ow i _ e1
  rw [e2] at e3
  cases e3
  cases rx
  cases c with
  | lst h1 h2 =>
    obtain ⟨its, rv, p, hz⟩ := I1.list (SqL.of h1)
    refine wpAny_pyIter_list p.isList ?_
    refine ⟨s1.heap.objs.size, [s1.heap.objs.size], _, _, H1, rfl, I1.kept (t' := s1.toks) fun b o e => Heap.get?_push_of_some _ e, turn_list l _, ⟨_, Heap.get?_push_size _ rfl, rfl, rfl⟩, fun b hb => ?_, q⟩
    have e : b = s1.heap.objs.size := by simpa using hb
    subst e
    exact I1.fpOk (Nat.le_refl _) (I1.hok.fresh (Nat.le_refl _))
def lcOF (i : Nat) (vs : List Nat) (g : Evn → Rs (Vl × Evn)) (tgd : Tg) (ts : Evn → Rs (Bool × Evn)) : Evn → Rs (Vl × Evn) := fun env => match env[i]? with
  | some (some (.o (.list xs))) => if vs.contains i then stk else quiet (lcLoopO i vs g tgd ts xs.length 0 [] (wipeE env vs)) >>= fun q => .ok (.o (.list q.1), restE env q.2 vs)
  | _ => stk
theorem e_lcO {i : Nat} {vs : List Nat} {tgd : Tg} {g : Evn → Rs (Vl × Evn)} {ts : Evn → Rs (Bool × Evn)} {σ : L2.St} {H : Hp} {Q : VK} (hsl : ∀ i ∈ tgd.sl, i ∈ vs)
    (h : tE X.K W (lcOF i vs g tgd ts) σ H Q) : tLc (tIO X.K i) (gT X.K tgd) (tT X.K noW ts) (tE X.K noW g) vs σ H Q := by
  obtain ⟨F, env, G, po⟩ := h
  have po := PoK.of po
  unfold lcOF at po
  cases e : env[i]? with
  | none => rw [e] at po; exact po.elim
  | some o =>
  rw [e] at po
  cases o with
  | none => exact po.elim
  | some vl =>
  cases vl with
  | d x => exact po.elim
  | o x =>
  cases x <;> try exact po.elim
  rename_i xs
  have po : PoK X.K W (ResV X.K σ) (if vs.contains i then stk else quiet (lcLoopO i vs g tgd ts xs.length 0 [] (wipeE env vs)) >>= fun q => .ok (.o (.list q.1), restE env q.2 vs)) F env σ H Q := po
  by_cases hc : vs.contains i = true
  · rw [if_pos hc] at po; exact po.elim
  rw [if_neg hc] at po
  have hi : i ∉ vs := fun m => hc (by simpa using m)
  obtain ⟨l, e1, nl, cl⟩ := G.ow i _ e
  refine ⟨F, env, l, xs, G, e, e1, fun D hD => ?_⟩
  cases hq : lcLoopO i vs g tgd ts xs.length 0 [] (wipeE env vs) with
  | error y => rw [hq] at po; exact po.elim
  | ok p =>
    obtain ⟨accN, eN⟩ := p
    rw [hq] at po
    have po : PoK X.K W (ResV X.K σ) (.ok (.o (.list accN), restE env eN vs)) F env σ H Q := po
    have Gw := G.wipe vs
    have nF : ¬ F D := fun f => G.dom D f hD
    have nO : ¬ Ownd (wipeE env vs) (wipe σ vs) D := fun w => by
      obtain ⟨_, z⟩ | ⟨_, z⟩ := (Gw.wok D w).2 <;> (rw [hD] at z; cases z)
    have start : LcSt X.K vs (wipe σ vs) D F H (wipeE env vs) (wipe σ vs) F (upd H D (.lst [])) (wipeE env vs) [] :=
      ⟨by rw [wipeE_sub fun _ h => h]; exact AftS.new1 Gw hD, fun a h => by rw [wipeE_sub fun _ h => h] at h; exact h, nF, by rw [wipeE_sub fun _ h => h]; exact nO, [], upd_same, .nil⟩
    have own : ∀ {F' : Addr → Prop} {H' : Hp} {env' : Evn} {acc : List PyData} {ys : List PyData}, LcSt X.K vs (wipe σ vs) D F H (wipeE env vs) (wipe σ vs) F' H' env' acc → env'[i]? = some (some (.o (.list ys))) → ∃ zs, H' l = some (.lst zs) ∧ RpA X.K F' H' zs ys := fun {F' H' env' acc ys} L h => by
      obtain ⟨a, ea, na, ca⟩ := L.aft.good.ow i (.list ys) (by rw [wipeE_at, if_neg hi]; exact h)
      rw [wipe_at, if_neg hi, e1] at ea
      cases ea
      cases ca with
      | lst h1 h2 => exact ⟨_, h1, h2⟩
    refine ⟨fun k m H' => m = xs.length - k ∧ k ≤ xs.length ∧ ∃ F' env' acc, LcSt X.K vs (wipe σ vs) D F H (wipeE env vs) (wipe σ vs) F' H' env' acc ∧ lcLoopO i vs g tgd ts (xs.length - k) k acc env' = .ok (accN, eN), ⟨_, rfl, Nat.zero_le _, F, _, [], start, hq⟩, ?_⟩
    intro k m H' ⟨hm, hk, F', env', acc, L, hl⟩
    cases hn : xs.length - k with
    | zero =>
      rw [hn] at hl
      unfold lcLoopO at hl
      cases h1 : env'[i]? with
      | none => rw [h1] at hl; exact (not_stk hl).elim
      | some o =>
      rw [h1] at hl
      cases o with
      | none => exact (not_stk hl).elim
      | some vl =>
      cases vl with
      | d x => exact (not_stk hl).elim
      | o x =>
      cases x <;> try exact (not_stk hl).elim
      rename_i ys
      obtain ⟨hle, hl⟩ := grd_ok (show grd (decide (ys.length ≤ k)) (acc, env') = .ok (accN, eN) from hl)
      have hle := of_decide_eq_true hle
      obtain ⟨rfl, rfl⟩ : acc = accN ∧ env' = eN := by
        cases hl
        exact ⟨rfl, rfl⟩
      obtain ⟨zs, hz, rz⟩ := own L h1
      refine .inl ⟨⟨zs, SqL.of hz, by rw [rz.len]; exact hle⟩, ?_⟩
      have A := rest_aft G L.aft L.sub
      obtain ⟨us, hD', hus⟩ := L.at'
      have no : ¬ Ownd (restE env env' vs) σ D := fun w => by
        obtain ⟨_, z⟩ | ⟨_, z⟩ := (G.wok D (A.sub D w)).2 <;> (rw [hD] at z; cases z)
      exact PoK.now po A ⟨D, rfl, L.nf, no, .lst hD' hus, .inl hD⟩
    | succ n =>
      rw [hn] at hl
      unfold lcLoopO at hl
      cases h1 : env'[i]? with
      | none => rw [h1] at hl; exact (not_stk hl).elim
      | some o =>
      rw [h1] at hl
      cases o with
      | none => exact (not_stk hl).elim
      | some vl =>
      cases vl with
      | d x => exact (not_stk hl).elim
      | o x =>
      cases x <;> try exact (not_stk hl).elim
      rename_i ys
      cases h2 : ys[k]? with
      | none =>
        have hl : (match ys[k]? with
          | some x => lcLoop vs g tgd ts [x] acc env' >>= fun p => lcLoopO i vs g tgd ts n (k + 1) p.1 p.2
          | none => stk) = .ok (accN, eN) := hl
        rw [h2] at hl
        exact (not_stk hl).elim
      | some d =>
        have hl : (match ys[k]? with
          | some x => lcLoop vs g tgd ts [x] acc env' >>= fun p => lcLoopO i vs g tgd ts n (k + 1) p.1 p.2
          | none => stk) = .ok (accN, eN) := hl
        rw [h2] at hl
        obtain ⟨⟨acc1, env1⟩, hl1, hl2⟩ := bindR (show (lcLoop vs g tgd ts [d] acc env' >>= fun p => lcLoopO i vs g tgd ts n (k + 1) p.1 p.2) = .ok (accN, eN) from hl)
        obtain ⟨zs, hz, rz⟩ := own L h1
        obtain ⟨z, ez, rp⟩ := rz.get' h2
        refine .inr ⟨⟨zs, z, SqL.of hz, ez⟩, fun H'' => ∃ F'' env'' acc'', LcSt X.K vs (wipe σ vs) D F H (wipeE env vs) (wipe σ vs) F'' H'' env'' acc'' ∧ lcLoopO i vs g tgd ts (xs.length - (k + 1)) (k + 1) acc'' env'' = .ok (accN, eN), fun H'' ⟨F'', env'', acc'', L'', hl''⟩ => ⟨xs.length - (k + 1), by omega, rfl, by omega, F'', env'', acc'', L'', hl''⟩, fun x H'' y => ?_⟩
        obtain ⟨y1, y2⟩ := y
        subst y1
        have := y2 zs (SqL.of hz)
        rw [ez] at this
        cases this
        refine lc_turnK (tp := false) hD L (fun _ _ h => h) (.inl rp) (.inl rfl) hsl hl1 fun F'' H'' env'' acc'' _ L'' hl'' => ?_
        have := ok_in (show (Except.ok (acc'', env'') : Rs _) = .ok (acc1, env1) from hl'')
        cases this
        refine ⟨F'', _, _, L'', ?_⟩
        rw [show xs.length - (k + 1) = n by omega]
        exact hl2
end
end Qv

set_option maxRecDepth 100000
set_option maxHeartbeats 1000000
/-! Q11: calls. -/
namespace Qv
open PySem PySem.Spec PyProof.Rows L2

/-! ### binding -/
/-- a relation of two lists -/
inductive Pr {α β : Type} (R : α → β → Prop) : List α → List β → Prop
  | nil : Pr R [] []
  | cons {a : α} {b : β} {as : List α} {bs : List β} : R a b → Pr R as bs → Pr R (a :: as) (b :: bs)
section
variable {α β : Type} {R R' : α → β → Prop}
theorem Pr.len : ∀ {as : List α} {bs : List β}, Pr R as bs → as.length = bs.length
  | _, _, .nil => rfl
  | _, _, .cons _ t => congrArg Nat.succ t.len
theorem Pr.get : ∀ {as : List α} {bs : List β} {i : Nat}, Pr R as bs → (as[i]? = none ∧ bs[i]? = none) ∨ ∃ a b, as[i]? = some a ∧ bs[i]? = some b ∧ R a b
  | _, _, _, .nil => .inl ⟨rfl, rfl⟩
  | _, _, 0, .cons r _ => .inr ⟨_, _, rfl, rfl, r⟩
  | _, _, i + 1, .cons _ t => by simpa using t.get (i := i)
theorem Pr.imp (h : ∀ a b, R a b → R' a b) : ∀ {as : List α} {bs : List β}, Pr R as bs → Pr R' as bs
  | _, _, .nil => .nil
  | _, _, .cons r t => .cons (h _ _ r) (t.imp h)
theorem Pr.look : ∀ {ks : List Str} {as : List α} {bs : List β} {x : Str}, Pr R as bs → ((ks.zip as).lookup x = none ∧ (ks.zip bs).lookup x = none) ∨ ∃ a b, (ks.zip as).lookup x = some a ∧ (ks.zip bs).lookup x = some b ∧ R a b
  | [], _, _, _, _ => .inl ⟨rfl, rfl⟩
  | _ :: _, _, _, _, .nil => .inl ⟨rfl, rfl⟩
  | k :: ks, _, _, x, .cons (a := a) (b := b) r t => by
    show ((match x == k with | true => some a | false => (ks.zip _).lookup x) = none ∧ (match x == k with | true => some b | false => (ks.zip _).lookup x) = none) ∨ _
    cases e : (x == k) with
    | true => exact .inr ⟨a, b, by simp [List.lookup, e], by simp [List.lookup, e], r⟩
    | false =>
      rcases t.look (ks := ks) (x := x) with ⟨h1, h2⟩ | ⟨a', b', h1, h2, h3⟩
      · exact .inl ⟨h1, h2⟩
      · exact .inr ⟨a', b', by simp [List.lookup, e, h1], by simp [List.lookup, e, h2], h3⟩
theorem pick_rel {dfl as kas : List α} {dfl' as' kas' : List β} {ks : List Str} {n : Nat} {p : Str} {i : Nat} (h1 : Pr R dfl dfl') (h2 : Pr R as as') (h3 : Pr R kas kas') : (pickG dfl as ks kas n p i = none ∧ pickG dfl' as' ks kas' n p i = none) ∨ ∃ a b, pickG dfl as ks kas n p i = some a ∧ pickG dfl' as' ks kas' n p i = some b ∧ R a b := by
  unfold pickG
  rcases h2.get (i := i) with ⟨q1, q2⟩ | ⟨x, y, q1, q2, q3⟩
  · rw [q1, q2]
    simp only
    rcases h3.look (ks := ks) (x := p) with ⟨q1, q2⟩ | ⟨x, y, q1, q2, q3⟩
    · rw [q1, q2, h1.len]
      simp only
      by_cases hh : n ≤ i + dfl'.length
      · rw [if_pos hh, if_pos hh]
        exact h1.get
      · rw [if_neg hh, if_neg hh]
        exact .inl ⟨rfl, rfl⟩
    · rw [q1, q2]
      exact .inr ⟨x, y, rfl, rfl, q3⟩
  · rw [q1, q2]
    exact .inr ⟨x, y, rfl, rfl, q3⟩
/-- arranging respects relations -/
theorem arr_rel {dfl as kas : List α} {dfl' as' kas' : List β} {ks : List Str} {n : Nat} (h1 : Pr R dfl dfl') (h2 : Pr R as as') (h3 : Pr R kas kas') : ∀ {ps : List Str} {i : Nat}, (arrG dfl as ks kas n ps i = none ∧ arrG dfl' as' ks kas' n ps i = none) ∨ ∃ all all', arrG dfl as ks kas n ps i = some all ∧ arrG dfl' as' ks kas' n ps i = some all' ∧ Pr R all all'
  | [], _ => .inr ⟨[], [], rfl, rfl, .nil⟩
  | p :: r, i => by
    unfold arrG
    rcases pick_rel h1 h2 h3 (n := n) (p := p) (i := i) with ⟨q1, q2⟩ | ⟨x, y, q1, q2, q3⟩
    · rw [q1, q2]
      exact .inl ⟨rfl, rfl⟩
    · rw [q1, q2]
      rcases arr_rel h1 h2 h3 (ps := r) (i := i + 1) with ⟨q1, q2⟩ | ⟨xs, ys, q1, q2, q4⟩
      · rw [q1, q2]
        exact .inl ⟨rfl, rfl⟩
      · rw [q1, q2]
        exact .inr ⟨x :: xs, y :: ys, rfl, rfl, .cons q3 q4⟩
end

/-! ### arguments -/
section
variable {X : Cx} {W : WX} {a : Expr} {e : Expr} {es : List Expr} {pos : Pos} {g : Evn → Rs (Vl × Evn)} {ga : Evn → Rs (List Arg' × Evn)}
def ResA1 (K : PySem.W.Frag) (σ : L2.St) (F : Addr → Prop) (H : Hp) : V → Arg' → Prop
  | v, .dt x => Rp K F H v x
  | v, .sl i => σ[i]? = some (some v)
def ResA (K : PySem.W.Frag) (σ : L2.St) : (Addr → Prop) → (Addr → Prop) → Hp → Evn → List V → List Arg' → Prop := fun _ F H _ vs as => Pr (ResA1 K σ F H) vs as
theorem ResA1.keep {K : PySem.W.Frag} {σ : L2.St} {F F' : Addr → Prop} {H H' : Hp} (k : Kp F H F' H') (v : V) (a : Arg') (h : ResA1 K σ F H v a) : ResA1 K σ F' H' v a := by
  cases a with
  | dt x => exact Rp.keep k _ _ h
  | sl i => exact h
def tAr (K : PySem.W.Frag) (W : WX) (f : Evn → Rs (List Arg' × Evn)) : TA := fun σ H Q => ∃ F env, Good K F H env σ ∧ Po K W (ResA K σ) f F env σ H Q
def nilA : Evn → Rs (List Arg' × Evn) := fun env => .ok ([], env)
def consD (g : Evn → Rs (Vl × Evn)) (ga : Evn → Rs (List Arg' × Evn)) : Evn → Rs (List Arg' × Evn) := fun env => g env >>= fun p => ga p.2 >>= fun q => .ok (.dt p.1.x :: q.1, q.2)
def consS (i : Nat) (ga : Evn → Rs (List Arg' × Evn)) : Evn → Rs (List Arg' × Evn) := fun env => match env[i]? with
  | some (some (.o _)) => ga env >>= fun q => .ok (.sl i :: q.1, q.2)
  | _ => stk
theorem r_nil {σ : L2.St} {H : Hp} {Q : List V → Hp → Prop} (h : tAr X.K W nilA σ H Q) : tNil σ H Q := by
  obtain ⟨F, env, G, po⟩ := h
  exact PoK.now (R := ResA X.K σ) (PoK.of po) (.refl G) .nil
theorem r_consD {σ : L2.St} {H : Hp} {Q : List V → Hp → Prop} (h : tAr X.K W (consD g ga) σ H Q) : tCons (tE X.K W g) (tAr X.K W ga) σ H Q := by
  obtain ⟨F, env, G, po⟩ := h
  refine ⟨F, env, G, Po.of ((PoK.next (f1 := g) (PoK.of po) (.refl G)).imp ?_)⟩
  intro v H1 ⟨F1, env1, r, s, _, q, e, po1⟩
  obtain ⟨F1', s', k', rp⟩ := s.share q fun _ h => h
  refine ⟨F1', env1, s'.good, (PoK.next (f1 := ga) (R1 := ResA X.K σ) po1 s').imp ?_⟩
  intro vs H2 ⟨F2, env2, r2, s2, t2, q2, e2, po2⟩
  exact PoK.now (R := ResA X.K σ) po2 s2 (.cons (rp.keep (t2.kp s'.good)) q2)
theorem r_consS {i : Nat} {σ : L2.St} {H : Hp} {Q : List V → Hp → Prop} (h : tAr X.K W (consS i ga) σ H Q) : tCons (tVar i) (tAr X.K W ga) σ H Q := by
  obtain ⟨F, env, G, po⟩ := h
  have po := PoK.of po
  cases e : env[i]? with
  | none => simp only [consS, e] at po; exact po.elim
  | some o =>
    cases o with
    | none => simp only [consS, e] at po; exact po.elim
    | some vl =>
      cases vl with
      | d x => simp only [consS, e] at po; exact po.elim
      | o x =>
        simp only [consS, e] at po
        obtain ⟨l, e1, n, c⟩ := G.ow i x e
        refine ⟨.ref l, e1, F, env, G, Po.of ((PoK.next (f1 := ga) (R1 := ResA X.K σ) po (.refl G)).imp ?_)⟩
        intro vs H2 ⟨F2, env2, r2, s2, t2, q2, e2, po2⟩
        exact PoK.now (R := ResA X.K σ) po2 s2 (.cons e1 q2)
theorem aa_nil : PA X [] (tAr X.K W nilA) := paOf pa_nil fun σ H Q h => r_nil h
theorem aa_consD (ha : PE X a (tE X.K W g)) (hr : PA X es (tAr X.K W ga)) (hn : nst a = true) : PA X (a :: es) (tAr X.K W (consD g ga)) := paOf (pa_cons ha hr (star_cons hn)) fun σ H Q h => r_consD h
theorem aa_consS {i : Nat} (ha : PE X a (tVar i)) (hr : PA X es (tAr X.K W ga)) (hn : nst a = true) : PA X (a :: es) (tAr X.K W (consS i ga)) := paOf (pa_cons ha hr (star_cons hn)) fun σ H Q h => r_consS h
theorem pkOf {kws : List Keyword} {t t' : TA} (h : PK X kws t) (i : ∀ σ H Q, t' σ H Q → t σ H Q) : PK X kws t' := ⟨fun pos pins s σ H Q I q => h.run pos pins s σ H Q I (i σ H Q q)⟩
theorem ak_nil : PK X [] (tAr X.K W nilA) := pkOf pk_nil fun σ H Q h => r_nil h
theorem ak_consD {nm : Option Str} {kp : Pos} {kws : List Keyword} (ha : PE X a (tE X.K W g)) (hr : PK X kws (tAr X.K W ga)) : PK X (⟨nm, a, kp⟩ :: kws) (tAr X.K W (consD g ga)) := pkOf (pk_cons ha hr) fun σ H Q h => r_consD h
theorem ak_consS {i : Nat} {nm : Option Str} {kp : Pos} {kws : List Keyword} (ha : PE X a (tVar i)) (hr : PK X kws (tAr X.K W ga)) : PK X (⟨nm, a, kp⟩ :: kws) (tAr X.K W (consS i ga)) := pkOf (pk_cons ha hr) fun σ H Q h => r_consS h
end

/-! ### what a def promises -/
/-- the arguments behind the call: those that may be changed bear the new contents -/
def aftA : List Vl → List PyData → List Vl
  | [], _ => []
  | .d x :: r, os => .d x :: aftA r os
  | .o _ :: r, o :: os => .o o :: aftA r os
  | .o x :: r, [] => .o x :: aftA r []
/-- a def's reading: vs the parameters' values -/
def spF (K : PySem.W.Frag) (n : Nat) (run : List Vl → Rs (Vl × List PyData)) : Sp := fun vs H Q E => vs.length = n ∧ ∃ F as, Good K F H (as.map some) (vs.map some) ∧ match run as with
  | .ok (r, outs) => ∀ v F' H', Stp (Ownd (as.map some) (vs.map some)) F H F' H' → Good K F' H' ((aftA as outs).map some) (vs.map some) → ResV K (vs.map some) (fun a => H a = none) F' H' ((aftA as outs).map some) v r → Q v H'
  | .error (.exc c fs) => ∀ cls d F' H', Stp (Ownd (as.map some) (vs.map some)) F H F' H' → ExcR K F' H' cls d c fs → E cls d H'
  | .error .stuck => False
/-- the def f stands at a module's name x and keeps its promise -/
structure FnG (P : Program) (w : World) (K : PySem.W.Frag) (mg : Str → Option Value) (base : Heap) (CX : CXT) (k : Nat) (x : Str) (fd : Fd) (f : Addr) (dt : FuncData) : Prop where
  at' : mg x = some (.ref f)
  kp : PySem.W.keepIn K (.ref f) = true
  run : ∀ (A : Around) (outer : List Env) (s : Shared) (H : Hp) (args : Args) (us : List Value) (vs : List V) (Q : VK) (E : XK), Room k A → A.guards = some [] → Env0 P w K mg base A outer s H → BindsTo s dt args (fd.ps.zip us) → Vals vs us → spF K fd.ps.length fd.run vs H Q E →
    codeAny (model P w) A (.call (.ref f) args) (CR CX outer P w H s Q E) s
/-- a call with n values and the keywords ks binds -/
def BnG (K : PySem.W.Frag) (fd : Fd) (dt : FuncData) (n : Nat) (ks : List Str) : Prop := ∃ (dvs : List V) (dus : List Value), Vals dvs dus ∧ (∀ F H, RpA K F H dvs fd.dfl) ∧
  ∀ (s : Shared) (us ws : List Value), K.In s.heap → us.length = n → ws.length = ks.length → ∃ all, arrG dus us ks ws fd.ps.length fd.ps 0 = some all ∧ BindsTo s dt ⟨us, ks.zip ws⟩ (fd.ps.zip all)
theorem vals_pr : ∀ {vs : List V} {us : List Value}, Vals vs us → Pr RelV vs us
  | _, _, .nil => .nil
  | _, _, .cons r t => .cons r (vals_pr t)
theorem pr_vals : ∀ {vs : List V} {us : List Value}, Pr RelV vs us → Vals vs us
  | _, _, .nil => .nil
  | _, _, .cons r t => .cons r (pr_vals t)

/-! ### the call -/
section
variable {K : PySem.W.Frag} {F F' : Addr → Prop} {H H' : Hp} {env : Evn} {σ : L2.St}
theorem argsV_get : ∀ {all : List Arg'} {vs : List Vl} {i : Nat} {v : Vl}, argsV env all = .ok vs → vs[i]? = some v → ∃ a, all[i]? = some a ∧ argV env a = .ok v
  | [], _, _, _, e, h => by
    obtain rfl := ok_in e
    simp at h
  | a :: r, vs, i, v, e, h => by
    obtain ⟨w, h1, e⟩ := bindR (show (argV env a >>= fun v => argsV env r >>= fun vs => .ok (v :: vs)) = .ok vs from e)
    obtain ⟨ws, h2, e⟩ := bindR e
    obtain rfl := ok_in e
    cases i with
    | zero =>
      cases h
      exact ⟨a, rfl, h1⟩
    | succ i => exact argsV_get (i := i) h2 (by simpa using h)
theorem slots_mem : ∀ {all : List Arg'} {k j : Nat}, all[k]? = some (.sl j) → j ∈ slots all
  | [], _, _, h => by simp at h
  | .dt x :: r, 0, _, h => by cases h
  | .sl i :: r, 0, _, h => by cases h; exact List.mem_cons_self ..
  | .dt x :: r, k + 1, _, h => slots_mem (all := r) (k := k) (by simpa using h)
  | .sl i :: r, k + 1, _, h => List.mem_cons_of_mem _ (slots_mem (all := r) (k := k) (by simpa using h))
/-- a slot stands once -/
theorem slots_inj : ∀ {all : List Arg'} {k l j : Nat}, nodupB (slots all) = true → all[k]? = some (.sl j) → all[l]? = some (.sl j) → k = l
  | [], _, _, _, _, h, _ => by simp at h
  | .dt x :: r, 0, _, _, _, h, _ => by cases h
  | .dt x :: r, _ + 1, 0, _, _, _, h => by cases h
  | .dt x :: r, k + 1, l + 1, j, n, h1, h2 => congrArg Nat.succ (slots_inj (all := r) n (by simpa using h1) (by simpa using h2))
  | .sl i :: r, 0, 0, _, _, _, _ => rfl
  | .sl i :: r, 0, l + 1, j, n, h1, h2 => by
    cases h1
    have hm := slots_mem (all := r) (k := l) (by simpa using h2)
    have n1 := (ba2 (show (!(slots r).contains i && nodupB (slots r)) = true from n)).1
    rw [Bool.not_eq_true', ← Bool.not_eq_true] at n1
    exact absurd (by simpa using hm) n1
  | .sl i :: r, k + 1, 0, j, n, h1, h2 => by
    cases h2
    have hm := slots_mem (all := r) (k := k) (by simpa using h1)
    have n1 := (ba2 (show (!(slots r).contains i && nodupB (slots r)) = true from n)).1
    rw [Bool.not_eq_true', ← Bool.not_eq_true] at n1
    exact absurd (by simpa using hm) n1
  | .sl i :: r, k + 1, l + 1, j, n, h1, h2 => congrArg Nat.succ (slots_inj (all := r) (ba2 (show (!(slots r).contains i && nodupB (slots r)) = true from n)).2 (by simpa using h1) (by simpa using h2))
/-- what the callee's frame starts with -/
theorem callee_good {all : List Arg'} {vals : List V} {vs : List Vl} (g : Good K F H env σ) (r : Pr (ResA1 K σ F H) vals all) (e : argsV env all = .ok vs) (n : nodupB (slots all) = true) : Good K F H (vs.map some) (vals.map some) := by
  have len : ∀ {all : List Arg'} {vs : List Vl}, argsV env all = .ok vs → vs.length = all.length := by
    intro all
    induction all with
    | nil => intro vs e; obtain rfl := ok_in e; rfl
    | cons a r ih =>
      intro vs e
      obtain ⟨w, h1, e⟩ := bindR (show (argV env a >>= fun v => argsV env r >>= fun vs => .ok (v :: vs)) = .ok vs from e)
      obtain ⟨ws, h2, e⟩ := bindR e
      obtain rfl := ok_in e
      exact congrArg Nat.succ (ih h2)
  have at1 : ∀ {i : Nat} {x : Vl}, (vs.map some)[i]? = some (some x) → ∃ a v, all[i]? = some a ∧ argV env a = .ok x ∧ (vals.map some)[i]? = some (some v) ∧ ResA1 K σ F H v a := fun {i x} h => by
    rw [List.getElem?_map] at h
    obtain ⟨y, h1, h2⟩ := Option.map_eq_some_iff.mp h
    cases h2
    obtain ⟨a, h3, h4⟩ := argsV_get e h1
    rcases r.get (i := i) with ⟨q1, q2⟩ | ⟨v, b, q1, q2, q3⟩
    · rw [h3] at q2; cases q2
    · rw [h3] at q2
      cases q2
      exact ⟨a, v, h3, h4, by rw [List.getElem?_map, q1]; rfl, q3⟩
  have own : ∀ {i : Nat} {d : PyData}, (vs.map some)[i]? = some (some (.o d)) → ∃ j l, all[i]? = some (.sl j) ∧ env[j]? = some (some (.o d)) ∧ σ[j]? = some (some (.ref l)) ∧ (vals.map some)[i]? = some (some (.ref l)) ∧ ¬ F l ∧ Ct K F H l d := fun {i d} h => by
    obtain ⟨a, v, h1, h2, h3, h4⟩ := at1 h
    cases a with
    | dt x => cases h2
    | sl j =>
      cases e1 : env[j]? with
      | none => simp only [argV, e1] at h2; cases h2
      | some o =>
        cases o with
        | none => simp only [argV, e1] at h2; cases h2
        | some w =>
          cases w with
          | d x => simp only [argV, e1] at h2; cases h2
          | o x =>
            simp only [argV, e1] at h2
            cases h2
            obtain ⟨l, e2, n, c⟩ := g.ow j d e1
            have e3 : σ[j]? = some (some v) := h4
            rw [e2] at e3
            cases e3
            exact ⟨j, l, h1, e1, e2, h3, n, c⟩
  refine ⟨by rw [List.length_map, List.length_map, len e, r.len], fun i d h => ?_, fun i d h => ?_, fun i k d d' a h1 h2 h3 h4 => ?_, g.dom⟩
  · obtain ⟨a, v, h1, h2, h3, h4⟩ := at1 h
    cases a with
    | dt x =>
      cases h2
      exact ⟨v, h3, h4⟩
    | sl j =>
      exfalso
      cases e1 : env[j]? with
      | none => simp only [argV, e1] at h2; cases h2
      | some o =>
        cases o with
        | none => simp only [argV, e1] at h2; cases h2
        | some w =>
          cases w with
          | d x => simp only [argV, e1] at h2; cases h2
          | o x => simp only [argV, e1] at h2; cases h2
  · obtain ⟨j, l, h1, h2, h3, h4, h5, h6⟩ := own h
    exact ⟨l, h4, h5, h6⟩
  · obtain ⟨j, l, p1, p2, p3, p4, _, _⟩ := own h1
    obtain ⟨j', l', q1, q2, q3, q4, _, _⟩ := own h2
    rw [h3] at p4
    rw [h4] at q4
    cases p4
    cases q4
    have ej := g.inj j j' d d' _ p2 q2 p3 q3
    subst ej
    exact slots_inj n p1 q1
end
end Qv

set_option maxRecDepth 100000
set_option maxHeartbeats 1000000
/-! Q12: behind a call; the rule for a call. -/
namespace Qv
open PySem PySem.Spec PyProof.Rows L2
section
variable {K : PySem.W.Frag} {W : WX} {F F' : Addr → Prop} {H H' : Hp} {env : Evn} {σ : L2.St}
theorem wb_len : ∀ {is : List Nat} {xs : List PyData} {env : Evn}, (writeB is xs env).length = env.length
  | [], _, _ => rfl
  | _ :: _, [], _ => rfl
  | i :: is, x :: xs, env => (wb_len (is := is) (xs := xs) (env := env.set i (some (.o x)))).trans (List.length_set ..)
theorem wb_out {j : Nat} : ∀ {is : List Nat} {xs : List PyData} {env : Evn}, j ∉ is → (writeB is xs env)[j]? = env[j]?
  | [], _, _, _ => rfl
  | _ :: _, [], _, _ => rfl
  | i :: is, x :: xs, env, h => by
    have h1 : j ∉ is := fun q => h (List.mem_cons_of_mem _ q)
    have h2 : i ≠ j := fun q => h (q ▸ List.mem_cons_self ..)
    exact (wb_out (is := is) (xs := xs) (env := env.set i (some (.o x))) h1).trans (List.getElem?_set_ne h2)
def shp1 : Arg' → Vl → Prop
  | .dt _, .d _ => True
  | .sl _, .o _ => True
  | _, _ => False
theorem shp_of : ∀ {all : List Arg'} {vs : List Vl}, argsV env all = .ok vs → Pr shp1 all vs
  | [], _, e => by obtain rfl := ok_in e; exact .nil
  | a :: r, vs, e => by
    obtain ⟨w, h1, e⟩ := bindR (show (argV env a >>= fun v => argsV env r >>= fun vs => .ok (v :: vs)) = .ok vs from e)
    obtain ⟨ws, h2, e⟩ := bindR e
    obtain rfl := ok_in e
    refine .cons ?_ (shp_of h2)
    cases a with
    | dt x => obtain rfl := ok_in h1; exact True.intro
    | sl j =>
      simp only [argV] at h1
      split at h1
      · obtain rfl := ok_in h1; exact True.intro
      · exact (not_stk h1).elim
theorem aft_at : ∀ {all : List Arg'} {vs : List Vl} {outs : List PyData} {env : Evn} {i j : Nat}, Pr shp1 all vs → nodupB (slots all) = true → (slots all).length = outs.length → (∀ k ∈ slots all, k < env.length) → all[i]? = some (.sl j) →
    ∃ o, (aftA vs outs)[i]? = some (.o o) ∧ (writeB (slots all) outs env)[j]? = some (some (.o o))
  | [], _, _, _, _, _, _, _, _, _, h => by simp at h
  | .dt x :: r, _, outs, env, 0, j, .cons (b := b) q t, n, hl, hk, h => by cases h
  | .dt x :: r, _, outs, env, i + 1, j, .cons (b := b) q t, n, hl, hk, h => by
    cases b with
    | o y => exact q.elim
    | d y => exact aft_at (all := r) (i := i) t n hl hk (by simpa using h)
  | .sl k :: r, _, [], env, i, j, .cons (b := b) q t, n, hl, hk, h => by cases hl
  | .sl k :: r, _, o :: os, env, i, j, .cons (b := b) (bs := bs) q t, n, hl, hk, h => by
    obtain ⟨n1, n2⟩ := ba2 (show (!(slots r).contains k && nodupB (slots r)) = true from n)
    rw [Bool.not_eq_true', ← Bool.not_eq_true] at n1
    have n1 : k ∉ slots r := fun q => n1 (by simpa using q)
    cases b with
    | d y => exact q.elim
    | o y =>
      cases i with
      | zero =>
        cases h
        exact ⟨o, rfl, (wb_out (is := slots r) (xs := os) (env := env.set k (some (.o o))) n1).trans (List.getElem?_set_self (hk k (List.mem_cons_self ..)))⟩
      | succ i =>
        obtain ⟨o', h1, h2⟩ := aft_at (all := r) (env := env.set k (some (.o o))) (i := i) (j := j) t n2 (Nat.succ.inj hl) (fun l q => by rw [List.length_set]; exact hk l (List.mem_cons_of_mem _ q)) (by simpa using h)
        exact ⟨o', h1, h2⟩
theorem slots_at : ∀ {all : List Arg'} {j : Nat}, j ∈ slots all → ∃ i : Nat, all[i]? = some (.sl j)
  | [], _, h => nomatch h
  | .dt x :: r, j, h => let ⟨i, e⟩ := slots_at (all := r) h; ⟨i + 1, by simpa using e⟩
  | .sl k :: r, j, h => by
    rcases List.mem_cons.mp h with h | h
    · subst h; exact ⟨0, rfl⟩
    · obtain ⟨i, e⟩ := slots_at (all := r) h
      exact ⟨i + 1, by simpa using e⟩
/-- what the callee may change -/
theorem callee_own {all : List Arg'} {vals : List V} {vs : List Vl} (r : Pr (ResA1 K σ F H) vals all) (e : argsV env all = .ok vs) {a : Addr} (h : Ownd (vs.map some) (vals.map some) a) : ∃ (i j : Nat) (d : PyData), all[i]? = some (.sl j) ∧ env[j]? = some (some (.o d)) ∧ σ[j]? = some (some (.ref a)) ∧ (vals.map some)[i]? = some (some (.ref a)) := by
  obtain ⟨i, d, h1, h2⟩ := h
  rw [List.getElem?_map] at h1
  obtain ⟨y, h3, h4⟩ := Option.map_eq_some_iff.mp h1
  cases h4
  obtain ⟨b, h5, h6⟩ := argsV_get e h3
  rw [List.getElem?_map] at h2
  obtain ⟨v, h7, h8⟩ := Option.map_eq_some_iff.mp h2
  cases h8
  rcases r.get (i := i) with ⟨q1, q2⟩ | ⟨v', b', q1, q2, q3⟩
  · rw [h5] at q2; cases q2
  · rw [h5] at q2
    rw [h7] at q1
    cases q2
    cases q1
    cases b with
    | dt x => cases h6
    | sl j =>
      simp only [argV] at h6
      split at h6
      · rename_i e1
        cases h6
        exact ⟨i, j, d, h5, e1, q3, by rw [List.getElem?_map, h7]; rfl⟩
      · exact (not_stk h6).elim
/-- the frame behind a call -/
theorem behind {all : List Arg'} {vals : List V} {vs : List Vl} {outs : List PyData} (g : Good K F H env σ) (r : Pr (ResA1 K σ F H) vals all) (e : argsV env all = .ok vs) (n : nodupB (slots all) = true) (hl : (slots all).length = outs.length)
    (st : Stp (Ownd (vs.map some) (vals.map some)) F H F' H') (cg : Good K F' H' ((aftA vs outs).map some) (vals.map some)) : Aft K F H env σ F' H' (writeB (slots all) outs env) := by
  have g0 := callee_good g r e n
  have k : Kp F H F' H' := g0.kp st
  have big : ∀ j ∈ slots all, ∃ (i : Nat) (d : PyData) (a : Addr), all[i]? = some (.sl j) ∧ env[j]? = some (some (.o d)) ∧ σ[j]? = some (some (.ref a)) ∧ (vals.map some)[i]? = some (some (.ref a)) := fun j hj => by
    obtain ⟨i, hi⟩ := slots_at hj
    rcases r.get (i := i) with ⟨q1, q2⟩ | ⟨v', b', q1, q2, q3⟩
    · rw [hi] at q2; cases q2
    · rw [hi] at q2
      cases q2
      rcases (shp_of e).get (i := i) with ⟨p1, p2⟩ | ⟨b, w, p1, p2, p3⟩
      · rw [hi] at p1; cases p1
      · rw [hi] at p1
        cases p1
        obtain ⟨a', h1, h2⟩ := argsV_get e p2
        rw [hi] at h1
        cases h1
        simp only [argV] at h2
        split at h2
        · rename_i x e1
          obtain ⟨l, e2, _⟩ := g.ow j x e1
          have q3 : σ[j]? = some (some v') := q3
          rw [e2] at q3
          cases q3
          exact ⟨i, x, l, hi, e1, e2, by rw [List.getElem?_map, q1]; rfl⟩
        · exact (not_stk h2).elim
  have lt : ∀ j ∈ slots all, j < env.length := fun j hj => let ⟨_, _, _, _, h, _⟩ := big j hj; (List.getElem?_eq_some_iff.mp h).1
  have inn : ∀ {j : Nat}, j ∈ slots all → ∃ (i : Nat) (o : PyData) (a : Addr), all[i]? = some (.sl j) ∧ (writeB (slots all) outs env)[j]? = some (some (.o o)) ∧ ((aftA vs outs).map some)[i]? = some (some (.o o)) ∧ σ[j]? = some (some (.ref a)) ∧ (vals.map some)[i]? = some (some (.ref a)) := fun {j} hj => by
    obtain ⟨i, d, a, h1, h2, h3, h4⟩ := big j hj
    obtain ⟨o, h5, h6⟩ := aft_at (shp_of e) n hl lt h1
    exact ⟨i, o, a, h1, h6, by rw [List.getElem?_map, h5]; rfl, h3, h4⟩
  -- what the callee did not hold
  have nown : ∀ {j : Nat} {d : PyData} {a : Addr}, j ∉ slots all → env[j]? = some (some (.o d)) → σ[j]? = some (some (.ref a)) → ¬ Ownd (vs.map some) (vals.map some) a := fun {j d a} hj h1 h2 w => by
    obtain ⟨i, j', d', h3, h4, h5, _⟩ := callee_own r e w
    have := g.inj j j' d d' a h1 h4 h2 h5
    subst this
    exact hj (slots_mem h3)
  refine ⟨⟨by rw [wb_len]; exact g.len, fun j d h => ?_, fun j d h => ?_, fun i j d d' a h1 h2 h3 h4 => ?_, cg.dom⟩, st.weak fun a w => let ⟨_, j, d, _, h4, h5, _⟩ := callee_own r e w; .inl ⟨j, d, h4, h5⟩, fun a w => ?_⟩
  · by_cases hj : j ∈ slots all
    · obtain ⟨i, o, a, _, h2, _⟩ := inn hj
      rw [h2] at h
      cases h
    · rw [wb_out hj] at h
      obtain ⟨v, e1, rp⟩ := g.sh j d h
      exact ⟨v, e1, rp.keep k⟩
  · by_cases hj : j ∈ slots all
    · obtain ⟨i, o, a, _, h2, h3, h4, h5⟩ := inn hj
      rw [h2] at h
      cases h
      obtain ⟨b, e1, nf, c⟩ := cg.ow i d h3
      rw [h5] at e1
      cases e1
      exact ⟨a, h4, nf, c⟩
    · rw [wb_out hj] at h
      obtain ⟨a, e1, nf, c⟩ := g.ow j d h
      have no := nown hj h e1
      obtain ⟨u, hu⟩ := c.some
      refine ⟨a, e1, fun f => ?_, c.keep k fun u h => st.keep a u h no⟩
      rcases st.new a f with f | f | f
      · exact nf f
      · rw [hu] at f; cases f
      · exact no f
  · have old : ∀ {j : Nat} {d : PyData}, (writeB (slots all) outs env)[j]? = some (some (.o d)) → ∃ d', env[j]? = some (some (.o d')) := fun {j d} h => by
      by_cases hj : j ∈ slots all
      · obtain ⟨_, d', _, _, h2, _⟩ := big j hj
        exact ⟨d', h2⟩
      · rw [wb_out hj] at h
        exact ⟨d, h⟩
    obtain ⟨x, p1⟩ := old h1
    obtain ⟨y, p2⟩ := old h2
    exact g.inj i j x y a p1 p2 h3 h4
  · obtain ⟨j, d, h1, h2⟩ := w
    by_cases hj : j ∈ slots all
    · obtain ⟨_, d', _, _, h3, _⟩ := big j hj
      exact ⟨j, d', h3, h2⟩
    · rw [wb_out hj] at h1
      exact ⟨j, d, h1, h2⟩
end
section
variable {X : Cx} {W : WX} {CX : CXT} {k : Nat} {x : Str} {fd : Fd} {f : Addr} {dt : FuncData} {es : List Expr} {kws : List Keyword} {ks : List Str} {p pos : Pos} {ga gk : Evn → Rs (List Arg' × Evn)}
def callE (fd : Fd) (ks : List Str) (ga gk : Evn → Rs (List Arg' × Evn)) : Evn → Rs (Vl × Evn) := fun env => ga env >>= fun p => gk p.2 >>= fun q => callF fd p.1 ks q.1 q.2
/-- names of a call's keywords -/
def kwN : List Keyword → List Str
  | [] => []
  | ⟨some n, _, _⟩ :: r => n :: kwN r
  | ⟨none, _, _⟩ :: r => kwN r
def kwB : List Keyword → Bool
  | [] => true
  | ⟨some _, _, _⟩ :: r => kwB r
  | ⟨none, _, _⟩ :: _ => false
theorem kw_all : ∀ {kws : List Keyword}, kwB kws = true → (backToKw pos (keywordEach kws X.env)).all (·.1.isSome) = true ∧ (backToKw pos (keywordEach kws X.env)).filterMap (·.1) = kwN kws ∧ (backToKw pos (keywordEach kws X.env)).any (·.1.isNone) = false
  | [], _ => ⟨rfl, rfl, rfl⟩
  | ⟨some n, e, q⟩ :: r, h => by
    obtain ⟨h1, h2, h3⟩ := kw_all (kws := r) h
    refine ⟨?_, ?_, ?_⟩
    · show (true && (backToKw pos (keywordEach r X.env)).all (·.1.isSome)) = true
      rw [h1]; rfl
    · show n :: (backToKw pos (keywordEach r X.env)).filterMap (·.1) = n :: kwN r
      rw [h2]
    · show (false || (backToKw pos (keywordEach r X.env)).any (·.1.isNone)) = false
      rw [h3]; rfl
  | ⟨none, e, q⟩ :: r, h => nomatch h
theorem pr_dfl {K : PySem.W.Frag} {σ : L2.St} {F : Addr → Prop} {H : Hp} : ∀ {vs : List V} {ds : List PyData}, RpA K F H vs ds → Pr (ResA1 K σ F H) vs (ds.map .dt)
  | _, _, .nil => .nil
  | _, _, .cons r t => .cons r (pr_dfl t)
theorem vals_len {vs : List V} {us : List Value} (r : Vals vs us) : vs.length = us.length := r.length
theorem arr_len {α : Type} {dfl as kas : List α} {ks : List Str} {n : Nat} : ∀ {ps : List Str} {i : Nat} {all : List α}, arrG dfl as ks kas n ps i = some all → all.length = ps.length
  | [], _, _, e => by cases e; rfl
  | p :: r, i, all, e => by
    unfold arrG at e
    obtain ⟨a, _, e⟩ := Option.bind_eq_some_iff.mp e
    obtain ⟨as1, h4, rfl⟩ := Option.map_eq_some_iff.mp e
    exact congrArg Nat.succ (arr_len h4)
theorem pr_res {K : PySem.W.Frag} {σ : L2.St} {F F' : Addr → Prop} {H H' : Hp} (k : Kp F H F' H') {vs : List V} {as : List Arg'} (h : Pr (ResA1 K σ F H) vs as) : Pr (ResA1 K σ F' H') vs as := h.imp fun v a => ResA1.keep k v a
/-- what callWith comes down to -/
theorem run_call {pins : List (Addr × Obj)} {σ : L2.St} {H : Hp} {s : Shared} {Q : VK} {us ws : List Value} {vs zs : List V} {F0 F : Addr → Prop} {env0 env : Evn} {H0 : Hp} {as kas : List Arg'} (Fg : FnG X.prog X.w X.K X.mg X.base CX k x fd f dt) (hr : Room k X.A) (hgd : X.A.guards = some []) (hb : BnG X.K fd dt us.length ks) (hx : PassesAt CX X σ (WE W σ))
    (I : Inv X pins σ H s) (r1 : Vals vs us) (r2 : Vals zs ws) (hk : ws.length = ks.length) (S : Aft X.K F0 H0 env0 σ F H env) (q1 : Pr (ResA1 X.K σ F H) vs as) (q2 : Pr (ResA1 X.K σ F H) zs kas)
    (po : PoK X.K W (ResV X.K σ) (callF fd as ks kas env) F0 env0 σ H0 Q) : wpAny (model X.prog X.w) X.A (call (.ref f) us (ks.zip ws)) (EP X pins σ Q) X.xe s := by
  obtain ⟨dvs, dus, hdv, hdd, hbind⟩ := hb
  obtain ⟨allU, ha1, hbt⟩ := hbind s us ws I.kIn rfl hk
  -- the values, the written arguments in the parameters' order
  have dr := hdd F H
  rcases arr_rel (vals_pr hdv) (vals_pr r1) (vals_pr r2) (ks := ks) (n := fd.ps.length) (ps := fd.ps) (i := 0) with ⟨_, z⟩ | ⟨allV, allU', hv1, hv2, hv3⟩
  · rw [z] at ha1; cases ha1
  rw [hv2] at ha1
  cases ha1
  rcases arr_rel (R := ResA1 X.K σ F H) (pr_dfl dr) q1 q2 (ks := ks) (n := fd.ps.length) (ps := fd.ps) (i := 0) with ⟨z, _⟩ | ⟨allV', allA, hw1, hw2, hw3⟩
  · rw [z] at hv1; cases hv1
  rw [hv1] at hw1
  cases hw1
  have po : PoK X.K W (ResV X.K σ) (optR (arrG (fd.dfl.map .dt) as ks kas fd.ps.length fd.ps 0) >>= fun all => argsV env all >>= fun vs => grd (nodupB (slots all)) () >>= fun _ => fd.run vs >>= fun p => grd (decide ((slots all).length = p.2.length)) () >>= fun _ => .ok (p.1, writeB (slots all) p.2 env)) F0 env0 σ H0 Q := po
  rw [hw2] at po
  have po : PoK X.K W (ResV X.K σ) (argsV env allA >>= fun vs => grd (nodupB (slots allA)) () >>= fun _ => fd.run vs >>= fun p => grd (decide ((slots allA).length = p.2.length)) () >>= fun _ => .ok (p.1, writeB (slots allA) p.2 env)) F0 env0 σ H0 Q := po
  cases hav : argsV env allA with
  | error y =>
    have nx : ∀ {all : List Arg'} c fs, argsV env all ≠ .error (.exc c fs) := by
      intro all
      induction all with
      | nil => intro c fs; exact nofun
      | cons a r ih =>
        intro c fs e
        have e : (argV env a >>= fun v => argsV env r >>= fun vs => .ok (v :: vs)) = .error (.exc c fs) := e
        cases h1 : argV env a with
        | error y =>
          rw [h1] at e
          have e : (Except.error y : Rs (List Vl)) = .error (.exc c fs) := e
          cases e
          cases a with
          | dt x => cases h1
          | sl i =>
            simp only [argV] at h1
            split at h1 <;> cases h1
        | ok v =>
          rw [h1] at e
          have e : (argsV env r >>= fun vs => (.ok (v :: vs) : Rs (List Vl))) = .error (.exc c fs) := e
          cases h2 : argsV env r with
          | error y =>
            rw [h2] at e
            have e : (Except.error y : Rs (List Vl)) = .error (.exc c fs) := e
            cases e
            exact ih c fs h2
          | ok vs => rw [h2] at e; cases e
    rw [hav] at po
    cases y with
    | stuck => exact po.elim
    | exc c fs => exact absurd hav (nx c fs)
  | ok av =>
    rw [hav] at po
    have po : PoK X.K W (ResV X.K σ) (grd (nodupB (slots allA)) () >>= fun _ => fd.run av >>= fun p => grd (decide ((slots allA).length = p.2.length)) () >>= fun _ => .ok (p.1, writeB (slots allA) p.2 env)) F0 env0 σ H0 Q := po
    obtain ⟨hn, po⟩ := po.guard
    have g0 := callee_good S.good hw3 hav hn
    have hsp : spF X.K fd.ps.length fd.run allV H Q (WE W σ) := by
      refine ⟨arr_len hv1, F, av, g0, ?_⟩
      cases hrun : fd.run av with
      | error y =>
        rw [hrun] at po
        cases y with
        | stuck => exact po.elim
        | exc c fs =>
          exact fun cls d F' H' st ex => po cls d F' H' (S.stp.trans (st.weak fun a w => let ⟨_, j, d, _, h4, h5, _⟩ := callee_own hw3 hav w; .inl ⟨j, d, h4, h5⟩) fun a w => .inl (S.sub a w)) ex
      | ok pr =>
        obtain ⟨rv, outs⟩ := pr
        rw [hrun] at po
        have po : PoK X.K W (ResV X.K σ) (grd (decide ((slots allA).length = outs.length)) () >>= fun _ => .ok (rv, writeB (slots allA) outs env)) F0 env0 σ H0 Q := po
        obtain ⟨hl, po⟩ := po.guard
        have hl := of_decide_eq_true hl
        intro v F' H' st cg q
        have A := behind S.good hw3 hav hn hl st cg
        refine PoK.now po (S.trans A) ?_
        cases rv with
        | d y => exact q
        | o y =>
          obtain ⟨a, e1, n1, n2, c, z⟩ := q
          refine ⟨a, e1, n1, fun w => ?_, c, .inl ?_⟩
          · obtain ⟨o, ho⟩ : ∃ o, H a = some o := by
              have ww := S.good.wok a (A.sub a w)
              rcases ww.2 with ⟨_, e⟩ | ⟨_, e⟩ <;> exact ⟨_, e⟩
            rw [z] at ho
            cases ho
          · cases e : H0 a with
            | none => rfl
            | some o => exact absurd z (S.stp.dom a (by rw [e]; simp))
    refine wpAny_call (codeAny_mono (Fg.run X.A X.stack s H ⟨us, ks.zip ws⟩ allU allV Q (WE W σ) hr hgd I.env0 hbt (pr_vals hv3) hsp) fun r s' hq => ?_)
    cases r with
    | error e => exact hx pins H s e s' I hq
    | ok fl =>
      cases fl with
      | ret u => exact I.after hq
      | next => exact False.elim hq
      | brk => exact False.elim hq
      | cont => exact False.elim hq
theorem s_call (Fg : FnG X.prog X.w X.K X.mg X.base CX k x fd f dt) (hr : Room k X.A) (hgd : X.A.guards = some []) (hb : BnG X.K fd dt es.length ks) (hx : ∀ σ, PassesAt CX X σ (WE W σ)) (hg : Gl X x) (hdb : (x == ("__debug__" : Str)) = false)
    (ha : PA X es (tAr X.K W ga)) (hk : PK X kws (tAr X.K W gk)) (hs : es.all nst = true) (hkb : kwB kws = true) (hkn : kwN kws = ks) (hnil : es = [] → ∀ env, ga env = .ok ([], env)) (hga : ∀ env as e, ga env = .ok (as, e) → as.length = es.length) (hgk : ∀ env as e, gk env = .ok (as, e) → as.length = ks.length) : PE X (.Call (.Name x p) es kws pos) (tE X.K W (callE fd ks ga gk)) := by
  obtain ⟨k1, k2, k3⟩ := kw_all (X := X) (pos := pos) hkb
  refine ⟨fun pins s σ H Q I h => ?_⟩
  obtain ⟨F, env, G, po⟩ := h
  refine wpAny_Call_Name_kw (ld_glob I hg Fg.at' ?_ hdb)
  have main : ∀ {us : List Value} {vs : List V} {s1 : Shared} {H1 : Hp}, Inv X pins σ H1 s1 → Vals vs us → us.length = es.length → (∃ F1 env1 as, Aft X.K F H env σ F1 H1 env1 ∧ Pr (ResA1 X.K σ F1 H1) vs as ∧ PoK X.K W (ResV X.K σ) (gk env1 >>= fun q => callF fd as ks q.1 q.2) F env σ H Q) →
      wpAny (model X.prog X.w) X.A (evalAll ((backToKw pos (keywordEach kws X.env)).map (·.2))) (fun kv s2 => X.K.In s2.heap ∧ wpAny (model X.prog X.w) X.A (call (.ref f) us (((backToKw pos (keywordEach kws X.env)).filterMap (·.1)).zip kv)) (EP X pins σ Q) X.xe s2) X.xe s1 := by
    intro us vs s1 H1 I1 r1 hl ⟨F1, env1, as, S1, q1, po1⟩
    refine thn (hk.run pos pins s1 σ H1 _ I1 ⟨F1, env1, S1.good, PoK.next (f1 := gk) (R1 := ResA X.K σ) po1 S1⟩) fun ws s2 ⟨zs, H2, I2, r2, F2, env2, kas, S2, T2, q2, e2, po2⟩ => ⟨I2.kIn, ?_⟩
    rw [k2, hkn]
    have hwl : ws.length = ks.length := by
      have l1 := r2.length
      have l2 := q2.len
      rw [← l1, l2]
      exact hgk _ _ _ e2
    exact run_call Fg hr hgd (by rw [hl]; exact hb) (hx σ) I2 r1 r2 hwl S2 (pr_res (T2.kp S1.good) q1) q2 po2
  have fin : ∀ {us : List Value} {s1 : Shared}, AP X pins σ (fun vs H1 => ∃ F1 env1 as, Aft X.K F H env σ F1 H1 env1 ∧ Aft X.K F H env σ F1 H1 env1 ∧ Pr (ResA1 X.K σ F1 H1) vs as ∧ ga env = .ok (as, env1) ∧ PoK X.K W (ResV X.K σ) (gk env1 >>= fun q => callF fd as ks q.1 q.2) F env σ H Q) us s1 →
      wpAny (model X.prog X.w) X.A (evalAll ((backToKw pos (keywordEach kws X.env)).map (·.2))) (fun kv s2 => X.K.In s2.heap ∧ wpAny (model X.prog X.w) X.A (call (.ref f) us (((backToKw pos (keywordEach kws X.env)).filterMap (·.1)).zip kv)) (EP X pins σ Q) X.xe s2) X.xe s1 := by
    intro us s1 ⟨vs, H1, I1, r1, F1, env1, as, S1, _, q1, e1, po1⟩
    refine main I1 r1 ?_ ⟨F1, env1, as, S1, q1, po1⟩
    have l1 := r1.length
    have l2 := q1.len
    rw [← l1, l2]
    exact hga _ _ _ e1
  have hA := ha.run pos pins s σ H _ I ⟨F, env, G, PoK.next (f1 := ga) (R1 := ResA X.K σ) (PoK.of po) (.refl G)⟩
  match es, hs, hA, hnil with
  | [], _, hA, hnil =>
    refine PySem.W.callWith_KW0 (h₀ := X.base) I.ok.mod.kin Fg.kp k1 ?_ (by show (false || _) = false; rw [k3]; rfl)
    have hz : AP X pins σ (fun vs H1 => ∃ F1 env1 as, Aft X.K F H env σ F1 H1 env1 ∧ Aft X.K F H env σ F1 H1 env1 ∧ Pr (ResA1 X.K σ F1 H1) vs as ∧ ga env = .ok (as, env1) ∧ PoK X.K W (ResV X.K σ) (gk env1 >>= fun q => callF fd as ks q.1 q.2) F env σ H Q) [] s := by
      have e0 := hnil rfl env
      have po0 := PoK.of po
      unfold callE at po0
      rw [e0] at po0
      exact ⟨[], H, I, .nil, F, env, [], .refl G, .refl G, .nil, e0, po0⟩
    exact fin hz
  | e :: es', hs, hA, _ =>
    rw [List.all_cons, Bool.and_eq_true] at hs
    exact PySem.W.callWith_KW (h₀ := X.base) I.ok.mod.kin Fg.kp k1 (thn hA fun us s1 h => fin h) (by
      rw [star_cons hs.1]
      show ((false || (backTo pos (starEach es' X.env)).any (·.1)) || _) = false
      rw [star_any hs.2, k3]; rfl) (star_cons hs.1)
end
end Qv

set_option maxRecDepth 100000
set_option maxHeartbeats 1000000
/-! Q13: statements. -/
namespace Qv
open PySem PySem.Spec PyProof.Rows L2
section
variable {K : PySem.W.Frag} {W : WX} {pr : List Nat} {F F' F1 F2 : Addr → Prop} {H H' H1 H2 : Hp} {env env' env1 env2 : Evn} {σ σ' σ1 σ2 : L2.St} {D : Ends}
/-- what the end m of a statement asks, from the start (F, H, env, σ) -/
def PoS (K : PySem.W.Frag) (W : WX) (pr : List Nat) (m : Rs (Fl × Evn)) (F : Addr → Prop) (env : Evn) (σ : L2.St) (H : Hp) (D : Ends) : Prop := match m with
  | .ok (.nx, env') => ∀ σ' F' H', AftS K pr F H env σ F' H' env' σ' → D.nx σ' H'
  | .ok (.brk, env') => ∀ σ' F' H', AftS K pr F H env σ F' H' env' σ' → D.bk σ' H'
  | .ok (.cnt, env') => ∀ σ' F' H', AftS K pr F H env σ F' H' env' σ' → D.ct σ' H'
  | .ok (.ret r, env') => ∀ v σ' F' H', AftS K pr F H env σ F' H' env' σ' → ResV K σ' (Nw H env σ) F' H' env' v r → D.rt v H'
  | .error (.exc c fs) => ∀ cls d σ' F' H', Stp (Ownd env σ) F H F' H' → ExcR K F' H' cls d c fs → W cls d σ' H'
  | .error .stuck => False
def tS (K : PySem.W.Frag) (W : WX) (pr : List Nat) (f : Evn → Rs (Fl × Evn)) : TS := fun D σ H => ∃ F env, Good K F H env σ ∧ PoS K W pr (f env) F env σ H D
theorem AftS.nw (s : AftS K pr F H env σ F1 H1 env1 σ1) : ∀ a, Nw H1 env1 σ1 a → Nw H env σ a := fun a h => by
  rcases h with h | h
  · cases e : H a with
    | none => exact .inl e
    | some o => exact absurd h (s.stp.dom a (by rw [e]; simp))
  · exact (s.sub a h).elim .inr .inl
theorem PoS.base {m : Rs (Fl × Evn)} (h : PoS K W pr m F env σ H D) (s : AftS K pr F H env σ F1 H1 env1 σ1) : PoS K W pr m F1 env1 σ1 H1 D := by
  cases m with
  | error x =>
    cases x with
    | stuck => exact h
    | exc c fs => exact fun cls d σ' F' H' t q => h cls d σ' F' H' (s.stp.trans t s.sub) q
  | ok p =>
    obtain ⟨fl, e⟩ := p
    cases fl with
    | nx => exact fun σ' F' H' t => h σ' F' H' (s.trans t)
    | brk => exact fun σ' F' H' t => h σ' F' H' (s.trans t)
    | cnt => exact fun σ' F' H' t => h σ' F' H' (s.trans t)
    | ret r => exact fun v σ' F' H' t q => h v σ' F' H' (s.trans t) (q.mono s.nw)
/-- an expression first -/
theorem PoS.expr {α1 β1 : Type} {R1 : RR α1 β1} {f1 : Evn → Rs (α1 × Evn)} {f2 : α1 × Evn → Rs (Fl × Evn)} (h : PoS K W pr (f1 env1 >>= f2) F env σ H D) (s : AftS K pr F H env σ F1 H1 env1 σ1) :
    Po K W R1 f1 F1 env1 σ1 H1 (fun v1 H2 => ∃ F2 env2 r, AftS K pr F H env σ F2 H2 env2 σ1 ∧ Aft K F1 H1 env1 σ1 F2 H2 env2 ∧ R1 (Nw H1 env1 σ1) F2 H2 env2 v1 r ∧ f1 env1 = .ok (r, env2) ∧ PoS K W pr (f2 (r, env2)) F env σ H D) := by
  unfold Po
  cases e : f1 env1 with
  | error x =>
    rw [e] at h
    cases x with
    | stuck => exact h
    | exc c fs => exact fun cls d F' H' t q => h cls d σ1 F' H' (s.stp.trans t s.sub) q
  | ok p =>
    rw [e] at h
    exact fun v F2 H2 t q => ⟨F2, p.2, p.1, s.trans t.s, t, q, rfl, h⟩
theorem PoS.grd {b : Bool} {p : Fl × Evn} (h : PoS K W pr (grd b p) F env σ H D) : b = true ∧ PoS K W pr (.ok p) F env σ H D := by
  cases b with
  | true => exact ⟨rfl, h⟩
  | false => exact h.elim
theorem PoS.nx (h : PoS K W pr (.ok (.nx, env')) F env σ H D) (s : AftS K pr F H env σ F' H' env' σ') : D.nx σ' H' := h σ' F' H' s
/-- an owned thing gets new contents -/
theorem Good.write {i : Nat} {d d' : PyData} {l : Addr} {o : HO} (g : Good K F H env σ) (hi : env[i]? = some (some (.o d))) (hs : σ[i]? = some (some (.ref l))) (hc : ∀ H', Kp F H F H' → H' l = some o → Ct K F H' l d') : AftS K pr F H env σ F (upd H l o) (env.set i (some (.o d'))) σ := by
  obtain ⟨l', e, nF, c⟩ := g.ow i d hi
  rw [hs] at e
  cases e
  have il := (List.getElem?_eq_some_iff.mp hi).1
  have ol : Ownd env σ l := ⟨i, d, hi, hs⟩
  obtain ⟨o0, h0⟩ := c.some
  have hm : (∃ xs, o0 = .lst xs) ∨ ∃ xs, o0 = .dK xs := by
    rcases c.mut with ⟨xs, e⟩ | ⟨xs, e⟩ <;> rw [h0] at e <;> cases e
    · exact .inl ⟨_, rfl⟩
    · exact .inr ⟨_, rfl⟩
  have k : Kp F H F (upd H l o) := kp_write nF h0 hm
  have other : ∀ {j : Nat} {e : PyData} {a : Addr}, i ≠ j → env[j]? = some (some (.o e)) → σ[j]? = some (some (.ref a)) → a ≠ l := fun {j e a} ne h1 h2 q => by
    subst q
    exact ne (g.inj i j d e _ hi h1 hs h2)
  refine ⟨⟨by rw [List.length_set]; exact g.len, fun j e h => ?_, fun j e h => ?_, fun j m e e' a h1 h2 h3 h4 => ?_, fun a f => by rw [upd_ne (ne_by f nF)]; exact g.dom a f⟩, ⟨fun _ h => h, fun _ h => .inl h, fun a u h n => by rw [upd_ne fun q => n (by rw [q]; exact ol)]; exact h, fun a h => ?_⟩, fun a w => .inl ?_, fun _ _ => rfl⟩
  · by_cases q : i = j
    · subst q
      rw [List.getElem?_set_self il] at h
      cases h
    · rw [List.getElem?_set_ne q] at h
      obtain ⟨v, e1, r⟩ := g.sh j e h
      exact ⟨v, e1, r.keep k⟩
  · by_cases q : i = j
    · subst q
      rw [List.getElem?_set_self il] at h
      cases h
      exact ⟨l, hs, nF, hc _ k upd_same⟩
    · rw [List.getElem?_set_ne q] at h
      obtain ⟨a, e1, n, c⟩ := g.ow j e h
      exact ⟨a, e1, n, c.keep k fun u hu => by rw [upd_ne (other q h e1)]; exact hu⟩
  · have un : ∀ {j : Nat} {e : PyData}, (env.set i (some (.o d')))[j]? = some (some (.o e)) → ∃ e', env[j]? = some (some (.o e')) := fun {j e} h => by
      by_cases q : i = j
      · subst q; exact ⟨d, hi⟩
      · rw [List.getElem?_set_ne q] at h; exact ⟨e, h⟩
    obtain ⟨_, p1⟩ := un h1
    obtain ⟨_, p2⟩ := un h2
    exact g.inj j m _ _ a p1 p2 h3 h4
  · by_cases q : a = l
    · subst q; rw [upd_same]; simp
    · rw [upd_ne q]; exact h
  · obtain ⟨j, e, h1, h2⟩ := w
    by_cases q : i = j
    · subst q; exact ⟨i, d, hi, h2⟩
    · rw [List.getElem?_set_ne q] at h1; exact ⟨j, e, h1, h2⟩
end
section
variable {X : Cx} {W : WX} {pr : List Nat} {a b c e : Expr} {st : Stmt} {rest body orel : List Stmt} {pos : Pos} {g g' : Evn → Rs (Vl × Evn)} {ft : Evn → Rs (Bool × Evn)} {fs fb fc : Evn → Rs (Fl × Evn)}
theorem psOf {t t' : TS} (h : PS X st t) (i : ∀ D σ H, t' D σ H → t D σ H) : PS X st t' := ⟨fun pins s σ H D I q => h.run pins s σ H D I (i D σ H q)⟩
theorem pssOf {t t' : TS} (h : PSs X rest t) (i : ∀ D σ H, t' D σ H → t D σ H) : PSs X rest t' := ⟨fun pins s σ H D I q => h.run pins s σ H D I (i D σ H q)⟩
/-! ### blocks, choices -/
def nilF : Evn → Rs (Fl × Evn) := fun env => .ok (.nx, env)
def seqF (fs fb : Evn → Rs (Fl × Evn)) : Evn → Rs (Fl × Evn) := fun env => fs env >>= fun p => match p.1 with
  | .nx => fb p.2
  | f => .ok (f, p.2)
theorem b_nil : PSs X [] (tS X.K W pr nilF) := pssOf pss_nil fun D σ H ⟨F, env, G, po⟩ => PoS.nx po (.refl G)
theorem b_cons (h : PS X st (tS X.K W pr fs)) (h2 : PSs X rest (tS X.K W pr fb)) : PSs X (st :: rest) (tS X.K W pr (seqF fs fb)) := by
  refine pssOf (pss_cons h h2) fun D σ H ⟨F, env, G, po⟩ => ⟨F, env, G, ?_⟩
  unfold seqF at po
  cases e : fs env with
  | error x =>
    rw [e] at po
    cases x with
    | stuck => exact po
    | exc c f => exact po
  | ok p =>
    obtain ⟨fl, e1⟩ := p
    rw [e] at po
    cases fl with
    | nx => exact fun σ' F' H' A => ⟨F', e1, A.good, PoS.base (show PoS X.K W pr (fb e1) F env σ H D from po) A⟩
    | brk => exact po
    | cnt => exact po
    | ret r => exact po
theorem s_if (hc : PT X c (tT X.K W ft)) (ha : PSs X body (tS X.K W pr fs)) (hb : PSs X orel (tS X.K W pr fb)) : PS X (.If c body orel pos) (tS X.K W pr (iteF ft fs fb)) := by
  refine psOf (ps_if hc ha hb) fun D σ H ⟨F, env, G, po⟩ => ?_
  refine ⟨F, env, G, (PoS.expr (f1 := ft) po (.refl G)).imp ?_⟩
  intro v H1 ⟨F1, env1, r, s, t, q, e, po1⟩
  cases q
  have po1 := PoS.base po1 s
  cases v with
  | true => exact ⟨F1, env1, s.good, po1⟩
  | false => exact ⟨F1, env1, s.good, po1⟩
theorem s_pass : PS X (.Pass pos) (tS X.K W pr nilF) := psOf ps_pass fun D σ H ⟨F, env, G, po⟩ => PoS.nx po (.refl G)
theorem s_doc {x : Str} {j : Nat} {p2 : Pos} : PS X (.Expr (.Constant (.str x) j p2) pos) (tS X.K W pr nilF) := psOf ps_doc fun D σ H ⟨F, env, G, po⟩ => PoS.nx po (.refl G)
theorem s_brk : PS X (.Break pos) (tS X.K W pr fun env => .ok (.brk, env)) := psOf ps_break fun D σ H ⟨F, env, G, po⟩ => po σ F H (.refl G)
theorem s_cnt : PS X (.Continue pos) (tS X.K W pr fun env => .ok (.cnt, env)) := psOf ps_continue fun D σ H ⟨F, env, G, po⟩ => po σ F H (.refl G)
theorem s_nev : PS X st (tS X.K W pr fun _ => stk) := psOf ps_never fun D σ H ⟨F, env, G, po⟩ => po.elim
theorem s_exp (he : PE X e (tE X.K W g)) (hs : swapsWith e none pos.line X.env = pure false) : PS X (.Expr e pos) (tS X.K W pr fun env => g env >>= fun p => .ok (.nx, p.2)) := by
  refine psOf (ps_expr he hs) fun D σ H ⟨F, env, G, po⟩ => ?_
  refine ⟨F, env, G, (PoS.expr (f1 := g) po (.refl G)).imp ?_⟩
  intro v H1 ⟨F1, env1, r, s, t, q, e, po1⟩
  exact PoS.nx po1 s
/-! ### return -/
theorem s_ret (he : PE X e (tE X.K W g)) : PS X (.Return (some e) pos) (tS X.K W pr fun env => g env >>= fun p => .ok (.ret p.1, p.2)) := by
  refine psOf (ps_ret he) fun D σ H ⟨F, env, G, po⟩ => ?_
  refine ⟨F, env, G, (PoS.expr (f1 := g) po (.refl G)).imp ?_⟩
  intro v H1 ⟨F1, env1, r, s, t, q, e, po1⟩
  exact po1 v σ F1 H1 s q
theorem s_retN : PS X (.Return none pos) (tS X.K W pr fun env => .ok (.ret (.d .none), env)) := psOf ps_retN fun D σ H ⟨F, env, G, po⟩ => po .non σ F H (.refl G) .non
/-- a name: what it owns goes on to the caller -/
def retV (i : Nat) : Evn → Rs (Fl × Evn) := fun env => match env[i]? with
  | some (some (.o x)) => .ok (.ret (.o x), env.set i none)
  | _ => getV i env >>= fun p => .ok (.ret p.1, p.2)
theorem s_retV {i : Nat} {x : Str} {p : Pos} (hN : X.N[i]? = some x) (hv : Vis X.env.scope x) (hd : (x == ("__debug__" : Str)) = false) (hcd : (x == ("__classdict__" : Str)) = false) : PS X (.Return (some (.Name x p)) pos) (tS X.K W pr (retV i)) := by
  refine ⟨fun pins s σ H D I h => ?_⟩
  obtain ⟨F, env, G, po⟩ := h
  by_cases ho : ∃ x, env[i]? = some (some (.o x))
  · obtain ⟨d, e⟩ := ho
    obtain ⟨l, e1, n, c⟩ := G.ow i d e
    refine (ps_ret (pe_var hN hv hd hcd)).run pins s σ H D I ⟨.ref l, e1, ?_⟩
    unfold retV at po
    rw [e] at po
    have un : ∀ {j : Nat} {x : Vl}, (env.set i none)[j]? = some (some x) → i ≠ j ∧ env[j]? = some (some x) := fun {j x} h => by
      by_cases q : i = j
      · subst q
        rw [List.getElem?_set_self (List.getElem?_eq_some_iff.mp e).1] at h
        cases h
      · rw [List.getElem?_set_ne q] at h
        exact ⟨q, h⟩
    have G' : Good X.K F H (env.set i none) σ := ⟨by rw [List.length_set]; exact G.len, fun j d h => G.sh j d (un h).2, fun j d h => G.ow j d (un h).2, fun j k d e a h1 h2 => G.inj j k d e a (un h1).2 (un h2).2, G.dom⟩
    have own : Ownd env σ l := ⟨i, d, e, e1⟩
    refine po (.ref l) σ F H ⟨G', .refl _ _ _, fun a ⟨j, d, h1, h2⟩ => .inl ⟨j, d, (un h1).2, h2⟩, fun _ _ => rfl⟩ ⟨l, rfl, n, fun ⟨j, d', h1, h2⟩ => (un h1).1 (G.inj i j d d' l e (un h1).2 e1 h2), c, .inr own⟩
  · refine (s_ret (W := W) (pr := pr) (s_var hN hv hd hcd)).run pins s σ H D I ⟨F, env, G, ?_⟩
    have : retV i env = (getV i env >>= fun p => .ok (.ret p.1, p.2)) := by
      unfold retV
      split
      · rename_i x e
        exact absurd ⟨x, e⟩ ho
      · rfl
    rw [this] at po
    exact po
/-! ### stores -/
def asgF (i : Nat) (g : Evn → Rs (Vl × Evn)) : Evn → Rs (Fl × Evn) := fun env => g env >>= fun p => .ok (.nx, setS i p.1 p.2)
theorem asg_t {i : Nat} {te : TE} {D : Ends} {σ : L2.St} {H : Hp} (hi : i ∉ pr) (ht : ∀ Q, tE X.K W g σ H Q → te σ H Q) (h : tS X.K W pr (asgF i g) D σ H) : tAsg te (gName i) D σ H := by
  obtain ⟨F, env, G, po⟩ := h
  refine ht _ ⟨F, env, G, (PoS.expr (f1 := g) po (.refl G)).imp ?_⟩
  intro v H1 ⟨F1, env1, r, s, t, q, e, po1⟩
  exact PoS.nx po1 (s.set hi q fun a h => h.elim .inr .inl)
theorem s_asg {i : Nat} {x : Str} {px : Pos} (hi : i ∉ pr) (hN : X.N.Nodup) (hx : X.N[i]? = some x) (hl : Loc X.env.scope x) (he : PE X e (tE X.K W g)) (hs : swapsWith e (some (.Name x px)) pos.line X.env = pure false) (hf : X.fn x = true ∨ X.env.scope.names.lookup x = some .local) :
    PS X (.Assign [.Name x px] e pos) (tS X.K W pr (asgF i g)) := psOf (ps_set hN hx hl he hs hf) fun D σ H h => asg_t hi (fun Q h => h) h
def asgTF (is : List Nat) (g : Evn → Rs (Vl × Evn)) : Evn → Rs (Fl × Evn) := fun env => g env >>= fun p => bindT (.tp is) p.1.x p.2 >>= fun e => .ok (.nx, e)
theorem bindT_nx {tg : Tg} {x : PyData} {env : Evn} : ∀ c fs, bindT tg x env ≠ .error (.exc c fs) := by
  intro c fs
  cases tg with
  | nm i => exact nofun
  | tp is =>
    cases x with
    | tuple ds =>
      show (if ds.length = is.length then .ok ((is.zip ds).foldl (fun e p => e.set p.1 (some (.d p.2))) env) else stk : Rs Evn) ≠ _
      split
      · intro h; cases h
      · intro h; cases h
    | _ => intro h; cases h
theorem s_asgT {is : List Nat} {ts : List Expr} {kt : Nat} {pt : Pos} (hi : ∀ i ∈ is, i ∉ pr) (hg : PG X (.Tuple ts kt pt) (gT X.K (.tp is))) (he : PE X e (tE X.K W g)) (hs : swapsWithSole [.Tuple ts kt pt] e pos.line X.env = pure false) (hw : swappedStores [.Tuple ts kt pt] e X.env = pure none) : PS X (.Assign [.Tuple ts kt pt] e pos) (tS X.K W pr (asgTF is g)) := by
  refine psOf (ps_asg he hg hs hw) fun D σ H ⟨F, env, G, po⟩ => ?_
  refine ⟨F, env, G, (PoS.expr (f1 := g) po (.refl G)).imp ?_⟩
  intro v H1 ⟨F1, env1, r, s, t, q, e, po1⟩
  obtain ⟨F1', s', k', rp⟩ := t.share q fun _ h => h
  have po1 : PoS X.K W pr (bindT (.tp is) r.x env1 >>= fun e => .ok (.nx, e)) F env σ H D := po1
  cases hb : bindT (.tp is) r.x env1 with
  | error x =>
    rw [hb] at po1
    cases x with
    | stuck => exact po1.elim
    | exc c fs => exact absurd hb (bindT_nx c fs)
  | ok e2 =>
    rw [hb] at po1
    exact bind_ok (tp := false) (pr := pr) s'.good (.inl rp) hb (.inl rfl) hi fun σ' A _ _ => PoS.nx po1 (s'.s.trans A)
def asg2F (i j : Nat) (g g' : Evn → Rs (Vl × Evn)) : Evn → Rs (Fl × Evn) := fun env => g env >>= fun p => g' p.2 >>= fun q => .ok (.nx, setS j q.1 (setS i p.1 q.2))
theorem s_asg2 {i j : Nat} {x y : Str} {px py pt pt2 : Pos} {kt k2 : Nat} (hip : i ∉ pr) (hjp : j ∉ pr) (hc : X.calm = true) (hN : X.N.Nodup) (hi : X.N[i]? = some x) (hj : X.N[j]? = some y) (hij : i ≠ j) (hx : X.env.scope.names.lookup x = some .local) (hy : X.env.scope.names.lookup y = some .local)
    (ha : PE X a (tE X.K W g)) (hb : PE X b (tE X.K W g')) (hn : nst a = true) (hn2 : nst b = true) (hw : swappedStores [.Tuple [.Name x px, .Name y py] kt pt] (.Tuple [a, b] k2 pt2) X.env = pure (some [x, y])) :
    PS X (.Assign [.Tuple [.Name x px, .Name y py] kt pt] (.Tuple [a, b] k2 pt2) pos) (tS X.K W pr (asg2F i j g g')) := by
  refine psOf (ps_par hc hN hi hj hij hx hy (pa_cons ha (pa_cons hb pa_nil (star_cons hn2)) (star_cons hn)) hw rfl) fun D σ H ⟨F, env, G, po⟩ => ?_
  refine ⟨F, env, G, (PoS.expr (f1 := g) po (.refl G)).imp ?_⟩
  intro v H1 ⟨F1, env1, r, s, t, q, e, po1⟩
  refine ⟨F1, env1, s.good, (PoS.expr (f1 := g') (R1 := ResV X.K σ) po1 s).imp ?_⟩
  intro w H2 ⟨F2, env2, r2, s2, t2, q2, e2, po2⟩
  have q' := q.keep s.good t2
  have A := s2.set (i := i) hip q' fun a h => h.elim .inr .inl
  have qq : ResV X.K (σ.set i (some v)) (Nw H1 env1 σ) F2 H2 (env2.set i (some r)) w r2 := by
    cases r2 with
    | d y => exact q2
    | o y =>
      obtain ⟨l, e1, n1, n2, c, z⟩ := q2
      refine ⟨l, e1, n1, fun w => ?_, c, z⟩
      rcases own_set q' w with w | ⟨⟨y, e3⟩, e4⟩
      · exact n2 w
      · subst e3
        obtain ⟨l', e5, n5, n6, c5, z5⟩ := q
        rw [e4] at e5
        cases e5
        obtain ⟨u, hu⟩ := c5.some
        rcases z with z | z
        · rw [hu] at z; cases z
        · exact n6 z
  have B := A.set (i := j) hjp qq fun a h => (s.nw a h).elim .inr .inl
  exact ⟨v, w, rfl, PoS.nx po2 B⟩
/-! ### loops -/
def forF (tg : Tg) (it : Evn → Rs (List PyData × Evn)) (fb : Evn → Rs (Fl × Evn)) : Evn → Rs (Fl × Evn) := fun env => it env >>= fun p => forLoop tg fb p.1 p.2
theorem s_for {tp : Bool} {tgd : Tg} {tg iter : Expr} {it : Evn → Rs (List PyData × Evn)} (hp : PassesOwn (model X.prog X.w) X.A X.env X.xe) (hc : X.calm = true) (hi : PI X tg iter (tI X.K W tp it)) (hg : PG X tg (gT X.K tgd)) (hb : PSs X body (tS X.K W pr fb)) (hs : ∀ x, foldedSetIterable iter X.env x = pure x)
    (ht : tp = false ∨ ∃ is, tgd = .tp is) (hpr : ∀ i ∈ tgd.sl, i ∉ pr) : PS X (.For tg iter body [] pos) (tS X.K W pr (forF tgd it fb)) := by
  refine psOf (ps_for hp hc hi hg hb hs) fun D σ H ⟨F, env, G, po⟩ => ?_
  refine ⟨F, env, G, (PoS.expr (f1 := it) po (.refl G)).imp ?_⟩
  intro J H1 ⟨F1, env1, xs, s1, t1, hJ, e1, po1⟩
  have po1 : PoS X.K W pr (forLoop tgd fb xs env1) F1 env1 σ H1 D := PoS.base po1 s1
  refine ⟨fun i m σ' H' => m = xs.length - i ∧ i ≤ xs.length ∧ ∃ F' env', AftS X.K pr F1 H1 env1 σ F' H' env' σ' ∧ PoS X.K W pr (forLoop tgd fb (xs.drop i) env') F1 env1 σ H1 D, ⟨_, rfl, Nat.zero_le _, F1, env1, .refl s1.good, po1⟩, ?_⟩
  intro i m σ' H' ⟨hm, hi, F', env', A, po2⟩
  obtain ⟨stop, go⟩ := hJ F' H' (A.kp s1.good) i
  by_cases he : i = xs.length
  · refine .inl ⟨stop he, ?_⟩
    rw [he, List.drop_length] at po2
    exact PoS.nx po2 A
  · have hlt : i < xs.length := by omega
    obtain ⟨jgo, yld⟩ := go xs[i] (List.getElem?_eq_getElem hlt)
    rw [List.drop_eq_getElem_cons hlt] at po2
    have po2 : PoS X.K W pr (bindT tgd xs[i] env' >>= fun e1 => fb e1 >>= fun p => match p.1 with
      | .nx => forLoop tgd fb (xs.drop (i + 1)) p.2
      | .cnt => forLoop tgd fb (xs.drop (i + 1)) p.2
      | .brk => .ok (.nx, p.2)
      | .ret r => .ok (.ret r, p.2)) F1 env1 σ H1 D := by
      have e : forLoop tgd fb (xs[i] :: xs.drop (i + 1)) env' = (bindT tgd xs[i] env' >>= fun e1 => fb e1 >>= fun p => match p.1 with
        | .nx => forLoop tgd fb (xs.drop (i + 1)) p.2
        | .cnt => forLoop tgd fb (xs.drop (i + 1)) p.2
        | .brk => .ok (.nx, p.2)
        | .ret r => .ok (.ret r, p.2)) := by
        first
          | (rw [forLoop]; done)
          | (rw [forLoop]
             refine congrArg _ (funext fun e1 => congrArg _ (funext fun p => ?_))
             obtain ⟨fl, e⟩ := p
             cases fl <;> rfl)
      rw [← e]
      exact po2
    refine .inr ⟨jgo, fun σ'' H'' => ∃ F'' env'', AftS X.K pr F1 H1 env1 σ F'' H'' env'' σ'' ∧ PoS X.K W pr (forLoop tgd fb (xs.drop (i + 1)) env'') F1 env1 σ H1 D, fun σ'' H'' ⟨F'', env'', A'', po''⟩ => ⟨xs.length - (i + 1), by omega, rfl, hlt, F'', env'', A'', po''⟩, fun x H2 y => ?_⟩
    obtain ⟨sm, br⟩ := yld x H2 y
    have A1 : AftS X.K pr F1 H1 env1 σ F' H2 env' σ' := A.trans (Aft.same A.good sm).s
    cases hbt : bindT tgd xs[i] env' with
    | error x =>
      rw [hbt] at po2
      cases x with
      | stuck => exact po2.elim
      | exc c fs => exact absurd hbt (bindT_nx c fs)
    | ok be =>
      rw [hbt] at po2
      have po2 : PoS X.K W pr (fb be >>= fun p => match p.1 with
        | .nx => forLoop tgd fb (xs.drop (i + 1)) p.2
        | .cnt => forLoop tgd fb (xs.drop (i + 1)) p.2
        | .brk => .ok (.nx, p.2)
        | .ret r => .ok (.ret r, p.2)) F1 env1 σ H1 D := po2
      refine bind_ok (pr := pr) A1.good br hbt ht hpr fun σ2 B _ _ => ?_
      have AB := A1.trans B
      refine ⟨F', be, B.good, ?_⟩
      cases hfb : fb be with
      | error x =>
        rw [hfb] at po2
        cases x with
        | stuck => exact po2.elim
        | exc c fs => exact PoS.base (m := .error (.exc c fs)) po2 AB
      | ok p =>
        obtain ⟨fl, e2⟩ := p
        rw [hfb] at po2
        cases fl with
        | nx => exact fun σ3 F3 H3 C => ⟨F3, e2, AB.trans C, po2⟩
        | cnt => exact fun σ3 F3 H3 C => ⟨F3, e2, AB.trans C, po2⟩
        | brk => exact fun σ3 F3 H3 C => PoS.nx (show PoS X.K W pr (.ok (.nx, e2)) F1 env1 σ H1 D from po2) (AB.trans C)
        | ret r => exact PoS.base (m := .ok (.ret r, e2)) (show PoS X.K W pr (.ok (.ret r, e2)) F1 env1 σ H1 D from po2) AB
theorem s_whl (hp : PassesOwn (model X.prog X.w) X.A X.env X.xe) (hc : PT X c (tT X.K W ft)) (hb : PSs X body (tS X.K W pr fb)) : PS X (.While c body [] pos) (tS X.K W pr (whlLoop ft fb fuel)) := by
  refine psOf (ps_while hp hc hb) fun D σ H ⟨F, env, G, po⟩ => ?_
  refine ⟨fun m σ' H' => ∃ F' env', AftS X.K pr F H env σ F' H' env' σ' ∧ PoS X.K W pr (whlLoop ft fb m env') F env σ H D, ⟨fuel, F, env, .refl G, po⟩, ?_⟩
  intro m σ' H' ⟨F', env', A, po2⟩
  cases m with
  | zero => exact po2.elim
  | succ m =>
    have po2 : PoS X.K W pr (ft env' >>= fun p => if p.1 then (fb p.2 >>= fun q => match q.1 with
      | .nx => whlLoop ft fb m q.2
      | .cnt => whlLoop ft fb m q.2
      | .brk => .ok (.nx, q.2)
      | .ret r => .ok (.ret r, q.2)) else .ok (.nx, p.2)) F env σ H D := by
      have e : whlLoop ft fb (m + 1) env' = (ft env' >>= fun p => if p.1 then (fb p.2 >>= fun q => match q.1 with
        | .nx => whlLoop ft fb m q.2
        | .cnt => whlLoop ft fb m q.2
        | .brk => .ok (.nx, q.2)
        | .ret r => .ok (.ret r, q.2)) else .ok (.nx, p.2)) := by
        first
          | (rw [whlLoop]; done)
          | (rw [whlLoop]
             refine congrArg _ (funext fun p => ?_)
             obtain ⟨b, e1⟩ := p
             cases b
             · rfl
             · refine congrArg (fb e1 >>= ·) (funext fun q => ?_)
               obtain ⟨fl, e⟩ := q
               cases fl <;> rfl)
      rw [← e]
      exact po2
    refine ⟨F', env', A.good, (PoS.expr (f1 := ft) po2 A).imp ?_⟩
    intro v H1 ⟨F1, env1, r, s, t, q, e, po3⟩
    cases q
    cases v with
    | false => exact PoS.nx po3 s
    | true =>
      have po3 : PoS X.K W pr (fb env1 >>= fun q => match q.1 with
        | .nx => whlLoop ft fb m q.2
        | .cnt => whlLoop ft fb m q.2
        | .brk => .ok (.nx, q.2)
        | .ret r => .ok (.ret r, q.2)) F env σ H D := po3
      refine ⟨fun σ'' H'' => ∃ F'' env'', AftS X.K pr F H env σ F'' H'' env'' σ'' ∧ PoS X.K W pr (whlLoop ft fb m env'') F env σ H D, fun σ'' H'' h => ⟨m, Nat.lt_succ_self m, h⟩, F1, env1, s.good, ?_⟩
      cases hfb : fb env1 with
      | error x =>
        rw [hfb] at po3
        cases x with
        | stuck => exact po3.elim
        | exc c fs => exact PoS.base (m := .error (.exc c fs)) po3 s
      | ok p =>
        obtain ⟨fl, e2⟩ := p
        rw [hfb] at po3
        cases fl with
        | nx => exact fun σ3 F3 H3 C => ⟨F3, e2, s.trans C, po3⟩
        | cnt => exact fun σ3 F3 H3 C => ⟨F3, e2, s.trans C, po3⟩
        | brk => exact fun σ3 F3 H3 C => PoS.nx (show PoS X.K W pr (.ok (.nx, e2)) F env σ H D from po3) (s.trans C)
        | ret r => exact PoS.base (m := .ok (.ret r, e2)) (show PoS X.K W pr (.ok (.ret r, e2)) F env σ H D from po3) s
end
end Qv

set_option maxRecDepth 100000
set_option maxHeartbeats 1000000
/-! Q14: stores into dicts, += , append, dict displays. -/
namespace Qv
open PySem PySem.Spec PyProof.Rows L2
section
variable {K : PySem.W.Frag} {F : Addr → Prop} {H : Hp}
theorem look_any {x : Str} : ∀ {kvs : List (Key × V)} {es : List (PyData × PyData)}, RpK K F H kvs es → (kvs.any fun kv => decide (kv.1 = .inr x)) = es.any fun p => PyData.eqv p.1 (.str x)
  | _, _, .nil => rfl
  | _, _, .cons (k := k) r t => by
    rw [List.any_cons, List.any_cons, look_any t]
    show (decide (k = Sum.inr x) || _) = (PyData.eqv (keyD k) (.str x) || _)
    rw [eqv_key]
theorem rpk_map {x : Str} {v : V} {d : PyData} (h : Rp K F H v d) : ∀ {kvs : List (Key × V)} {es : List (PyData × PyData)}, RpK K F H kvs es → RpK K F H (kvs.map fun kv => if kv.1 = .inr x then (kv.1, v) else kv) (es.map fun p => if PyData.eqv p.1 (.str x) then (p.1, d) else p)
  | _, _, .nil => .nil
  | _, _, .cons (k := k) r t => by
    rw [List.map_cons, List.map_cons]
    show RpK K F H ((if k = Sum.inr x then (k, v) else (k, _)) :: _) ((if PyData.eqv (keyD k) (.str x) then (keyD k, d) else (keyD k, _)) :: _)
    rw [eqv_key]
    by_cases e : k = .inr x
    · rw [if_pos e, decide_eq_true e, if_pos rfl]
      exact .cons h (rpk_map h t)
    · rw [if_neg e, decide_eq_false e, if_neg Bool.false_ne_true]
      exact .cons r (rpk_map h t)
theorem rpk_app {kvs ms : List (Key × V)} {es fs : List (PyData × PyData)} (h : RpK K F H kvs es) (g : RpK K F H ms fs) : RpK K F H (kvs ++ ms) (es ++ fs) := by
  induction kvs generalizing es with
  | nil => cases h; exact g
  | cons p kvs ih =>
    cases h with
    | cons r t => exact .cons r (ih t)
theorem rpk_put {x : Str} {v : V} {d : PyData} {kvs : List (Key × V)} {es : List (PyData × PyData)} (t : RpK K F H kvs es) (h : Rp K F H v d) : RpK K F H (putK kvs (.inr x) v) (putD (.str x) d es) := by
  unfold putK putD
  rw [look_any t]
  split
  · exact rpk_map h t
  · exact rpk_app t (.cons (k := .inr x) h .nil)
theorem rpk_len : ∀ {kvs : List (Key × V)} {es : List (PyData × PyData)}, RpK K F H kvs es → kvs.length = es.length
  | _, _, .nil => rfl
  | _, _, .cons _ t => congrArg Nat.succ (rpk_len t)
end
section
variable {X : Cx} {W : WX} {pr : List Nat} {a b c e : Expr} {pos : Pos} {g g' : Evn → Rs (Vl × Evn)}
/-- d['k'] = e -/
def putF (i : Nat) (k : Str) (g : Evn → Rs (Vl × Evn)) : Evn → Rs (Fl × Evn) := fun env => g env >>= fun p => match p.2[i]? with
  | some (some (.o (.dict es))) => grd (decide (es.length ≤ lim)) (.nx, setS i (.o (.dict (putD (.str k) p.1.x es))) p.2)
  | _ => stk
theorem s_put {i j : Nat} {x k : Str} {px pk p2 : Pos} (hu : roomC X) (hN : X.N[i]? = some x) (hv : Vis X.env.scope x) (hd : (x == ("__debug__" : Str)) = false) (hcd : (x == ("__classdict__" : Str)) = false) (he : PE X e (tE X.K W g)) (hs : swapsWith e (some (.Subscript (.Name x px) (.Constant (.str k) j pk) p2)) pos.line X.env = pure false) :
    PS X (.Assign [.Subscript (.Name x px) (.Constant (.str k) j pk) p2] e pos) (tS X.K W pr (putF i k g)) := by
  have hu : X.A.units + 70 < cLine := hu
  refine psOf (ps_dput (by omega) (pe_var hN hv hd hcd) (pe_str (x := k)) he hs) fun D σ H ⟨F, env, G, po⟩ => ?_
  refine ⟨F, env, G, (PoS.expr (f1 := g) po (.refl G)).imp ?_⟩
  intro v H1 ⟨F1, env1, r, s, t, q, e, po1⟩
  obtain ⟨F1', t', k', rp⟩ := t.share q fun _ h => h
  cases e1 : env1[i]? with
  | none => simp only [e1] at po1; exact po1.elim
  | some o =>
    cases o with
    | none => simp only [e1] at po1; exact po1.elim
    | some vl =>
      cases vl with
      | d y => simp only [e1] at po1; exact po1.elim
      | o y =>
        cases y <;> try (simp only [e1] at po1; exact po1.elim)
        rename_i es
        simp only [e1] at po1
        obtain ⟨hz, po1⟩ := po1.grd
        have hz := of_decide_eq_true hz
        obtain ⟨l, e2, n, ct⟩ := t'.good.ow i _ e1
        cases ct with
        | dic h1 h2 =>
          rename_i kvs
          have hl := rpk_len h2
          have ll := lim2_line
          refine ⟨.ref l, e2, l, _, rfl, .inl ⟨kvs, .inr k, h1, rfl, by omega, rfl⟩, ?_⟩
          exact PoS.nx po1 (t'.s.trans (t'.good.write e1 e2 fun H' k' hk => .dic hk ((rpk_put h2 rp).keep k' _ _)))
/-- xs.append(e) -/
def appF (i : Nat) (g : Evn → Rs (Vl × Evn)) : Evn → Rs (Fl × Evn) := fun env => match env[i]? with
  | some (some (.o (.list _))) => g env >>= fun p => (match p.2[i]? with
    | some (some (.o (.list xs))) => grd (decide (xs.length < lim)) (.nx, setS i (.o (.list (xs ++ [p.1.x]))) p.2)
    | _ => stk)
  | _ => stk
theorem s_app {i : Nat} {x : Str} {px apos p2 : Pos} (hN : X.N[i]? = some x) (hv : Vis X.env.scope x) (hd : (x == ("__debug__" : Str)) = false) (hcd : (x == ("__classdict__" : Str)) = false) (he : PE X e (tE X.K W g)) (hn : nst e = true) (hline : (apos.endLine == p2.line) = true) :
    PS X (.Expr (.Call (.Attribute (.Name x px) "append" apos) [e] [] p2) pos) (tS X.K W pr (appF i g)) := by
  refine ⟨fun pins s σ H D I h => ?_⟩
  obtain ⟨F, env, G, po⟩ := h
  have hfew : ((backTo p2 (starEach [e] X.env)).all (fun x => !x.1) && (backToKw p2 (keywordEach [] X.env)).all (fun x => x.1.isSome)
      && decide (([e] : List Expr).length + ([] : List Keyword).length + (if ([] : List Keyword).isEmpty then 0 else 1) < 30)) = true := by
    rw [star_cons hn]
    rfl
  have hA : PE X (.Call (.Attribute (.Name x px) "append" apos) [e] [] p2) (tBM X.K "list" rAppend (tVar i) (tCons (tE X.K W g) tNil)) :=
    pe_bm PySem.F.plainAttrs_list PySem.F.slot_list_append PySem.F.type_list_append mt_append (pe_var hN hv hd hcd) (pa_cons he pa_nil (star_cons hn)) rfl hfew hline (star_cons hn) rfl
  have ho : ∃ ds, env[i]? = some (some (.o (.list ds))) := by
    unfold appF at po
    split at po
    · rename_i d e
      exact ⟨d, e⟩
    · exact po.elim
  obtain ⟨ds0, e0⟩ := ho
  obtain ⟨l, hl, n0, c0⟩ := G.ow i _ e0
  obtain ⟨xs, hq⟩ : ∃ xs, H l = some (.lst xs) := by cases c0 with | lst h1 _ => exact ⟨_, h1⟩
  simp only [appF, e0] at po
  refine (ps_expr hA rfl).run pins s σ H D I ⟨.ref l, hl, .inl ⟨rfl, xs, .of hq⟩, F, env, G, (PoS.expr (f1 := g) po (.refl G)).imp ?_⟩
  intro v H1 ⟨F1, env1, r, s, t, q, e, po1⟩
  obtain ⟨F1', t', k', rp⟩ := t.share q fun _ h => h
  cases e1 : env1[i]? with
  | none => simp only [e1] at po1; exact po1.elim
  | some o =>
    cases o with
    | none => simp only [e1] at po1; exact po1.elim
    | some vl =>
      cases vl with
      | d y => simp only [e1] at po1; exact po1.elim
      | o y =>
        cases y <;> try (simp only [e1] at po1; exact po1.elim)
        rename_i ds
        simp only [e1] at po1
        obtain ⟨hz, po1⟩ := po1.grd
        have hz := of_decide_eq_true hz
        obtain ⟨l', e2, n, ct⟩ := t'.good.ow i _ e1
        rw [hl] at e2
        cases e2
        cases ct with
        | lst h1 h2 =>
          rename_i ys
          have hlen := h2.len
          have ll := lim2_line
          refine ⟨l, ys, v, rfl, rfl, h1, by omega, ?_⟩
          exact PoS.nx po1 (t'.s.trans (t'.good.write e1 hl fun H' k' hk => .lst hk ((h2.keep k' _ _).app (.cons (rp.keep k' _ _) .nil))))
/-- x += e, x -= e: ints -/
def augF (i : Nat) (op : BOp) (g : Evn → Rs (Vl × Evn)) : Evn → Rs (Fl × Evn) := fun env => match env[i]? with
  | some (some (.d (.int a))) => g env >>= fun q => (match q.1 with
    | .d (.int b) => (match augI op a b with
      | some z => .ok (.nx, setS i (.d (.int z)) q.2)
      | none => stk)
    | _ => stk)
  | _ => stk
def opOf : BOp → Operator
  | .add => .Add
  | .sub => .Sub
  | .mul => .Mult
  | .fdiv => .FloorDiv
  | .mod => .Mod
  | .pow => .Pow
theorem s_aug {i : Nat} {x : Str} {px : Pos} {op : BOp} (hop : op = .add ∨ op = .sub) (hi : i ∉ pr) (hN : X.N.Nodup) (hx : X.N[i]? = some x) (hl : Loc X.env.scope x) (he : PE X e (tE X.K W g)) (hf : X.fn x = true ∨ X.env.scope.names.lookup x = some .local) :
    PS X (.AugAssign (.Name x px) (opOf op) e pos) (tS X.K W pr (augF i op g)) := by
  have key : ∀ {f : Int → Int → Int}, PIp X (opOf op) (ipI f) → (∀ (a b : Int), augI op a b = some (f a b)) → PS X (.AugAssign (.Name x px) (opOf op) e pos) (tS X.K W pr (augF i op g)) := by
    intro f hp hf2
    refine psOf (ps_aug hN hx hl he hp hf) fun D σ H ⟨F, env, G, po⟩ => ?_
    have ho : ∃ a, env[i]? = some (some (.d (.int a))) := by
      unfold augF at po
      split at po
      · rename_i d e
        exact ⟨d, e⟩
      · exact po.elim
    obtain ⟨a, e0⟩ := ho
    obtain ⟨v0, e1, r0⟩ := G.sh i _ e0
    cases r0
    simp only [augF, e0] at po
    refine ⟨.int a, e1, F, env, G, (PoS.expr (f1 := g) po (.refl G)).imp ?_⟩
    intro v H1 ⟨F1, env1, r, s, t, q, e, po1⟩
    cases r with
    | o y => exact po1.elim
    | d y =>
      cases y <;> try exact po1.elim
      rename_i b
      cases q
      simp only [hf2] at po1
      refine ⟨a, b, rfl, rfl, PoS.nx po1 (s.set hi (v := .int (f a b)) (r := .d (.int (f a b))) (N := fun _ => False) (.int _) fun _ h => h.elim)⟩
  rcases hop with rfl | rfl
  · exact key ip_add fun a b => rfl
  · exact key ip_sub fun a b => rfl

/-! ### {'k': e, ..} -/
def dctF (ks : List Str) (gl : Evn → Rs (List PyData × Evn)) : Evn → Rs (Vl × Evn) := fun env => gl env >>= fun p => .ok (.o (.dict ((ks.map .str).zip p.1)), p.2)
theorem merge_app : ∀ {more acc : List (Key × V)}, (more.map (·.1)).Nodup → (∀ p ∈ more, ∀ q ∈ acc, q.1 ≠ p.1) → mergeK acc more = acc ++ more
  | [], acc, _, _ => by rw [List.append_nil]; rfl
  | p :: r, acc, n, h => by
    rw [List.map_cons, List.nodup_cons] at n
    have e : putK acc p.1 p.2 = acc ++ [p] := by
      unfold putK
      rw [if_neg]
      intro q
      obtain ⟨x, hx, hq⟩ := List.any_eq_true.mp q
      exact h p (List.mem_cons_self ..) x hx (of_decide_eq_true hq)
    show mergeK (putK acc p.1 p.2) r = _
    rw [e, merge_app n.2 fun q hq x hx => ?_, List.append_assoc]
    · rfl
    · rcases List.mem_append.mp hx with hx | hx
      · exact h q (List.mem_cons_of_mem _ hq) x hx
      · have ex : x = p := by simpa using hx
        subst ex
        intro z
        exact n.1 (z ▸ List.mem_map_of_mem hq)
/-- the pairs of a display -/
def Dsp (X : Cx) (W : WX) (pos : Pos) (keys : List (Option Expr)) (vals : List Expr) (ks : List Str) (gl : Evn → Rs (List PyData × Evn)) : Prop :=
  ∃ trs, PPs X pos keys vals trs ∧ ∀ σ H Q, tL X.K W gl σ H (fun vs H' => vs.length = ks.length ∧ Q ((ks.map V.str).zip vs) H') → tPairs trs σ H Q
theorem dsp_nil : Dsp X W pos [] [] [] (fun env => .ok ([], env)) := ⟨[], pps_nil, fun σ H Q ⟨F, env, G, po⟩ => (PoK.now (R := ResL X.K) (PoK.of po) (.refl G) .nil).2⟩
theorem dsp_cons {k : Str} {j : Nat} {pk : Pos} {keys : List (Option Expr)} {vals : List Expr} {ks : List Str} {gl : Evn → Rs (List PyData × Evn)} (he : PE X e (tE X.K W g)) (h : Dsp X W pos keys vals ks gl) :
    Dsp X W pos (some (.Constant (.str k) j pk) :: keys) (e :: vals) (k :: ks) (consL g gl) := by
  obtain ⟨trs, hp, hr⟩ := h
  refine ⟨(tC (.str k), tE X.K W g) :: trs, pps_cons pe_str he hp, fun σ H Q ⟨F, env, G, po⟩ => ?_⟩
  refine ⟨F, env, G, Po.of ((PoK.next (f1 := g) (PoK.of po) (.refl G)).imp ?_)⟩
  intro v H1 ⟨F1, env1, r, s, _, q, e, po1⟩
  obtain ⟨F1', s', k', rp⟩ := s.share q fun _ h => h
  refine hr σ H1 _ ⟨F1', env1, s'.good, (PoK.next (f1 := gl) (R1 := ResL X.K) po1 s').imp ?_⟩
  intro vs H2 ⟨F2, env2, r2, s2, t2, q2, e2, po2⟩
  obtain ⟨hl, hq⟩ := PoK.now (R := ResL X.K) po2 s2 (.cons (rp.keep (t2.kp s'.good)) q2)
  exact ⟨by simpa using hl, hq⟩
theorem rpk_zip {K : PySem.W.Frag} {F : Addr → Prop} {H : Hp} : ∀ {ks : List Str} {vs : List V} {ds : List PyData}, RpA K F H vs ds → RpK K F H ((ks.map Sum.inr).zip vs) ((ks.map PyData.str).zip ds)
  | [], _, _, _ => .nil
  | _ :: _, _, _, .nil => .nil
  | k :: ks, _, _, .cons r t => .cons (k := .inr k) r (rpk_zip (ks := ks) t)
theorem zip_kv : ∀ (ks : List Str) (vs : List V), (ks.map V.str).zip vs = ((ks.map Sum.inr).zip vs : List (Key × V)).map fun kv => (kV kv.1, kv.2)
  | [], _ => rfl
  | _ :: _, [] => rfl
  | k :: ks, v :: vs => by
    show (V.str k, v) :: (ks.map V.str).zip vs = (V.str k, v) :: ((ks.map Sum.inr).zip vs : List (Key × V)).map _
    rw [zip_kv ks vs]
theorem s_dct {keys : List (Option Expr)} {vals : List Expr} {ks : List Str} {gl : Evn → Rs (List PyData × Evn)} (h : Dsp X W pos keys vals ks gl) (h1 : keys.all (·.isSome) = true) (h2 : keys.length = vals.length) (h3 : keys ≠ []) (h4 : keys.length ≤ 15) (h5 : ks.length ≤ 15) (hn : ks.Nodup)
    (hgl : ∀ env as e, gl env = .ok (as, e) → as.length = ks.length) : PE X (.Dict keys vals pos) (tE X.K W (dctF ks gl)) := by
  obtain ⟨trs, hp, hr⟩ := h
  refine peOf (pe_disp hp h1 h2 h3 h4) fun σ H Q ⟨F, env, G, po⟩ p hpn => ?_
  have s0 : Aft X.K F H env σ F (upd H p (.dK [])) env := .same G (same_new hpn)
  have nF : ¬ F p := fun f => G.dom p f hpn
  have nO : ¬ Ownd env σ p := fun w => by
    obtain ⟨_, z⟩ | ⟨_, z⟩ := (G.wok p w).2 <;> (rw [hpn] at z; cases z)
  refine hr σ _ _ ⟨F, env, s0.good, (PoK.next (f1 := gl) (R1 := ResL X.K) (PoK.of po) s0).imp ?_⟩
  intro vs H2 ⟨F2, env2, ds, s2, t2, q2, e2, po2⟩
  have hlen : vs.length = ks.length := by rw [q2.len]; exact hgl _ _ _ e2
  obtain ⟨hD, nF2, nO2⟩ := (t2.s (pr := [])).out upd_same nF nO
  refine ⟨hlen, hD, (ks.map Sum.inr).zip vs, ?_, ?_, ?_⟩
  · exact zip_kv ks vs
  · rw [List.length_zip, List.length_map]
    omega
  · have hk : (((ks.map Sum.inr).zip vs : List (Key × V)).map (·.1)).Nodup := by
      have e : ((ks.map Sum.inr).zip vs : List (Key × V)).map (·.1) = ks.map Sum.inr := List.map_fst_zip (by rw [List.length_map]; omega)
      rw [e]
      exact hn.map _ fun a b n z => n (Sum.inr.inj z)
    rw [merge_app hk (by intro p _ q hq; cases hq), List.nil_append]
    have A := (s2.s (pr := [])).write (o' := .dK ((ks.map Sum.inr).zip vs)) hpn hD nF2 nO2 (.inr ⟨_, rfl⟩)
    have kw : Kp F2 H2 F2 (upd H2 p (.dK ((ks.map Sum.inr).zip vs))) := kp_write nF2 hD (.inr ⟨_, rfl⟩)
    exact PoK.now po2 ⟨A.good, A.stp, s2.sub⟩ ⟨p, rfl, nF2, nO2, .dic upd_same ((rpk_zip q2).keep kw _ _), .inl hpn⟩
end
end Qv

set_option maxRecDepth 100000
set_option maxHeartbeats 1000000
/-! QPo: xs.pop(i) as an expression; min, max of two ints. -/
namespace Qv
open PySem PySem.Spec PyProof.Rows L2
section
variable {X : Cx} {W : WX} {a b e : Expr} {pos : Pos} {g g' : Evn → Rs (Vl × Evn)}
theorem RpA.erase {K : PySem.W.Frag} {F : Addr → Prop} {H : Hp} : ∀ {xs : List V} {ds : List PyData} (k : Nat), RpA K F H xs ds → RpA K F H (xs.eraseIdx k) (ds.eraseIdx k)
  | [], [], k, _ => .nil
  | x :: xs, d :: ds, 0, .cons _ t => t
  | x :: xs, d :: ds, k + 1, .cons h t => .cons h (t.erase k)
theorem idx_seq {n : Nat} {i : Int} {k : Nat} (h : idxD n i = some k) : seqIndex? i n = some k ∧ k < n := by
  unfold idxD at h
  unfold seqIndex?
  by_cases h0 : 0 ≤ i
  · rw [if_pos h0] at h
    split at h
    · rename_i hk
      cases h
      have : ¬ i < 0 := by omega
      simp only [this, if_false]
      have h1 : (decide (0 ≤ i) && decide (i < (n : Int))) = true := by rw [Bool.and_eq_true, decide_eq_true_eq, decide_eq_true_eq]; omega
      rw [if_pos h1]
      exact ⟨rfl, hk⟩
    · cases h
  · rw [if_neg h0] at h
    split at h
    · rename_i hk
      cases h
      have : i < 0 := by omega
      simp only [this, if_true]
      have h1 : (decide (0 ≤ i + (n : Int)) && decide (i + (n : Int) < (n : Int))) = true := by rw [Bool.and_eq_true, decide_eq_true_eq, decide_eq_true_eq]; omega
      rw [if_pos h1]
      exact ⟨rfl, by omega⟩
    · cases h
theorem idx_rng {n : Nat} {i : Int} {k : Nat} (h : idxD n i = some k) : -(n : Int) ≤ i ∧ i < n := by
  unfold idxD at h
  by_cases h0 : 0 ≤ i
  · rw [if_pos h0] at h
    split at h
    · omega
    · cases h
  · rw [if_neg h0] at h
    split at h
    · omega
    · cases h
def popF (i : Nat) (g : Evn → Rs (Vl × Evn)) : Evn → Rs (Vl × Evn) := fun env => match env[i]? with
  | some (some (.o (.list _))) => g env >>= fun p => popD i p.1 p.2
  | _ => stk
theorem s_pop {i : Nat} {x : Str} {px apos p2 : Pos} (hN : X.N[i]? = some x) (hv : Vis X.env.scope x) (hd : (x == ("__debug__" : Str)) = false) (hcd : (x == ("__classdict__" : Str)) = false) (he : PE X e (tE X.K W g)) (hn : nst e = true) (hline : (apos.endLine == p2.line) = true) :
    PE X (.Call (.Attribute (.Name x px) "pop" apos) [e] [] p2) (tE X.K W (popF i g)) := by
  have hfew : ((backTo p2 (starEach [e] X.env)).all (fun x => !x.1) && (backToKw p2 (keywordEach [] X.env)).all (fun x => x.1.isSome)
      && decide (([e] : List Expr).length + ([] : List Keyword).length + (if ([] : List Keyword).isEmpty then 0 else 1) < 30)) = true := by
    rw [star_cons hn]
    rfl
  have hA : PE X (.Call (.Attribute (.Name x px) "pop" apos) [e] [] p2) (tBM X.K "list" rPopAt (tVar i) (tCons (tE X.K W g) tNil)) :=
    pe_bm PySem.F.plainAttrs_list PySem.F.slot_list_pop PySem.F.type_list_pop mt_popAt (pe_var hN hv hd hcd) (pa_cons he pa_nil (star_cons hn)) rfl hfew hline (star_cons hn) rfl
  refine peOf hA fun σ H Q h => ?_
  obtain ⟨F, env, G, po⟩ := h
  have po := PoK.of po
  have ho : ∃ ds, env[i]? = some (some (.o (.list ds))) := by
    unfold popF at po
    split at po
    · rename_i d e
      exact ⟨d, e⟩
    · exact po.elim
  obtain ⟨ds0, e0⟩ := ho
  obtain ⟨l, hl, n0, c0⟩ := G.ow i _ e0
  obtain ⟨xs, hq⟩ : ∃ xs, H l = some (.lst xs) := by cases c0 with | lst h1 _ => exact ⟨_, h1⟩
  simp only [popF, e0] at po
  refine ⟨.ref l, hl, .inl ⟨rfl, xs, .of hq⟩, F, env, G, Po.of ((PoK.next (f1 := g) po (.refl G)).imp ?_)⟩
  intro v H1 ⟨F1, env1, r, s, t, q, e, po1⟩
  cases r with
  | o y => exact po1.elim
  | d y =>
    cases y <;> try exact po1.elim
    rename_i j
    cases q
    unfold popD at po1
    split at po1
    · rename_i j' ds hr e1
      cases hr
      split at po1
      · rename_i k hk
        split at hk
        · rename_i hlim
          obtain ⟨hk1, hk2⟩ := idx_seq hk
          split at po1
          · rename_i y hy
            obtain ⟨l', e2, n, ct⟩ := s.good.ow i _ e1
            rw [hl] at e2
            cases e2
            cases ct with
            | lst h1 h2 =>
              rename_i ys
              have hlen := h2.len
              obtain ⟨w, hw, rw'⟩ := h2.get' hy
              have hb := idx_rng hk
              have hlim' : ds.length ≤ 16000000 := hlim
              refine ⟨l, ys, j, k, w, rfl, rfl, h1, by omega, by omega, by rw [hlen]; exact hk1, hw, ?_⟩
              have wr := s.good.write (pr := []) e1 hl (d' := .list (ds.eraseIdx k)) (o := .lst (ys.eraseIdx k)) fun H' k' hk => .lst hk ((h2.keep k' _ _).erase k)
              have kp := wr.kp s.good
              have af : Aft X.K F1 H1 env1 σ F1 (upd H1 l (.lst (ys.eraseIdx k))) (env1.set i (some (.o (.list (ds.eraseIdx k))))) := ⟨wr.good, wr.stp, fun a w => by
                obtain ⟨m, d, h3, h4⟩ := w
                by_cases q : i = m
                · subst q; exact ⟨i, _, e1, h4⟩
                · rw [List.getElem?_set_ne q] at h3; exact ⟨m, d, h3, h4⟩⟩
              exact PoK.now po1 (s.trans af) (rw'.keep kp _ _)
          · exact po1.elim
        · cases hk
      · exact po1.elim
    · exact po1.elim
/-! ### min, max -/
def mmF (mx : Bool) (g g' : Evn → Rs (Vl × Evn)) : Evn → Rs (Vl × Evn) := fun env => g env >>= fun p => g' p.2 >>= fun q => match p.1, q.1 with
  | .d (.int i), .d (.int j) => .ok (.d (.int (mm mx i j)), q.2)
  | _, _ => stk
theorem s_mm {mx : Bool} {p : Pos} (hc : X.calm = true) (hg : Gl X (mmN mx)) (hm : X.mg (mmN mx) = none) (ha : PE X a (tE X.K W g)) (hb : PE X b (tE X.K W g')) (hn : nst a = true) (hn2 : nst b = true) : PE X (.Call (.Name (mmN mx) p) [a, b] [] pos) (tE X.K W (mmF mx g g')) := by
  have A := pa_cons ha (pa_cons hb pa_nil (star_cons hn2)) (star_cons hn)
  have fin : ∀ σ H Q, tE X.K W (mmF mx g g') σ H Q → tCons (tE X.K W g) (tCons (tE X.K W g') tNil) σ H fun vs H1 => ∃ i j, vs = [V.int i, V.int j] ∧ Q (.int (mm mx i j)) H1 := by
    intro σ H Q ⟨F, env, G, po⟩
    have po := PoK.of po
    refine ⟨F, env, G, Po.of ((PoK.next (f1 := g) po (.refl G)).imp ?_)⟩
    intro v H1 ⟨F1, env1, r, s, t, q, e, po1⟩
    refine ⟨F1, env1, s.good, Po.of ((PoK.next (f1 := g') po1 s).imp ?_)⟩
    intro w H2 ⟨F2, env2, r2, s2, t2, q2, e2, po2⟩
    cases r with
    | o y => exact po2.elim
    | d y =>
      cases y <;> try exact po2.elim
      cases q
      cases r2 with
      | o z => exact po2.elim
      | d z =>
        cases z <;> try exact po2.elim
        cases q2
        exact ⟨_, _, rfl, PoK.now po2 s2 (.int _)⟩
  cases mx with
  | true => exact peOf (pe_callB (x := "max") (call_max2 hc) hg hm (by rfl) A (by decide) (by decide) (star_cons hn) (by rw [star_cons hn2]; rfl)) fun σ H Q h => fin σ H Q h
  | false => exact peOf (pe_callB (x := "min") (call_min2 hc) hg hm (by rfl) A (by decide) (by decide) (star_cons hn) (by rw [star_cons hn2]; rfl)) fun σ H Q h => fin σ H Q h
/-! ### stars in displays -/
def starF (g : Evn → Rs (Vl × Evn)) (gl : Evn → Rs (List PyData × Evn)) : Evn → Rs (List PyData × Evn) := fun env => g env >>= fun p => itemsT p.1.x >>= fun xs => gl p.2 >>= fun q => .ok (xs ++ q.1, q.2)
theorem itemsT_nx {d : PyData} : ∀ c fs, itemsT d ≠ .error (.exc c fs) := by
  intro c fs h
  cases d <;> cases h
theorem a_star {es : List Expr} {gl : Evn → Rs (List PyData × Evn)} {p : Pos} (ha : PE X a (tE X.K W g)) (hr : PA X es (tL X.K W gl)) : PA X (.Starred a p :: es) (tL X.K W (starF g gl)) := by
  refine paOf (StX.pa_star ha hr) fun σ H Q h => ?_
  obtain ⟨F, env, G, po⟩ := h
  refine ⟨F, env, G, Po.of ((PoK.next (f1 := g) (PoK.of po) (.refl G)).imp ?_)⟩
  intro v H1 ⟨F1, env1, r, s, _, q, e, po1⟩
  obtain ⟨F1', s', k', rp⟩ := s.share q fun _ h => h
  obtain ⟨ds, hds, po1⟩ := po1.calc (m := itemsT r.x) itemsT_nx
  have : ∃ (b : Addr) (xs : List V), v = .ref b ∧ (SqT X.K H1 b xs ∨ SqL X.K H1 b xs) ∧ RpA X.K F1' H1 xs ds := by
    cases hx : r.x <;> rw [hx] at hds rp <;> try (exact (not_stk hds).elim)
    · obtain rfl := ok_in hds
      obtain ⟨b, xs, e, h1, h2⟩ := Vw.lst (.inl rp)
      exact ⟨b, xs, e, .inr h1, h2⟩
    · obtain rfl := ok_in hds
      obtain ⟨b, xs, e, h1, h2⟩ := Vw.tup (.inl rp)
      exact ⟨b, xs, e, .inl h1.sqT, h2⟩
  obtain ⟨b, xs, e, h1, h2⟩ := this
  refine ⟨b, xs, e, h1, F1', env1, s'.good, (PoK.next (f1 := gl) (R1 := ResL X.K) po1 s').imp ?_⟩
  intro vs H2 ⟨F2, env2, r2, s2, t2, q2, e2, po2⟩
  exact PoK.now (R := ResL X.K) po2 s2 ((h2.keep (t2.kp s'.good) _ _).app q2)
/-! ### xs.extend(ys): ys a list of one's own -/
variable {pr : List Nat}
def extF (i : Nat) (g : Evn → Rs (Vl × Evn)) : Evn → Rs (Fl × Evn) := fun env => match env[i]? with
  | some (some (.o (.list _))) => g env >>= fun p => extD i p.1 p.2
  | _ => stk
theorem s_ext {i : Nat} {x : Str} {px apos p2 : Pos} (hN : X.N[i]? = some x) (hv : Vis X.env.scope x) (hd : (x == ("__debug__" : Str)) = false) (hcd : (x == ("__classdict__" : Str)) = false) (he : PE X e (tE X.K W g)) (hn : nst e = true) (hline : (apos.endLine == p2.line) = true) :
    PS X (.Expr (.Call (.Attribute (.Name x px) "extend" apos) [e] [] p2) pos) (tS X.K W pr (extF i g)) := by
  refine ⟨fun pins s σ H D I h => ?_⟩
  obtain ⟨F, env, G, po⟩ := h
  have hfew : ((backTo p2 (starEach [e] X.env)).all (fun x => !x.1) && (backToKw p2 (keywordEach [] X.env)).all (fun x => x.1.isSome)
      && decide (([e] : List Expr).length + ([] : List Keyword).length + (if ([] : List Keyword).isEmpty then 0 else 1) < 30)) = true := by
    rw [star_cons hn]
    rfl
  have hA : PE X (.Call (.Attribute (.Name x px) "extend" apos) [e] [] p2) (tBM X.K "list" rExtend (tVar i) (tCons (tE X.K W g) tNil)) :=
    pe_bm PySem.F.plainAttrs_list PySem.F.slot_list_extend PySem.F.type_list_extend mt_extend (pe_var hN hv hd hcd) (pa_cons he pa_nil (star_cons hn)) rfl hfew hline (star_cons hn) rfl
  have ho : ∃ ds, env[i]? = some (some (.o (.list ds))) := by
    unfold extF at po
    split at po
    · rename_i d e
      exact ⟨d, e⟩
    · exact po.elim
  obtain ⟨ds0, e0⟩ := ho
  obtain ⟨l, hl, n0, c0⟩ := G.ow i _ e0
  obtain ⟨xs, hq⟩ : ∃ xs, H l = some (.lst xs) := by cases c0 with | lst h1 _ => exact ⟨_, h1⟩
  simp only [extF, e0] at po
  refine (ps_expr hA rfl).run pins s σ H D I ⟨.ref l, hl, .inl ⟨rfl, xs, .of hq⟩, F, env, G, (PoS.expr (f1 := g) po (.refl G)).imp ?_⟩
  intro v H1 ⟨F1, env1, r, s, t, q, e, po1⟩
  cases r with
  | d y => exact po1.elim
  | o y =>
  cases y <;> try exact po1.elim
  unfold extD at po1
  simp only at po1
  split at po1
  · rename_i ds e1
    obtain ⟨hz, po1⟩ := po1.grd
    have hz := of_decide_eq_true hz
    obtain ⟨b, rfl, _, _, cb, _⟩ := q
    obtain ⟨l', e2, n, ct⟩ := t.good.ow i _ e1
    rw [hl] at e2
    cases e2
    cases cb with
    | lst b1 b2 =>
      rename_i zs
      cases ct with
      | lst h1 h2 =>
        rename_i ys
        have hlen := h2.len
        have blen := b2.len
        have ll := lim2_line
        refine ⟨l, b, ys, zs, rfl, rfl, h1, b1, by omega, ?_⟩
        exact PoS.nx po1 (t.s.trans (t.good.write e1 hl fun H' k' hk => .lst hk ((h2.keep k' _ _).app (b2.keep k' _ _))))
  · exact po1.elim
/-! ### a, b, c = x, y, z -/
theorem ResV.past {K : PySem.W.Frag} {σ : L2.St} {N N2 F : Addr → Prop} {H : Hp} {env : Evn} {v w : V} {r r2 : Vl} {i : Nat} (q : ResV K σ N F H env v r) (q2 : ResV K σ N2 F H env w r2)
    (hne : ∀ a x y, r = .o x → v = .ref a → r2 = .o y → w = .ref a → False) : ResV K (σ.set i (some v)) N2 F H (env.set i (some r)) w r2 := by
  cases r2 with
  | d y => exact q2
  | o y =>
    obtain ⟨l, e1, n1, n2, c, z⟩ := q2
    refine ⟨l, e1, n1, fun u => ?_, c, z⟩
    rcases own_set q u with u | ⟨⟨x, e3⟩, e4⟩
    · exact n2 u
    · exact hne l x y e3 e4 rfl e1
theorem res_ne {K : PySem.W.Frag} {σ : L2.St} {N F1 F2 : Addr → Prop} {H1 H2 : Hp} {env1 env2 : Evn} {v w : V} {r r2 : Vl} (q : ResV K σ N F1 H1 env1 v r) (q2 : ResV K σ (Nw H1 env1 σ) F2 H2 env2 w r2) : ∀ a x y, r = .o x → v = .ref a → r2 = .o y → w = .ref a → False := by
  rintro a x y rfl rfl rfl rfl
  obtain ⟨l, e1, _, n6, c5, _⟩ := q
  cases e1
  obtain ⟨l', e2, _, _, _, z⟩ := q2
  cases e2
  obtain ⟨u, hu⟩ := c5.some
  rcases z with z | z
  · rw [hu] at z; cases z
  · exact n6 z
def asg3F (i j l : Nat) (g g' g'' : Evn → Rs (Vl × Evn)) : Evn → Rs (Fl × Evn) := fun env => g env >>= fun p => g' p.2 >>= fun q => g'' q.2 >>= fun s => .ok (.nx, setS l s.1 (setS j q.1 (setS i p.1 s.2)))
theorem s_asg3 {i j l : Nat} {x y z : Str} {px py pz pt pt2 : Pos} {kt k2 : Nat} {c : Expr} {g'' : Evn → Rs (Vl × Evn)} (hip : i ∉ pr) (hjp : j ∉ pr) (hlp : l ∉ pr) (hc : X.calm = true) (hN : X.N.Nodup) (hi : X.N[i]? = some x) (hj : X.N[j]? = some y) (hl : X.N[l]? = some z) (hij : i ≠ j) (hil : i ≠ l) (hjl : j ≠ l)
    (hx : X.env.scope.names.lookup x = some .local) (hy : X.env.scope.names.lookup y = some .local) (hz : X.env.scope.names.lookup z = some .local)
    (ha : PE X a (tE X.K W g)) (hb : PE X b (tE X.K W g')) (hcc : PE X c (tE X.K W g'')) (hn : nst a = true) (hn2 : nst b = true) (hn3 : nst c = true) (hw : swappedStores [.Tuple [.Name x px, .Name y py, .Name z pz] kt pt] (.Tuple [a, b, c] k2 pt2) X.env = pure (some [x, y, z])) :
    PS X (.Assign [.Tuple [.Name x px, .Name y py, .Name z pz] kt pt] (.Tuple [a, b, c] k2 pt2) pos) (tS X.K W pr (asg3F i j l g g' g'')) := by
  refine psOf (ps_par3 hc hN hi hj hl hij hil hjl hx hy hz (pa_cons ha (pa_cons hb (pa_cons hcc pa_nil (star_cons hn3)) (star_cons hn2)) (star_cons hn)) hw rfl) fun D σ H ⟨F, env, G, po⟩ => ?_
  refine ⟨F, env, G, (PoS.expr (f1 := g) po (.refl G)).imp ?_⟩
  intro v H1 ⟨F1, env1, r, s, t, q, e, po1⟩
  refine ⟨F1, env1, s.good, (PoS.expr (f1 := g') (R1 := ResV X.K σ) po1 s).imp ?_⟩
  intro w H2 ⟨F2, env2, r2, s2, t2, q2, e2, po2⟩
  refine ⟨F2, env2, s2.good, (PoS.expr (f1 := g'') (R1 := ResV X.K σ) po2 s2).imp ?_⟩
  intro u H3 ⟨F3, env3, r3, s3, t3, q3, e3, po3⟩
  have q12 := q.keep s.good t2
  have q13 := q12.keep s2.good t3
  have q23 := q2.keep s2.good t3
  have A1 := s3.set (i := i) hip q13 fun a h => h.elim .inr .inl
  have B := q13.past (i := i) q23 (res_ne q q2)
  have A2 := A1.set (i := j) hjp B fun a h => (s.nw a h).elim .inr .inl
  have C0 := q13.past (i := i) q3 (res_ne q12 q3)
  have C := B.past (i := j) C0 (res_ne q2 q3)
  have A3 := A2.set (i := l) hlp C fun a h => (s2.nw a h).elim .inr .inl
  exact ⟨v, w, u, rfl, PoS.nx po3 A3⟩
/-! ### the same where the tuple is made, then taken apart -/
theorem same_up {H : Hp} {p : Addr} {o : HO} (h : H p = none) : Same H (upd H p o) := fun b u e => by rw [upd_ne (fun q => by rw [q, h] at e; cases e)]; exact e
theorem s_asg2c {i j : Nat} {ts : List Expr} {kt k2 : Nat} {pt pt2 : Pos} (hip : i ∉ pr) (hjp : j ∉ pr) (hg : PG X (.Tuple ts kt pt) (gT X.K (.tp [i, j])))
    (ha : PE X a (tE X.K W g)) (hb : PE X b (tE X.K W g')) (hn : nst a = true) (hn2 : nst b = true) (hs : swapsWithSole [.Tuple ts kt pt] (.Tuple [a, b] k2 pt2) pos.line X.env = pure false) (hw : swappedStores [.Tuple ts kt pt] (.Tuple [a, b] k2 pt2) X.env = pure none) :
    PS X (.Assign [.Tuple ts kt pt] (.Tuple [a, b] k2 pt2) pos) (tS X.K W pr (asg2F i j g g')) := by
  refine psOf (ps_asg (pe_tup (pa_cons ha (pa_cons hb pa_nil (star_cons hn2)) (star_cons hn))) hg hs hw) fun D σ H ⟨F, env, G, po⟩ => ?_
  refine ⟨F, env, G, (PoS.expr (f1 := g) po (.refl G)).imp ?_⟩
  intro v H1 ⟨F1, env1, r, s, t, q, e, po1⟩
  refine ⟨F1, env1, s.good, (PoS.expr (f1 := g') (R1 := ResV X.K σ) po1 s).imp ?_⟩
  intro w H2 ⟨F2, env2, r2, s2, t2, q2, e2, po2⟩
  refine ⟨by rw [sizeLine_eq]; exact (show 2 ≤ 16777216 by decide), fun P hP => ⟨P, [v, w], rfl, .inl (.inl upd_same), rfl, ?_⟩⟩
  have t3 := Aft.same s2.good (same_up (o := .tup [v, w]) hP)
  have s3 := s2.trans (t3.s (pr := pr))
  have q12 := q.keep s.good t2
  have q13 := q12.keep s2.good t3
  have q23 := q2.keep s2.good t3
  have A1 := s3.set (i := i) hip q13 fun a h => h.elim .inr .inl
  have B := q13.past (i := i) q23 (res_ne q q2)
  have A2 := A1.set (i := j) hjp B fun a h => (s.nw a h).elim .inr .inl
  exact gNms_ok rfl (PoS.nx po2 A2)
theorem s_asg3c {i j l : Nat} {ts : List Expr} {kt k2 : Nat} {pt pt2 : Pos} {c : Expr} {g'' : Evn → Rs (Vl × Evn)} (hip : i ∉ pr) (hjp : j ∉ pr) (hlp : l ∉ pr) (hg : PG X (.Tuple ts kt pt) (gT X.K (.tp [i, j, l])))
    (ha : PE X a (tE X.K W g)) (hb : PE X b (tE X.K W g')) (hcc : PE X c (tE X.K W g'')) (hn : nst a = true) (hn2 : nst b = true) (hn3 : nst c = true) (hs : swapsWithSole [.Tuple ts kt pt] (.Tuple [a, b, c] k2 pt2) pos.line X.env = pure false) (hw : swappedStores [.Tuple ts kt pt] (.Tuple [a, b, c] k2 pt2) X.env = pure none) :
    PS X (.Assign [.Tuple ts kt pt] (.Tuple [a, b, c] k2 pt2) pos) (tS X.K W pr (asg3F i j l g g' g'')) := by
  refine psOf (ps_asg (pe_tup (pa_cons ha (pa_cons hb (pa_cons hcc pa_nil (star_cons hn3)) (star_cons hn2)) (star_cons hn))) hg hs hw) fun D σ H ⟨F, env, G, po⟩ => ?_
  refine ⟨F, env, G, (PoS.expr (f1 := g) po (.refl G)).imp ?_⟩
  intro v H1 ⟨F1, env1, r, s, t, q, e, po1⟩
  refine ⟨F1, env1, s.good, (PoS.expr (f1 := g') (R1 := ResV X.K σ) po1 s).imp ?_⟩
  intro w H2 ⟨F2, env2, r2, s2, t2, q2, e2, po2⟩
  refine ⟨F2, env2, s2.good, (PoS.expr (f1 := g'') (R1 := ResV X.K σ) po2 s2).imp ?_⟩
  intro u H3 ⟨F3, env3, r3, s3, t3, q3, e3, po3⟩
  refine ⟨by rw [sizeLine_eq]; exact (show 3 ≤ 16777216 by decide), fun P hP => ⟨P, [v, w, u], rfl, .inl (.inl upd_same), rfl, ?_⟩⟩
  have t4 := Aft.same s3.good (same_up (o := .tup [v, w, u]) hP)
  have s4 := s3.trans (t4.s (pr := pr))
  have q12 := q.keep s.good t2
  have q14 := (q12.keep s2.good t3).keep s3.good t4
  have q24 := (q2.keep s2.good t3).keep s3.good t4
  have q34 := q3.keep s3.good t4
  have A1 := s4.set (i := i) hip q14 fun a h => h.elim .inr .inl
  have B := q14.past (i := i) q24 (res_ne q q2)
  have A2 := A1.set (i := j) hjp B fun a h => (s.nw a h).elim .inr .inl
  have C0 := q14.past (i := i) q34 (res_ne q12 q3)
  have C := B.past (i := j) C0 (res_ne q2 q3)
  have A3 := A2.set (i := l) hlp C fun a h => (s2.nw a h).elim .inr .inl
  exact gNms_ok rfl (PoS.nx po3 A3)
end
end Qv

set_option maxRecDepth 100000
set_option maxHeartbeats 3200000
/-! QV: filling a new set, whatever it holds. -/
namespace Qv
open PySem PySem.Spec PyProof.Rows L2
section
variable {P : Program} {w : World} {A : Around} {E : Value → Shared → Prop} {s : Shared}
/-- how one value more is added: Iv i h says that the set at S holds what the first i items give -/
structure Fill (P : Program) (w : World) (A : Around) (S : Addr) (h0 : Heap) (n : Nat) (Pv : Nat → Value → Prop) (Iv : Nat → Heap → Prop) : Prop where
  keep : ∀ i h h', (∀ o, h.get? S = some o → h'.get? S = some o) → (∀ b o, h0.get? b = some o → h.get? b = some o) → (∀ b o, h0.get? b = some o → h'.get? b = some o) → Iv i h → Iv i h'
  add : ∀ i v (s : Shared) (Q : Bool → Shared → Prop) (E : Value → Shared → Prop), i < n → Pv i v → (∀ b o, h0.get? b = some o → s.heap.get? b = some o) → Iv i s.heap →
    (∀ r h' tk, s.toks ≤ tk → Heap.SameBut S s.heap h' → Iv (i + 1) h' → Q r { s with heap := h', toks := tk }) → wpAny (model P w) A (setAdd S v) Q E s
theorem set_update_gen {I : Addr} {fp wr : List Addr} {G : Array GenState → Array GenState → Prop} {n : Nat} {Pv : Nat → Value → Prop} {St : Nat → Shared → Prop} {R : Result → Shared → Prop}
    (W : WalksS P w A.in1 I fp wr G n Pv St) (S : Addr) (hSf : S ∉ fp) (Iv : Nat → Heap → Prop)
    (h0 : Heap) (hS0 : h0.get? S = none) (hw0 : ∀ b ∈ wr, h0.get? b = none) (F0 : Fill P w A.in1 S h0 n Pv Iv) :
    ∀ (k i : Nat) (s : Shared), n - i = k → i ≤ n → St i s → (∀ b o, h0.get? b = some o → s.heap.get? b = some o) → Iv i s.heap →
      (∀ s', Moved (S :: wr) G s s' → Iv n s'.heap → (∀ b o, h0.get? b = some o → s'.heap.get? b = some o) → R (.ok (.ret .none)) s') →
      codeAny (model P w) A (.builtin "set.update.loop" ⟨[.ref S, .ref I], []⟩) R s := by
  have hSw : S ∉ wr := fun h => hSf (W.sub _ h)
  have hsub : ∀ b ∈ wr, b ∈ S :: wr := fun b hb => List.mem_cons_of_mem _ hb
  have keepM : ∀ {s s' : Shared}, Moved wr G s s' → (∀ b o, h0.get? b = some o → s.heap.get? b = some o) → ∀ b o, h0.get? b = some o → s'.heap.get? b = some o := fun hm hkp b o e =>
    hm.heap b o (fun hb => by rw [hw0 b hb] at e; cases e) (hkp b o e)
  intro k
  induction k with
  | zero =>
    intro i s hk' hi hst hkp hI hR
    have hin : i = n := by omega
    subst hin
    refine codeAny_builtin F.entry_set_update_loop ?_
    rw [Around.under_plainId F.plain_set_update_loop _]
    show wpAny _ A.in1 (pyNext (.ref I) >>= _) _ _ s
    refine wpAny_bind (W.done s _ _ hst fun s' hm => ?_)
    show wpAny _ A.in1 (ret Value.none) _ _ s'
    have hkp' := keepM hm hkp
    exact wpAny_pure (hR s' (hm.mono hsub) (F0.keep _ _ _ (fun o e => hm.heap S o hSw e) hkp hkp' hI) hkp')
  | succ k ih =>
    intro i s hk' hi hst hkp hI hR
    have hlt : i < n := by omega
    refine codeAny_builtin F.entry_set_update_loop ?_
    rw [Around.under_plainId F.plain_set_update_loop _]
    show wpAny _ A.in1 (pyNext (.ref I) >>= _) _ _ s
    refine wpAny_bind (W.item i s _ _ hlt hst fun v s' hP hst' hm => ?_)
    have hkp' := keepM hm hkp
    have hI' : Iv i s'.heap := F0.keep _ _ _ (fun o e => hm.heap S o hSw e) hkp hkp' hI
    show wpAny _ A.in1 (holding [v] (setAdd S v) >>= _) _ _ s'
    refine wpAny_bind (wpAny_holding ?_)
    refine F0.add i v s' _ _ hlt hP hkp' hI' fun r h' tk htk hsb hI2 => ?_
    have hkp2 : ∀ b o, h0.get? b = some o → h'.get? b = some o := fun b o e => (hsb.2 b (fun z => by rw [z, hS0] at e; cases e)).trans (hkp' b o e)
    refine wpAny_pure ⟨plainId_quiet F.plain_set_update_loop _, ih (i + 1) _ (by omega) hlt (W.frame _ s' _ _ hst' htk fun b hb o e => ?_) hkp2 hI2 fun s'' hm'' hI'' hkp'' => ?_⟩
    · rw [hsb.2 b (fun h : b = S => hSf (by rw [← h]; exact hb))]; exact e
    · refine hR s'' (Moved.trans W.gtrans ((hm.mono hsub).then_heap htk fun b o hb e => ?_) hm'') hI'' hkp''
      rw [hsb.2 b (fun h : b = S => hb (by rw [h]; exact List.mem_cons_self))]; exact e

theorem call_set_list {l : Addr} {items : Array Value} {Iv : Nat → Heap → Prop} {Q : Value → Shared → Prop} (hh : A.handled = none) (hl : s.heap.IsList l items)
    (F0 : Fill P w A.in1.in1.in1 s.heap.objs.size s.heap items.size (fun i v => items[i]? = some v) Iv)
    (i0 : ∀ h', h'.get? s.heap.objs.size = some { cls := .type "set", dict := none, data := .set #[] 0 (.fresh 0 0 (!w.params.followText "set-order")) } → (∀ b o, s.heap.get? b = some o → h'.get? b = some o) → Iv 0 h')
    (h : ∀ (h' : Heap) (tk : Nat), Iv items.size h' → (∀ b o, s.heap.get? b = some o → h'.get? b = some o) → Q (.ref s.heap.objs.size) { s with heap := h', toks := tk }) :
    wpAny (model P w) A (call (.type "set") [.ref l]) Q E s := by
  obtain ⟨c, tl, hmro⟩ := F.called_set.mro
  have hmade := F.called_set.made
  have hsub := F.called_set.sub
  refine wpAny_call (codeAny_of_tree ?_)
  show wpAny _ _ (callAny (.type "set") _) _ _ _
  refine wpAny_pure ⟨Code.quiet_builtin _ (by decide +kernel), codeAny_builtin F.entry_type_call ?_⟩
  rw [Around.under_plain (weight_type_call_type "set" [.ref l] []) rfl]
  have h1 := F.called_set.notType
  have h2 := F.called_set.canCreate
  have hct := F.typeCall_set_1 (.ref l)
  repeat (any_goals (first | assumption | wp_step))
  refine codeAny_mono (code_set_led1 (.ref l) (E := E) (Q₁ := fun obj s₁ => obj = .ref s.heap.objs.size ∧ s₁ = { s with heap := s.heap.push { cls := .type "set", dict := none, data := .set #[] 0 (.fresh 0 0 (!w.params.followText "set-order")) } }) ⟨rfl, rfl⟩) fun r s₁ hr => ?_
  cases r with
  | error e => exact hr
  | ok fl =>
    cases fl with
    | ret obj =>
      obtain ⟨rfl, rfl⟩ := hr
      have hS : (s.heap.push { cls := .type "set", dict := none, data := .set #[] 0 (.fresh 0 0 (!w.params.followText "set-order")) }).get? s.heap.objs.size = some { cls := .type "set", dict := none, data := .set #[] 0 (.fresh 0 0 (!w.params.followText "set-order")) } := Heap.get?_push_size _ rfl
      have hT : Shared.TypeIs { s with heap := s.heap.push { cls := .type "set", dict := none, data := .set #[] 0 (.fresh 0 0 (!w.params.followText "set-order")) } } (.ref s.heap.objs.size) "set" := ⟨_, hS, rfl⟩
      have hli := F.called_set.init.lookup
      have hbi := F.called_set.init.bind (.ref s.heap.objs.size)
      repeat (any_goals (first | assumption | wp_step))
      refine codeAny_mono (codeAny_call_builtin (R := wants (fun r s₂ => r = .none ∧ ∃ h' tk, s₂ = { s with heap := h', toks := tk } ∧ Iv items.size h' ∧
          (∀ b o, s.heap.get? b = some o → h'.get? b = some o)) E) F.called_set.init.plain F.entry_set_init (check_set_init_1 hT ?_)) fun r₂ s₂ hr₂ => ?_
      · obtain ⟨ol, hol, hcl, nl, hdl⟩ := hl
        obtain ⟨ocls, odict, odata, oslots⟩ := ol
        simp only at hcl hdl
        subst hcl; subst hdl
        have hol' : (s.heap.push { cls := .type "set", dict := none, data := .set #[] 0 (.fresh 0 0 (!w.params.followText "set-order")) }).get? l = some { cls := .type "list", dict := odict, data := .seq items nl, slots := oslots } := Heap.get?_push_of_some _ hol
        have hsls := F.sub_list_set
        have hslf := F.sub_list_frozenset
        have hne : (Value.type "list" == Value.type "dict") = false := by decide
        have hl1 : (s.heap.push { cls := .type "set", dict := none, data := .set #[] 0 (.fresh 0 0 (!w.params.followText "set-order")) }).IsList l items := ⟨_, hol', rfl, nl, rfl⟩
        unfold Builtin.«set.__init__» noKeywords Builtin.Frozenset.updateFrom
        generalize hPI : pyIter = PI
        wp_walk
        subst hPI
        refine wpAny_pyIter_list hl1 ?_
        refine wpAny_bind (wpAny_runValue ?_)
        have hlS : l < s.heap.objs.size := Heap.lt_size hol
        have hh3 : A.in1.in1.in1.handled = none := by simp [hh]
        have hneI : l ≠ (s.heap.push { cls := .type "set", dict := none, data := .set #[] 0 (.fresh 0 0 (!w.params.followText "set-order")) }).objs.size := by
          rw [Heap.size_push]; exact Nat.ne_of_lt (Nat.lt_succ_of_lt hlS)
        have hSf : s.heap.objs.size ∉ [(s.heap.push { cls := .type "set", dict := none, data := .set #[] 0 (.fresh 0 0 (!w.params.followText "set-order")) }).objs.size, l] := by
          rw [Heap.size_push]; simp only [List.mem_cons, List.mem_singleton, List.not_mem_nil, or_false, not_or]
          exact ⟨Nat.ne_of_lt (Nat.lt_succ_self _), Nat.ne_of_gt hlS⟩
        have none_of : ∀ b, s.heap.objs.size ≤ b → s.heap.get? b = none := fun b hb => by
          cases q : s.heap.get? b with
          | none => rfl
          | some o => exact absurd (Nat.lt_of_lt_of_le (Heap.lt_size q) hb) (Nat.lt_irrefl _)
        refine set_update_gen ((Walks.list hh3 _ l hneI items).toS) s.heap.objs.size
          hSf Iv s.heap (none_of _ (Nat.le_refl _)) (fun b hb => none_of b (by
            rw [List.mem_singleton.mp hb, Heap.size_push]
            exact Nat.le_succ _)) F0 (items.size - 0) 0 _ (by omega) (Nat.zero_le _)
          ⟨⟨_, Heap.get?_push_size _ rfl, rfl, rfl⟩, (hl1.push _)⟩ (fun b o e => Heap.get?_push_of_some _ (Heap.get?_push_of_some _ e)) (i0 _ (Heap.get?_push_of_some _ hS) fun b o e => Heap.get?_push_of_some _ (Heap.get?_push_of_some _ e)) ?hR
        case hR =>
          intro s' hm hI' hkp
          obtain ⟨h', g2, d', tk', os'⟩ := s'
          have eg : g2 = s.gens := hm.gens
          have ed : d' = s.drawn := hm.drawn
          have eo : os' = s.os := hm.os
          subst eg; subst ed; subst eo
          show wpAny _ _ _ _ _ _
          refine wpAny_pure ?_
          show wpAny _ _ (ret Value.none) _ _ _
          exact wpAny_pure ⟨rfl, h', tk', rfl, hI', hkp⟩
      · cases r₂ with
        | error e => exact hr₂
        | ok fl₂ =>
          cases fl₂ with
          | ret r =>
            obtain ⟨rfl, h', tk, rfl, hI', hk'⟩ := hr₂
            repeat (any_goals (first | assumption | wp_step))
            exact h _ _ hI' hk'
          | _ => exact hr₂.elim
    | _ => exact hr.elim

theorem call_set_tuple {l : Addr} {items : Array Value} {Iv : Nat → Heap → Prop} {Q : Value → Shared → Prop} (hh : A.handled = none) (hl : s.heap.IsTuple l items)
    (F0 : Fill P w A.in1.in1.in1 s.heap.objs.size s.heap items.size (fun i v => items[i]? = some v) Iv)
    (i0 : ∀ h', h'.get? s.heap.objs.size = some { cls := .type "set", dict := none, data := .set #[] 0 (.fresh 0 0 (!w.params.followText "set-order")) } → (∀ b o, s.heap.get? b = some o → h'.get? b = some o) → Iv 0 h')
    (h : ∀ (h' : Heap) (tk : Nat), Iv items.size h' → (∀ b o, s.heap.get? b = some o → h'.get? b = some o) → Q (.ref s.heap.objs.size) { s with heap := h', toks := tk }) :
    wpAny (model P w) A (call (.type "set") [.ref l]) Q E s := by
  obtain ⟨c, tl, hmro⟩ := F.called_set.mro
  have hmade := F.called_set.made
  have hsub := F.called_set.sub
  refine wpAny_call (codeAny_of_tree ?_)
  show wpAny _ _ (callAny (.type "set") _) _ _ _
  refine wpAny_pure ⟨Code.quiet_builtin _ (by decide +kernel), codeAny_builtin F.entry_type_call ?_⟩
  rw [Around.under_plain (weight_type_call_type "set" [.ref l] []) rfl]
  have h1 := F.called_set.notType
  have h2 := F.called_set.canCreate
  have hct := F.typeCall_set_1 (.ref l)
  repeat (any_goals (first | assumption | wp_step))
  refine codeAny_mono (code_set_led1 (.ref l) (E := E) (Q₁ := fun obj s₁ => obj = .ref s.heap.objs.size ∧ s₁ = { s with heap := s.heap.push { cls := .type "set", dict := none, data := .set #[] 0 (.fresh 0 0 (!w.params.followText "set-order")) } }) ⟨rfl, rfl⟩) fun r s₁ hr => ?_
  cases r with
  | error e => exact hr
  | ok fl =>
    cases fl with
    | ret obj =>
      obtain ⟨rfl, rfl⟩ := hr
      have hS : (s.heap.push { cls := .type "set", dict := none, data := .set #[] 0 (.fresh 0 0 (!w.params.followText "set-order")) }).get? s.heap.objs.size = some { cls := .type "set", dict := none, data := .set #[] 0 (.fresh 0 0 (!w.params.followText "set-order")) } := Heap.get?_push_size _ rfl
      have hT : Shared.TypeIs { s with heap := s.heap.push { cls := .type "set", dict := none, data := .set #[] 0 (.fresh 0 0 (!w.params.followText "set-order")) } } (.ref s.heap.objs.size) "set" := ⟨_, hS, rfl⟩
      have hli := F.called_set.init.lookup
      have hbi := F.called_set.init.bind (.ref s.heap.objs.size)
      repeat (any_goals (first | assumption | wp_step))
      refine codeAny_mono (codeAny_call_builtin (R := wants (fun r s₂ => r = .none ∧ ∃ h' tk, s₂ = { s with heap := h', toks := tk } ∧ Iv items.size h' ∧
          (∀ b o, s.heap.get? b = some o → h'.get? b = some o)) E) F.called_set.init.plain F.entry_set_init (check_set_init_1 hT ?_)) fun r₂ s₂ hr₂ => ?_
      · obtain ⟨ol, hol, hcl, nl, hdl⟩ := hl
        obtain ⟨ocls, odict, odata, oslots⟩ := ol
        simp only at hcl hdl
        subst hcl; subst hdl
        have hol' : (s.heap.push { cls := .type "set", dict := none, data := .set #[] 0 (.fresh 0 0 (!w.params.followText "set-order")) }).get? l = some { cls := .type "tuple", dict := odict, data := .seq items nl, slots := oslots } := Heap.get?_push_of_some _ hol
        have hsls := F.sub_tuple_set
        have hslf := F.sub_tuple_frozenset
        have hne : (Value.type "tuple" == Value.type "dict") = false := by decide
        have hl1 : (s.heap.push { cls := .type "set", dict := none, data := .set #[] 0 (.fresh 0 0 (!w.params.followText "set-order")) }).IsTuple l items := ⟨_, hol', rfl, nl, rfl⟩
        unfold Builtin.«set.__init__» noKeywords Builtin.Frozenset.updateFrom
        generalize hPI : pyIter = PI
        wp_walk
        subst hPI
        refine wpAny_pyIter_tuple hl1 ?_
        refine wpAny_bind (wpAny_runValue ?_)
        have hlS : l < s.heap.objs.size := Heap.lt_size hol
        have hh3 : A.in1.in1.in1.handled = none := by simp [hh]
        have hneI : l ≠ (s.heap.push { cls := .type "set", dict := none, data := .set #[] 0 (.fresh 0 0 (!w.params.followText "set-order")) }).objs.size := by
          rw [Heap.size_push]; exact Nat.ne_of_lt (Nat.lt_succ_of_lt hlS)
        have hSf : s.heap.objs.size ∉ [(s.heap.push { cls := .type "set", dict := none, data := .set #[] 0 (.fresh 0 0 (!w.params.followText "set-order")) }).objs.size, l] := by
          rw [Heap.size_push]; simp only [List.mem_cons, List.mem_singleton, List.not_mem_nil, or_false, not_or]
          exact ⟨Nat.ne_of_lt (Nat.lt_succ_self _), Nat.ne_of_gt hlS⟩
        have none_of : ∀ b, s.heap.objs.size ≤ b → s.heap.get? b = none := fun b hb => by
          cases q : s.heap.get? b with
          | none => rfl
          | some o => exact absurd (Nat.lt_of_lt_of_le (Heap.lt_size q) hb) (Nat.lt_irrefl _)
        refine set_update_gen ((Walks.tuple hh3 _ l hneI items).toS) s.heap.objs.size
          hSf Iv s.heap (none_of _ (Nat.le_refl _)) (fun b hb => none_of b (by
            rw [List.mem_singleton.mp hb, Heap.size_push]
            exact Nat.le_succ _)) F0 (items.size - 0) 0 _ (by omega) (Nat.zero_le _)
          ⟨⟨_, Heap.get?_push_size _ rfl, rfl, rfl⟩, (hl1.push _)⟩ (fun b o e => Heap.get?_push_of_some _ (Heap.get?_push_of_some _ e)) (i0 _ (Heap.get?_push_of_some _ hS) fun b o e => Heap.get?_push_of_some _ (Heap.get?_push_of_some _ e)) ?hR
        case hR =>
          intro s' hm hI' hkp
          obtain ⟨h', g2, d', tk', os'⟩ := s'
          have eg : g2 = s.gens := hm.gens
          have ed : d' = s.drawn := hm.drawn
          have eo : os' = s.os := hm.os
          subst eg; subst ed; subst eo
          show wpAny _ _ _ _ _ _
          refine wpAny_pure ?_
          show wpAny _ _ (ret Value.none) _ _ _
          exact wpAny_pure ⟨rfl, h', tk', rfl, hI', hkp⟩
      · cases r₂ with
        | error e => exact hr₂
        | ok fl₂ =>
          cases fl₂ with
          | ret r =>
            obtain ⟨rfl, h', tk, rfl, hI', hk'⟩ := hr₂
            repeat (any_goals (first | assumption | wp_step))
            exact h _ _ hI' hk'
          | _ => exact hr₂.elim
    | _ => exact hr.elim
end
end Qv

set_option maxRecDepth 100000
set_option maxHeartbeats 2000000
/-! QS: sets of tuples of texts and ints. -/
namespace Qv
open PySem PySem.Spec PyProof.Rows L2
abbrev NK := List NestedKey
/-- a tuple of texts, ints, None, bools and such tuples -/
def IsU (h : Heap) (k : NK) (a : Addr) : Prop := NestedIs h (.tup k) (.ref a) ∧ (NestedKey.tup k).depth ≤ 8
def uhash (w : World) (k : NK) : Int := (NestedKey.tup k).hash w
def OacAt (P : Program) (w : World) (n : Nat) (s : Shared) (v : Value) : Prop := ∀ (A : Around) (E : Value → Shared → Prop) (Q : Bool → Shared → Prop), Q false s → wpAny (model P w) A (ofAClassStatement n v) Q E s
def HbvAt (P : Program) (w : World) (n : Nat) (s : Shared) (v : Value) : Prop := ∀ (A : Around) (E : Value → Shared → Prop) (Q : Bool → Shared → Prop), (∀ r, Q r s) → wpAny (model P w) A (hashByValue n v) Q E s
section
variable {P : Program} {w : World} {s : Shared}
theorem oac_flat {n : Nat} {v : Value} (h : ofAClassStatement n v = pure false) : OacAt P w n s v := fun A E Q q => by rw [h]; exact wpAny_pure q
theorem hbv_flat {n : Nat} {v : Value} {b : Bool} (h : hashByValue n v = pure b) : HbvAt P w n s v := fun A E Q q => by rw [h]; exact wpAny_pure (q b)
theorem oac_tup {n : Nat} {b : Addr} {o : Obj} {items : Array Value} {m : Nat} (ho : s.heap.get? b = some o) (hc0 : o.cls = .type "tuple") (hd : o.data = .seq items m) (hi : ∀ v ∈ items.toList, OacAt P w n s v) : OacAt P w (n + 1) s (.ref b) := fun A E Q h => by
  have hT : s.TypeIs (.ref b) "tuple" := ⟨o, ho, hc0⟩
  unfold ofAClassStatement
  refine wpAny_bind (wpAny_typeOf hT ?_)
  dsimp only
  have e : (("tuple" : String) == "tuple") = true := by decide
  simp only [e, if_true, Bool.not_true, Bool.false_eq_true, if_false]
  try refine wpAny_bind (wpAny_pure ?_)
  try simp only [Bool.not_true, Bool.false_eq_true, if_false]
  show wpAny _ _ (seqItems? (.ref b) >>= _) _ _ s
  refine wpAny_bind (wpAny_seqItems ho hd ?_)
  dsimp only
  refine wpAny_bind ?_
  show wpAny _ _ (forIn items _ _) _ _ s
  rw [← Array.forIn_toList]
  refine wpAny_forIn_list _ (fun rest r s' => r.1 = none ∧ s' = s ∧ ∀ v ∈ rest, OacAt P w n s v) _ ?_ ?_ _ _ ⟨rfl, rfl, hi⟩
  · rintro v rest r s' ⟨hr, rfl, hall⟩
    refine wpAny_bind (hall v List.mem_cons_self _ _ _ ?_)
    simp only [Bool.false_eq_true, if_false]
    exact wpAny_pure ⟨rfl, rfl, fun u hu' => hall u (List.mem_cons_of_mem _ hu')⟩
  · rintro ⟨r1, r2⟩ s' ⟨hr, rfl, _⟩
    simp only at hr
    subst hr
    exact wpAny_pure h
theorem hbv_tup {n : Nat} {b : Addr} {o : Obj} {items : Array Value} {m : Nat} (ho : s.heap.get? b = some o) (hc0 : o.cls = .type "tuple") (hd : o.data = .seq items m) (hi : ∀ v ∈ items.toList, HbvAt P w n s v) : HbvAt P w (n + 1) s (.ref b) := fun A E Q h => by
  have hT : s.TypeIs (.ref b) "tuple" := ⟨o, ho, hc0⟩
  unfold hashByValue
  refine wpAny_bind (wpAny_specialOf hT F.slot_tuple_hash.lookup ?_)
  show wpAny _ _ (seqItems? (.ref b) >>= _) _ _ s
  refine wpAny_bind (wpAny_seqItems ho hd ?_)
  refine wpAny_bind ?_
  show wpAny _ _ (forIn items _ _) _ _ s
  rw [← Array.forIn_toList]
  refine wpAny_forIn_list _ (fun rest r s' => r.1 = none ∧ s' = s ∧ ∀ v ∈ rest, HbvAt P w n s v) _ ?_ ?_ _ _ ⟨rfl, rfl, hi⟩
  · rintro v rest r s' ⟨hr, rfl, hall⟩
    refine wpAny_bind (hall v List.mem_cons_self _ _ _ fun bb => ?_)
    cases bb with
    | true =>
      simp only [Bool.not_true, Bool.false_eq_true, if_false]
      exact wpAny_pure ⟨rfl, rfl, fun u hu' => hall u (List.mem_cons_of_mem _ hu')⟩
    | false =>
      simp only [Bool.not_false, if_true]
      exact wpAny_pure (wpAny_pure (h false))
  · rintro ⟨r1, r2⟩ s' ⟨hr, rfl, _⟩
    simp only at hr
    subst hr
    exact wpAny_pure (h true)
mutual
theorem oac_key : ∀ (k : NestedKey) (v : Value) (n : Nat), NestedIs s.heap k v → k.depth ≤ n → OacAt P w n s v
  | .none, _, n, x, _ => by cases x; exact oac_flat (by cases n <;> rfl)
  | .num i, _, n, x, _ => by cases x <;> exact oac_flat (by cases n <;> rfl)
  | .text y, _, n, x, _ => by cases x; exact oac_flat (by cases n <;> rfl)
  | .tup ks, _, n, x, hn => by
    cases x with
    | tup hg hc hd hk =>
      simp only [NestedKey.depth] at hn
      cases n with
      | zero => omega
      | succ n => exact oac_tup hg hc hd (oac_keys ks _ n hk (by omega))
theorem oac_keys : ∀ (ks : List NestedKey) (vs : List Value) (n : Nat), NestedAll s.heap ks vs → NestedKey.depthAll ks ≤ n → ∀ v ∈ vs, OacAt P w n s v
  | [], _, n, x, _, v, hv => by cases x; cases hv
  | k :: ks, _, n, x, hn, v, hv => by
    cases x with
    | cons x1 x2 =>
      simp only [NestedKey.depthAll] at hn
      rcases List.mem_cons.mp hv with e | hv
      · rw [e]; exact oac_key k _ n x1 (by omega)
      · exact oac_keys ks _ n x2 (by omega) v hv
end
mutual
theorem hbv_key : ∀ (k : NestedKey) (v : Value) (n : Nat), NestedIs s.heap k v → k.depth ≤ n → HbvAt P w n s v
  | .none, _, n, x, _ => by cases x; exact hbv_flat (b := true) (by cases n <;> rfl)
  | .num i, _, n, x, _ => by cases x <;> exact hbv_flat (b := true) (by cases n <;> rfl)
  | .text y, _, n, x, _ => by cases x; exact hbv_flat (b := false) (by cases n <;> rfl)
  | .tup ks, _, n, x, hn => by
    cases x with
    | tup hg hc hd hk =>
      simp only [NestedKey.depth] at hn
      cases n with
      | zero => omega
      | succ n => exact hbv_tup hg hc hd (hbv_keys ks _ n hk (by omega))
theorem hbv_keys : ∀ (ks : List NestedKey) (vs : List Value) (n : Nat), NestedAll s.heap ks vs → NestedKey.depthAll ks ≤ n → ∀ v ∈ vs, HbvAt P w n s v
  | [], _, n, x, _, v, hv => by cases x; cases hv
  | k :: ks, _, n, x, hn, v, hv => by
    cases x with
    | cons x1 x2 =>
      simp only [NestedKey.depthAll] at hn
      rcases List.mem_cons.mp hv with e | hv
      · rw [e]; exact hbv_key k _ n x1 (by omega)
      · exact hbv_keys ks _ n x2 (by omega) v hv
end
end
section
variable {P : Program} {w : World} {A : Around} {E : Value → Shared → Prop} {s : Shared}
theorem IsU.ob {h : Heap} {k : NK} {b : Addr} (x : IsU h k b) : ∃ o items n, h.get? b = some o ∧ o.cls = .type "tuple" ∧ o.data = .seq items n := by
  obtain ⟨x, f⟩ := x
  cases x with
  | tup h1 h2 h3 h4 => exact ⟨_, _, _, h1, h2, h3⟩
theorem hash_u {k : NK} {b : Addr} {Q : Int → Shared → Prop} (hu : A.units + 8 < cLine) (hk : IsU s.heap k b) (h : Q (uhash w k) { s with toks := s.toks + (NestedKey.tup k).draws }) : wpAny (model P w) A (pyHash (.ref b)) Q E s := by
  have := hk.2
  exact pyHash_key (.tup k) _ A s Q hk.1 (by omega) h
theorem eq_u {k l : NK} {b c : Addr} {Q : Bool → Shared → Prop} (hu : A.units + 8 < cLine) (hb : IsU s.heap k b) (hc : IsU s.heap l c) (h : Q (decide (k = l)) s) : wpAny (model P w) A (PySem.eqBool (.ref b) (.ref c)) Q E s := by
  have e : NestedKey.beq (.tup k) (.tup l) = decide (k = l) := by
    rw [← NestedKey.decide_eq]
    by_cases q : k = l
    · rw [decide_eq_true q, decide_eq_true (congrArg NestedKey.tup q)]
    · rw [decide_eq_false q, decide_eq_false fun z => q (NestedKey.tup.inj z)]
  have h1 := hb.2
  have := eqAt_key (.tup k) (.tup l) A s _ _ hb.1 hc.1 (by omega)
  rw [e] at this
  exact this P w E Q h
theorem quiet_u {k : NK} {b : Addr} {Q : Bool → Shared → Prop} (hk : IsU s.heap k b) (h : Q true s) : wpAny (model P w) A (eqIsQuiet 8 (.ref b)) Q E s :=
  quiet_key (.tup k) _ 8 s hk.1 hk.2 A E Q h
theorem ofAClass_u {k : NK} {b : Addr} {Q : Bool → Shared → Prop} (hk : IsU s.heap k b) (h : Q false s) : wpAny (model P w) A (ofAClassStatement 8 (.ref b)) Q E s := oac_key (.tup k) _ 8 hk.1 hk.2 A E Q h
theorem hashBy_u {k : NK} {b : Addr} {Q : Bool → Shared → Prop} (hk : IsU s.heap k b) (h : ∀ r, Q r s) : wpAny (model P w) A (hashByValue 8 (.ref b)) Q E s := hbv_key (.tup k) _ 8 hk.1 hk.2 A E Q h
theorem ifHash2 {α : Type} {c : Prop} [Decidable c] {k : NK} {b : Addr} {f : Bool → Sem α} {Q : α → Shared → Prop} (hk : IsU s.heap k b) (h : ∀ r, wpAny (model P w) A (f r) Q E s) :
    wpAny (model P w) A (if c then hashByValue 8 (.ref b) >>= f else pure true >>= f) Q E s := by
  by_cases hc : c
  · rw [if_pos hc]; exact wpAny_bind (hashBy_u hk h)
  · rw [if_neg hc]; exact wpAny_bind (wpAny_pure (h true))
theorem ifHash {c : Prop} [Decidable c] {k : NK} {b : Addr} {Q : Bool → Shared → Prop} (hk : IsU s.heap k b) (h : ∀ r, Q r s) : wpAny (model P w) A (if c then hashByValue 8 (.ref b) else pure true) Q E s := by
  by_cases hc : c
  · rw [if_pos hc]; exact hashBy_u hk h
  · rw [if_neg hc]; exact wpAny_pure (h true)
/-- a search among tuples shows nothing -/
theorem seen_u {k : NK} {b : Addr} {Q : Bool → Shared → Prop} (hk : IsU s.heap k b) {ys : List Value} (hy : ∀ y ∈ ys, ∃ k' c, y = Value.ref c ∧ IsU s.heap k' c) (h : Q false s) :
    wpAny (model P w) A (searchCouldBeSeen (.ref b) ys) Q E s := by
  unfold searchCouldBeSeen
  refine wpAny_bind ?_
  refine wpAny_forIn_list _ (fun rest r s' => r.1 = none ∧ s' = s ∧ ∀ y ∈ rest, ∃ k' c, y = Value.ref c ∧ IsU s.heap k' c) _ ?_ ?_ _ _ ⟨rfl, rfl, hy⟩
  · rintro v rest r s' ⟨hr, rfl, hall⟩
    obtain ⟨k', c, rfl, hc⟩ := hall v List.mem_cons_self
    have rest' : ∀ y ∈ rest, ∃ k' c, y = Value.ref c ∧ IsU s'.heap k' c := fun u hu' => hall u (List.mem_cons_of_mem _ hu')
    dsimp only
    by_cases hv : (b == c || (carriedByValue (.ref b) && carriedByValue (.ref c))) = true
    · refine wp_if_pos hv ?_
      exact wpAny_pure ⟨rfl, rfl, rest'⟩
    · refine wp_if_neg hv ?_
      refine wpAny_bind (quiet_u hk ?_)
      simp only [Bool.not_true, Bool.false_eq_true, if_false]
      refine wpAny_bind (quiet_u hc ?_)
      simp only [Bool.not_true, Bool.false_eq_true, if_false]
      refine wpAny_bind (ofAClass_u hk ?_)
      simp only [Bool.false_eq_true, if_false]
      refine wpAny_bind (ofAClass_u hc ?_)
      simp only [Bool.false_eq_true, if_false]
      exact wpAny_pure ⟨rfl, rfl, rest'⟩
  · rintro ⟨r1, r2⟩ s' ⟨hr, rfl, _⟩
    simp only at hr
    subst hr
    exact wpAny_pure h
def rowsOf (w : World) (L : List (Addr × NK)) : List (Int × Value) := L.map fun p => (uhash w p.2, Value.ref p.1)
structure SetTR (P : Program) (w : World) (h : Heap) (a : Addr) (L : List (Addr × NK)) (es : Array (Int × Value)) (ep : Nat) (t : SetTable) : Prop where
  ob : ∃ o, h.get? a = some o ∧ o.ExactSet ∧ o.data = .set es ep t
  rows : es.toList = rowsOf w L
  tab : TabOk t (L.map fun p => uhash w p.2)
  nd : (L.map (·.2)).Nodup
  tup : ∀ p ∈ L, IsU h p.2 p.1
  led : w.params.followText "set-order" = true ∨ t.led = true
  room : L.length * 5 < t.mask * 3
  few : L.length < 64
variable {a : Addr} {L : List (Addr × NK)} {es : Array (Int × Value)} {ep : Nat} {t : SetTable}
theorem SetTR.size (R : SetTR P w s.heap a L es ep t) : es.size = L.length := by
  have h := congrArg List.length R.rows
  unfold rowsOf at h
  rw [Array.length_toList, List.length_map] at h
  exact h
theorem SetTR.fits (R : SetTR P w s.heap a L es ep t) : t.fits es.size = true := by
  have h1 := R.tab.sz
  rw [List.length_map] at h1
  have h2 := R.size
  have h3 := R.room
  unfold SetTable.fits SetTable.fill
  rw [R.tab.dm, Bool.and_eq_true, beq_iff_eq, decide_eq_true_eq]
  show t.place.size = es.size ∧ t.place.size + 0 ≤ t.mask
  omega
theorem SetTR.entry (R : SetTR P w s.heap a L es ep t) {i : Nat} {p : Addr × NK} (h : L[i]? = some p) : es[i]? = some (uhash w p.2, Value.ref p.1) := by
  rw [← Array.getElem?_toList, R.rows]
  unfold rowsOf
  rw [List.getElem?_map, h] <;> rfl
theorem SetTR.gw (R : SetTR P w s.heap a L es ep t) : ¬ t.gaveWay = true := by
  unfold SetTable.gaveWay
  rw [mask_odd R.tab.mok]
  decide
/-- THE SEARCH: from the c-th step of the way on -/
theorem search_from (R : SetTR P w s.heap a L es ep t) {x : Addr} {k : NK} (hx : IsU s.heap k x) (hu : A.units + 8 < cLine) {K : Nat} (hKf : K < 10 * SetTable.turns t.mask)
    (hK : way t.mask (uhash w k) K ∉ t.place.toList) (hKb : ∀ c, c < K → way t.mask (uhash w k) c ∈ t.place.toList) {Q : SetFound → Shared → Prop}
    (hin : k ∈ L.map (·.2) → Q (.there none) s) (hout : k ∉ L.map (·.2) → Q (.free (way t.mask (uhash w k) K) false) s) :
    ∀ (f c : Nat) (stand : Option SetTable.Probe), stand.getD (t.probeStart (uhash w k)) = nth t.mask (runAt t.mask (SetTable.bits (uhash w k) % (t.mask + 1)) (SetTable.bits (uhash w k))) c → c ≤ K → K - c < f →
      (∀ (i : Nat) p, L[i]? = some p → p.2 = k → ∃ c', c ≤ c' ∧ c' < K ∧ t.place.toList[i]? = some (way t.mask (uhash w k) c')) →
      wpAny (model P w) A (setSearchFrom a (.ref x) (uhash w k) true f stand) Q E s
  | 0, c, stand, _, _, hf, _ => absurd hf (Nat.not_lt_zero _)
  | f + 1, c, stand, hst, hc, hf, hre => by
    obtain ⟨o, ho, hex, hd⟩ := R.ob
    rw [setSearchFrom_succ]
    refine wpAny_bind (wpAny_setState_of ho hd R.fits ?_)
    dsimp only
    refine wp_if_neg R.gw ?_
    try refine wpAny_bind (wpAny_pure ?_)
    have hnd : (nth t.mask (runAt t.mask (SetTable.bits (uhash w k) % (t.mask + 1)) (SetTable.bits (uhash w k))) c).dummy = none := by
      have key : ∀ (n : Nat) (p : SetTable.Probe), p.dummy = none → (nth t.mask p n).dummy = none := by
        intro n
        induction n with
        | zero => intro p h; exact h
        | succ n ih =>
          intro p h
          refine ih (adv t.mask p) ?_
          unfold adv
          split <;> exact h
      exact key c _ rfl
    have sh : ∀ q, nth t.mask (nth t.mask (runAt t.mask (SetTable.bits (uhash w k) % (t.mask + 1)) (SetTable.bits (uhash w k))) c) q = nth t.mask (runAt t.mask (SetTable.bits (uhash w k) % (t.mask + 1)) (SetTable.bits (uhash w k))) (c + q) := fun q => (nth_add t.mask c _ q).symm
    have e1 : ∀ q, (nth t.mask (nth t.mask (runAt t.mask (SetTable.bits (uhash w k) % (t.mask + 1)) (SetTable.bits (uhash w k))) c) q).j = way t.mask (uhash w k) (c + q) := fun q => congrArg SetTable.Probe.j (sh q)
    have spec := go_spec t R.tab.ris R.tab.dm (fun i => (es[i]?.map (·.1)).getD 0) (uhash w k) (10 * SetTable.turns t.mask) (K - c) _ hnd (by omega)
      (fun q hq => by rw [e1]; exact hKb (c + q) (by omega)) (by rw [e1, show c + (K - c) = K by omega]; exact hK)
    have hashAt : ∀ (i : Nat) p, L[i]? = some p → (fun i => (es[i]?.map (·.1)).getD 0) i = uhash w p.2 := fun i p hp => by
      show (es[i]?.map (·.1)).getD 0 = _
      rw [R.entry hp] <;> rfl
    rcases spec with ⟨q, i, hq, hi, hh, hno, hpr⟩ | ⟨hno, hpr⟩
    · -- a candidate
      have hpr' : t.probe (fun i => (es[i]?.map (·.1)).getD 0) (uhash w k) (stand.getD (t.probeStart (uhash w k))) = some (.candidate (way t.mask (uhash w k) (c + q)) i (nth t.mask (runAt t.mask (SetTable.bits (uhash w k) % (t.mask + 1)) (SetTable.bits (uhash w k))) (c + (q + 1)))) := by
        rw [hst, ← e1, ← sh]
        exact hpr
      rw [hpr']
      dsimp only
      rw [e1] at hi
      -- the entry
      have hil : i < L.length := by
        have h1 : i < t.place.toList.length := (List.getElem?_eq_some_iff.mp hi).1
        have h2 := R.tab.sz
        rw [List.length_map] at h2
        rw [Array.length_toList] at h1
        omega
      have hp : L[i]? = some L[i] := List.getElem?_eq_getElem hil
      generalize hpe : L[i] = p at hp
      have hmem : p ∈ L := List.mem_of_getElem? hp
      have hpt := R.tup p hmem
      have rest : wpAny (model P w) A (searchRest a (.ref x) (uhash w k) true f es t (way t.mask (uhash w k) (c + q)) i (nth t.mask (runAt t.mask (SetTable.bits (uhash w k) % (t.mask + 1)) (SetTable.bits (uhash w k))) (c + (q + 1)))) Q E s := by
        unfold searchRest
        rw [R.entry hp]
        dsimp only
        refine wpAny_bind (wpAny_holding (eq_u hu hpt hx ?_))
        refine wpAny_bind (wpAny_setState_of ho hd R.fits ?_)
        dsimp only
        by_cases hkk : p.2 = k
        · refine wp_if_pos (by simp [hkk]) ?_
          refine wpAny_pure (hin ?_)
          exact List.mem_map.mpr ⟨p, hmem, hkk⟩
        · refine wp_if_neg (by simp [hkk]) ?_
          try refine wpAny_bind (wpAny_pure ?_)
          rw [sameMem]
          dsimp only
          have hsl : t.slot (way t.mask (uhash w k) (c + q)) = .live i := slot_live R.tab.ris hi
          simp only [if_true, hsl, R.entry hp]
          refine wpAny_bind (wpAny_isSame_ref_self (wpAny_bind (wpAny_pure ?_)))
          simp only [if_true]
          refine wp_if_neg (by simp [hkk]) ?_
          refine search_from R hx hu hKf hK hKb hin hout f (c + (q + 1)) _ rfl (by omega) (by omega) fun i0 p0 h0 hk0 => ?_
          obtain ⟨c', a1, a2, a3⟩ := hre i0 p0 h0 hk0
          refine ⟨c', ?_, a2, a3⟩
          -- it isn't passed
          rcases Nat.lt_or_ge c' (c + q) with z | z
          · exfalso
            refine hno (c' - c) i0 (by omega) (by rw [e1, show c + (c' - c) = c' by omega]; exact a3) ?_
            exact (hashAt i0 p0 h0).trans (congrArg (uhash w) hk0)
          · rcases Nat.lt_or_ge (c + q) c' with y | y
            · omega
            · exfalso
              have ec : c' = c + q := Nat.le_antisymm y z
              rw [ec] at a3
              have s0 := slot_live R.tab.ris a3
              rw [hsl] at s0
              injection s0 with s0
              rw [← s0, hp] at h0
              exact hkk ((congrArg Prod.snd (Option.some.inj h0)).trans hk0)
      by_cases hl : t.led = true
      · refine wp_if_neg (by simp [hl]) ?_
        try refine wpAny_bind (wpAny_pure ?_)
        exact rest
      · refine wp_if_pos (by simp [hl]) ?_
        refine wpAny_bind (seen_u hx (fun y hy => ?_) ?_)
        · obtain ⟨e, he, ee⟩ := List.mem_map.mp hy
          have he1 : e ∈ es ∧ e.1 = uhash w k := by simpa using he
          have he2 : e ∈ es.toList := by simpa using he1.1
          rw [R.rows] at he2
          obtain ⟨p2, hp2, e2⟩ := List.mem_map.mp he2
          refine ⟨p2.2, p2.1, ?_, R.tup p2 hp2⟩
          rw [← ee, ← e2]
        · refine wp_if_neg (by decide) ?_
          try refine wpAny_bind (wpAny_pure ?_)
          exact rest
    · -- the empty slot
      have hpr' : t.probe (fun i => (es[i]?.map (·.1)).getD 0) (uhash w k) (stand.getD (t.probeStart (uhash w k))) = some (.empty (way t.mask (uhash w k) K) none) := by
        have e2 : way t.mask (uhash w k) K = (nth t.mask (nth t.mask (runAt t.mask (SetTable.bits (uhash w k) % (t.mask + 1)) (SetTable.bits (uhash w k))) c) (K - c)).j := by
          rw [e1, show c + (K - c) = K by omega]
        rw [hst, e2]
        exact hpr
      rw [hpr']
      dsimp only
      refine wpAny_pure (hout fun hm => ?_)
      obtain ⟨p0, h0, hk0⟩ := List.mem_map.mp hm
      obtain ⟨i0, hi0, e0⟩ := List.getElem_of_mem h0
      have h00 : L[i0]? = some p0 := by rw [List.getElem?_eq_getElem hi0, e0]
      obtain ⟨c', a1, a2, a3⟩ := hre i0 p0 h00 hk0
      refine hno (c' - c) i0 (by omega) (by rw [e1, show c + (c' - c) = c' by omega]; exact a3) ?_
      exact (hashAt i0 p0 h00).trans (congrArg (uhash w) hk0)

/-- the search as adding asks for it -/
theorem search_at (R : SetTR P w s.heap a L es ep t) {x : Addr} {k : NK} (hx : IsU s.heap k x) (hu : A.units + 8 < cLine) {Q : SetFound → Shared → Prop}
    (hin : k ∈ L.map (·.2) → Q (.there none) s)
    (hout : ∀ K, k ∉ L.map (·.2) → way t.mask (uhash w k) K ∉ t.place.toList → (∀ c, c < K → way t.mask (uhash w k) c ∈ t.place.toList) → Q (.free (way t.mask (uhash w k) K) false) s) :
    wpAny (model P w) A (setSearch a (.ref x) (uhash w k) true) Q E s := by
  have hroom := R.room
  obtain ⟨K, hKf, hK, hKb⟩ := R.tab.first (by rw [List.length_map]; omega) (uhash w k)
  have hbig : K < 100000 := by
    have : 10 * SetTable.turns t.mask ≤ 1420 := by
      unfold SetTable.turns
      rcases R.tab.mok with e | e | e <;> omega
    omega
  unfold setSearch
  refine search_from R hx hu hKf hK hKb hin (fun hn => hout K hn hK hKb) 100000 0 none rfl (Nat.zero_le _) (by omega) fun i p hp hk => ?_
  have hi : (L.map fun p => uhash w p.2)[i]? = some (uhash w k) := by rw [List.getElem?_map, hp, ← hk] <;> rfl
  have hil : i < t.place.toList.length := by
    have h1 : i < L.length := (List.getElem?_eq_some_iff.mp hp).1
    have h2 := R.tab.sz
    rw [List.length_map] at h2
    rw [Array.length_toList]
    omega
  have hj := List.getElem?_eq_getElem hil
  obtain ⟨c, hc, e⟩ := R.tab.before hK hi hj
  exact ⟨c, Nat.zero_le _, hc, by rw [hj, e]⟩
end
section
variable {P : Program} {w : World} {A : Around} {E : Value → Shared → Prop} {s : Shared}
/-- a tuple isn't the set -/
theorem isT_same {h h' : Heap} {k : NK} {a b : Addr} {o : Obj} {es : Array (Int × Value)} {ep : Nat} {t : SetTable} (hb : IsU h k b) (ho : h.get? a = some o) (hd : o.data = .set es ep t) (hs : Heap.SameBut a h h') : IsU h' k b :=
  ⟨NestedIs.at (fun c o' vs n e d => by
    have hne : c ≠ a := by
      rintro rfl
      obtain rfl : o' = o := Option.some.inj (e.symm.trans ho)
      rw [hd] at d
      exact nomatch d
    exact (hs.2 c hne).trans e) _ _ hb.1, hb.2⟩
theorem rows_put (L : List (Addr × NK)) (p : Nat) (x : Addr) (k : NK) : rowsOf w (L.take p ++ (x, k) :: L.drop p) = (rowsOf w L).take p ++ (uhash w k, Value.ref x) :: (rowsOf w L).drop p := by
  unfold rowsOf
  rw [List.map_append, List.map_cons, List.map_take, List.map_drop]
theorem order_rows (L : List (Addr × NK)) (es : Array (Int × Value)) (order : Array Nat) (hr : es.toList = rowsOf w L) (hp : order.toList.Perm (List.range L.length)) :
    ∃ L2, (order.filterMap (es[·]?)).toList = rowsOf w L2 ∧ L2.Perm L ∧ (L2.map fun p => uhash w p.2) = order.toList.map fun i => (es.map (·.1)).getD i 0 := by
  have hsz : es.size = L.length := by
    have h := congrArg List.length hr
    unfold rowsOf at h
    rw [Array.length_toList, List.length_map] at h
    exact h
  have ent : ∀ i (h : i < L.length), es[i]? = some (uhash w (L[i]).2, Value.ref (L[i]).1) := fun i h => by
    rw [← Array.getElem?_toList, hr]
    unfold rowsOf
    rw [List.getElem?_map, List.getElem?_eq_getElem h] <;> rfl
  have key : ∀ l : List Nat, (∀ i ∈ l, i < L.length) → ∃ L2 : List (Addr × NK), l.filterMap (fun i => es[i]?) = rowsOf w L2 ∧ L2 = l.filterMap (fun i => L[i]?) ∧ (L2.map fun p => uhash w p.2) = l.map fun i => (es.map (·.1)).getD i 0 := by
    intro l
    induction l with
    | nil => intro _; exact ⟨[], rfl, rfl, rfl⟩
    | cons i l ih =>
      intro hl
      have hi := hl i List.mem_cons_self
      obtain ⟨L2, e1, e2, e3⟩ := ih fun j hj => hl j (List.mem_cons_of_mem _ hj)
      refine ⟨L[i] :: L2, ?_, ?_, ?_⟩
      · rw [List.filterMap_cons_some (ent i hi), e1] <;> rfl
      · rw [List.filterMap_cons_some (List.getElem?_eq_getElem hi), e2]
      · rw [List.map_cons, List.map_cons, e3]
        have hi2 : i < (es.map (·.1)).size := by rw [Array.size_map, hsz]; exact hi
        have e4 : (es.map (·.1)).getD i 0 = uhash w (L[i]).2 := by
          have e5 : (es.map (·.1))[i]? = some (uhash w (L[i]).2) := by rw [Array.getElem?_map, ent i hi] <;> rfl
          simp [Array.getD_eq_getD_getElem?, e5]
        rw [e4]
  obtain ⟨L2, e1, e2, e3⟩ := key order.toList fun i hi => List.mem_range.mp (hp.mem_iff.mp hi)
  refine ⟨L2, by first | (rw [Array.toList_filterMap]; exact e1) | simpa using e1, ?_, e3⟩
  have h1 : L2.Perm ((List.range L.length).filterMap fun i => L[i]?) := by
    rw [e2]
    exact hp.filterMap _
  have h2 : (List.range L.length).filterMap (fun i => L[i]?) = L := by
    have key2 : ∀ n, n ≤ L.length → (List.range n).filterMap (fun i => L[i]?) = L.take n := by
      intro n
      induction n with
      | zero => intro _; rfl
      | succ n ih =>
        intro hn
        have hlt : n < L.length := hn
        rw [List.range_succ, List.filterMap_append, ih (Nat.le_of_lt hlt), List.take_succ, List.getElem?_eq_getElem hlt]
        rw [List.filterMap_cons_some (List.getElem?_eq_getElem hlt)] <;> rfl
    rw [key2 L.length (Nat.le_refl _), List.take_length]
  rw [h2] at h1
  exact h1

variable {a : Addr} {L : List (Addr × NK)} {es : Array (Int × Value)} {ep : Nat} {t : SetTable}
/-- the table laid anew, larger -/
theorem relay_at {o : Obj} (ho : s.heap.get? a = some o) (hex : o.ExactSet) (hd : o.data = .set es ep t) (hrows : es.toList = rowsOf w L) (hsz : t.place.size = es.size) (hdm : t.dummies = #[]) (hfl : es.size ≤ t.mask)
    (nd : (L.map (·.2)).Nodup) (tup : ∀ p ∈ L, IsU s.heap p.2 p.1) (ld : w.params.followText "set-order" = true ∨ t.led = true) (few : L.length < 64) {wanted M : Nat}
    (hw : SetTable.sizeAbove wanted - 1 = M) (hM : MaskOk M) (hw2 : SetTable.sizeAbove wanted ≤ 128) (hn : L.length * 5 < M * 3) {Q : Unit → Shared → Prop}
    (hQ : ∀ h' L' es' ep' t', Heap.SameBut a s.heap h' → SetTR P w h' a L' es' ep' t' → L'.Perm L → Q () { s with heap := h' }) : wpAny (model P w) A (setRelay a wanted) Q E s := by
  have hsl : es.size = L.length := by
    have h := congrArg List.length hrows
    unfold rowsOf at h
    rw [Array.length_toList, List.length_map] at h
    exact h
  have hfits : t.fits es.size = true := by
    unfold SetTable.fits SetTable.fill
    rw [hdm, Bool.and_eq_true, beq_iff_eq, decide_eq_true_eq]
    show t.place.size = es.size ∧ t.place.size + 0 ≤ t.mask
    omega
  obtain ⟨t', order, e, hp, T, em, el, ep', ed⟩ := relaid_ok t (hs := es.map (·.1)) (wanted := wanted) hw hM (by rw [Array.size_map, hsl]; omega)
  rw [Array.size_map, hsl] at hp
  obtain ⟨L2, r1, r2, r3⟩ := order_rows L es order hrows hp
  rw [← r3] at T
  have hs2 : (order.filterMap (es[·]?)).size = es.size := by
    have h := congrArg List.length r1
    unfold rowsOf at h
    rw [Array.length_toList, List.length_map, r2.length_eq] at h
    rw [h, hsl]
  rw [setRelay_eq]
  refine wpAny_bind (wpAny_setState_of ho hd hfits ?_)
  dsimp only
  refine wp_if_neg (by rw [sizeLine_eq]; omega) ?_
  try refine wpAny_bind (wpAny_pure ?_)
  rw [e]
  dsimp only
  refine wpAny_bind ?_
  refine wp_if_neg (by rw [hs2]; simp) ?_
  try refine wpAny_bind (wpAny_pure ?_)
  refine wpAny_pure ?_
  dsimp only
  refine wpAny_storeSet_of ho hd ?_ (by rw [hs2, hsl, sizeLine_eq]; omega)
  have sb : Heap.SameBut a s.heap (s.heap.update a (Obj.putSet (order.filterMap (es[·]?)) t')) := Heap.SameBut.update ..
  refine hQ _ L2 (order.filterMap (es[·]?)) (ep + 1) t' sb ?_ r2
  refine ⟨⟨_, store_at ho hd, ⟨hex.1, hex.2.1, hex.2.2⟩, rfl⟩, r1, T, ?_, fun p hpm => isT_same (tup p (r2.mem_iff.mp hpm)) ho hd sb, by rw [el]; exact ld, ?_, by rw [r2.length_eq]; exact few⟩
  · exact (r2.map (·.2)).nodup_iff.mpr nd
  · rw [r2.length_eq, em]
    exact hn

/-- ADDING -/
theorem add_at (R : SetTR P w s.heap a L es ep t) {x : Addr} {k : NK} (hx : IsU s.heap k x) (hu : A.units + 8 < cLine) (hfew0 : k ∉ L.map (·.2) → L.length + 1 < 64) {Q : Bool → Shared → Prop}
    (hQ : ∀ b h' L' es' ep' t', Heap.SameBut a s.heap h' → SetTR P w h' a L' es' ep' t' → (k ∈ L.map (·.2) → L' = L) → (k ∉ L.map (·.2) → L'.Perm ((x, k) :: L)) → Q b { s with heap := h' }) :
    wpAny (model P w) A (setAddHashed a (.ref x) (uhash w k)) Q E s := by
  obtain ⟨o, ho, hex, hd⟩ := R.ob
  have hsl := R.size
  have hroom := R.room
  unfold setAddHashed
  refine wpAny_holding ?_
  rw [show (100000 : Nat) = 99999 + 1 from rfl, setAddHashedIn_succ]
  refine wpAny_bind (wpAny_setState_of ho hd R.fits ?_)
  dsimp only
  refine wp_if_neg (by simp [byScan, Value.scannable]) ?_
  try refine wpAny_bind (wpAny_pure ?_)
  refine wpAny_bind (search_at R hx hu (fun hm => ?_) fun K hm hK hb => ?_)
  · dsimp only
    exact wpAny_pure (hQ false s.heap L es ep t (Heap.SameBut.refl a s.heap) R (fun _ => rfl) fun z => absurd hm z)
  · dsimp only
    refine wpAny_bind (wpAny_setState_of ho hd R.fits ?_)
    dsimp only
    have hfew := hfew0 hm
    obtain ⟨q1, q2, q3, q4, q5, q6, q7, q8, q9⟩ := R.tab.put hK hb
    generalize hpt : t.put (way t.mask (uhash w k) K) = pt at q1 q3 q4 q5 q6 q7 q8 q9 ⊢
    obtain ⟨t0, p⟩ := pt
    dsimp only at q1 q3 q4 q5 q6 q7 q8 q9 ⊢
    subst q1
    first
      | refine ifHash2 hx fun bb => ?_
      | refine wpAny_bind (ifHash hx fun bb => ?_)
    have f3 := (show ∀ hs, TabOk t0 hs → TabOk (if bb = true then t0 else { t0 with plain := false }) hs from fun hs q => by cases bb <;> exact ⟨q.ris, q.dm, q.sz, q.mok, q.bd, q.reach⟩) _ q3
    have f4 : (if bb = true then t0 else { t0 with plain := false }).mask = t.mask := by cases bb <;> exact q4
    have f5 : (if bb = true then t0 else { t0 with plain := false }).led = t.led := by cases bb <;> exact q5
    have f9 : (if bb = true then t0 else { t0 with plain := false }).fill = (L.map fun p => uhash w p.2).length + 1 := by cases bb <;> exact q9
    clear q3 q4 q5 q6 q7 q8 q9 hpt
    generalize (if bb = true then t0 else { t0 with plain := false }) = t1 at f3 f4 f5 f9 ⊢
    have q3 := f3
    have q4 := f4
    have q5 := f5
    have q9 := f9
    clear f3 f4 f5 f9
    have hin : (SetTable.insertAt es (SetTable.below t.place (way t.mask (uhash w k) K)) (uhash w k, Value.ref x)).toList = rowsOf w (L.take (SetTable.below t.place (way t.mask (uhash w k) K)) ++ (x, k) :: L.drop (SetTable.below t.place (way t.mask (uhash w k) K))) := by
      rw [SetTable.toList_insertAt, rows_put, R.rows]
    generalize hpp : SetTable.below t.place (way t.mask (uhash w k) K) = p at q2 q3 hin ⊢
    have pm := put_perm L p (x, k)
    have hlen : (L.take p ++ (x, k) :: L.drop p).length = L.length + 1 := pm.length_eq
    have hhs : (L.take p ++ (x, k) :: L.drop p).map (fun p => uhash w p.2) = (L.map fun p => uhash w p.2).take p ++ uhash w k :: (L.map fun p => uhash w p.2).drop p := by
      rw [List.map_append, List.map_cons, List.map_take, List.map_drop]
    rw [← hhs] at q3
    have nd1 : ((L.take p ++ (x, k) :: L.drop p).map (·.2)).Nodup := by
      refine (pm.map (·.2)).nodup_iff.mpr ?_
      rw [List.map_cons]
      exact List.nodup_cons.mpr ⟨hm, R.nd⟩
    have hes : (SetTable.insertAt es p (uhash w k, Value.ref x)).size = L.length + 1 := by
      have h := congrArg List.length hin
      unfold rowsOf at h
      rw [Array.length_toList, List.length_map, hlen] at h
      exact h
    generalize SetTable.insertAt es p (uhash w k, Value.ref x) = es1 at hin hes ⊢
    generalize L.take p ++ (x, k) :: L.drop p = L1 at pm hlen q3 nd1 hin
    refine wpAny_bind (wpAny_storeSet_of ho hd ?_ (by rw [hes, sizeLine_eq]; omega))
    have sb : Heap.SameBut a s.heap (s.heap.update a (Obj.putSet es1 t1)) := Heap.SameBut.update ..
    have ho1 := store_at (es' := es1) (t' := t1) ho hd
    generalize s.heap.update a (Obj.putSet es1 t1) = h1 at sb ho1 ⊢
    have tup1 : ∀ p ∈ L1, IsU h1 p.2 p.1 := fun p hp => by
      rcases List.mem_cons.mp (pm.mem_iff.mp hp) with e | hp
      · rw [e]; exact isT_same hx ho hd sb
      · exact isT_same (R.tup p hp) ho hd sb
    have ld1 : w.params.followText "set-order" = true ∨ t1.led = true := by rw [q5]; exact R.led
    by_cases hf : t1.tooFull = true
    · first
        | (refine wpAny_bind ?_; refine wp_if_pos (by simp [hf]) ?_)
        | (refine wp_if_pos (by simp [hf]) ?_; refine wpAny_bind ?_)
      have hfull : (L.length + 1) * 5 ≥ t1.mask * 3 := by
        have h := hf
        unfold SetTable.tooFull at h
        rw [decide_eq_true_eq, q9, List.length_map] at h
        exact h
      rw [hsl]
      have hsz1 : t1.place.size = es1.size := by
        have h := q3.sz
        rw [List.length_map, hlen] at h
        rw [h, hes]
      have cases2 : (t.mask = 7 ∧ L.length = 4) ∨ (t.mask = 31 ∧ L.length = 18) := by
        rcases R.tab.mok with e | e | e
        · left; rw [q4, e] at hfull; rw [e] at hroom; exact ⟨e, by omega⟩
        · right; rw [q4, e] at hfull; rw [e] at hroom; exact ⟨e, by omega⟩
        · exfalso; rw [q4, e] at hfull; omega
      have go : ∀ M, SetTable.sizeAbove (SetTable.grown (L.length + 1)) - 1 = M → MaskOk M → SetTable.sizeAbove (SetTable.grown (L.length + 1)) ≤ 128 → (L.length + 1) * 5 < M * 3 →
          wpAny (model P w) A (setRelay a (SetTable.grown (L.length + 1))) (fun _ s' => wpAny (model P w) A (pure true) Q E s') E { s with heap := h1 } := fun M h1' h2' h3' h4' => by
        refine relay_at (s := { s with heap := h1 }) ho1 ⟨hex.1, hex.2.1, hex.2.2⟩ rfl hin hsz1 q3.dm (by rw [hes, q4]; rcases cases2 with ⟨e, e2⟩ | ⟨e, e2⟩ <;> omega) nd1 tup1 ld1 (by rw [hlen]; exact hfew) h1' h2' h3' (by rw [hlen]; exact h4') ?_
        intro h2 L2 es2 ep2 t2 sb2 R2 pm2
        refine wpAny_pure (hQ true h2 L2 es2 ep2 t2 (sb.trans sb2) R2 (fun z => absurd z hm) fun _ => pm2.trans pm)
      rcases cases2 with ⟨_, e2⟩ | ⟨_, e2⟩
      · refine go 31 (by rw [e2, size_20]) (.inr (.inl rfl)) (by rw [e2, size_20]; decide) (by omega)
      · refine go 127 (by rw [e2, size_76]) (.inr (.inr rfl)) (by rw [e2, size_76]; decide) (by omega)
    · first
        | refine wp_if_neg (by simp [hf]) ?_
        | (refine wpAny_bind ?_; refine wp_if_neg (by simp [hf]) ?_; refine wpAny_pure ?_)
      refine wpAny_pure (hQ true h1 L1 es1 (ep + 1) t1 sb ⟨⟨_, ho1, ⟨hex.1, hex.2.1, hex.2.2⟩, rfl⟩, hin, q3, nd1, tup1, ld1, ?_, by rw [hlen]; exact hfew⟩ (fun z => absurd z hm) fun _ => pm)
      have h := hf
      unfold SetTable.tooFull at h
      rw [decide_eq_true_eq, q9, List.length_map] at h
      rw [hlen]
      omega
end

/-- what the set has got from the first i items -/
structure Got (ks : List (Addr × NK)) (i : Nat) (L : List (Addr × NK)) : Prop where
  sub : ∀ p ∈ L, p ∈ ks.take i
  all : ∀ p ∈ ks.take i, p.2 ∈ L.map (·.2)
  len : L.length ≤ i
theorem Got.zero (ks : List (Addr × NK)) : Got ks 0 [] := ⟨fun p h => (by cases h), fun p h => (by simp at h), Nat.le_refl _⟩
theorem Got.same {ks L : List (Addr × NK)} {i : Nat} {x : Addr × NK} (g : Got ks i L) (h : ks[i]? = some x) (hm : x.2 ∈ L.map (·.2)) : Got ks (i + 1) L := by
  refine ⟨fun p hp => ?_, fun p hp => ?_, Nat.le_succ_of_le g.len⟩
  · rw [take_next h]
    exact List.mem_append_left _ (g.sub p hp)
  · rw [take_next h] at hp
    rcases List.mem_append.mp hp with z | z
    · exact g.all p z
    · rw [List.mem_singleton.mp z]; exact hm
theorem Got.more {ks L L' : List (Addr × NK)} {i : Nat} {x : Addr × NK} (g : Got ks i L) (h : ks[i]? = some x) (pm : L'.Perm (x :: L)) : Got ks (i + 1) L' := by
  refine ⟨fun p hp => ?_, fun p hp => ?_, ?_⟩
  · rw [take_next h]
    rcases List.mem_cons.mp (pm.mem_iff.mp hp) with e | z
    · rw [e]; exact List.mem_append_right _ (List.mem_singleton.mpr rfl)
    · exact List.mem_append_left _ (g.sub p z)
  · rw [(pm.map (·.2)).mem_iff, List.map_cons]
    rw [take_next h] at hp
    rcases List.mem_append.mp hp with z | z
    · exact List.mem_cons_of_mem _ (g.all p z)
    · rw [List.mem_singleton.mp z]; exact List.mem_cons_self
  · rw [pm.length_eq, List.length_cons]
    exact Nat.succ_le_succ g.len

section
variable {P : Program} {w : World} {A : Around} {E : Value → Shared → Prop} {s : Shared}
theorem isT_keep {h h' : Heap} {k : NK} {b : Addr} (x : IsU h k b) (hk : ∀ c o, h.get? c = some o → h'.get? c = some o) : IsU h' k b := ⟨NestedIs.at (fun c o _ _ e _ => hk c o e) _ _ x.1, x.2⟩
theorem SetTR.keep {h h' : Heap} {a : Addr} {L : List (Addr × NK)} {es : Array (Int × Value)} {ep : Nat} {t : SetTable} (R : SetTR P w h a L es ep t) (ha : ∀ o, h.get? a = some o → h'.get? a = some o) (ht : ∀ p ∈ L, IsU h' p.2 p.1) : SetTR P w h' a L es ep t := by
  obtain ⟨o, ho, r⟩ := R.ob
  exact ⟨⟨o, ha o ho, r⟩, R.rows, R.tab, R.nd, ht, R.led, R.room, R.few⟩
/-- a new set -/
theorem setTR_fresh {h : Heap} {a : Addr} (ho : h.get? a = some { cls := .type "set", dict := none, data := .set #[] 0 (.fresh 0 0 (!w.params.followText "set-order")) }) : SetTR P w h a [] #[] 0 (.fresh 0 0 (!w.params.followText "set-order")) where
  ob := ⟨_, ho, ⟨rfl, rfl, rfl⟩, rfl⟩
  rows := rfl
  tab := ⟨List.Pairwise.nil, rfl, rfl, .inl rfl, fun x hx => (by cases hx), fun i h j hi => (by simp at hi)⟩
  nd := List.nodup_nil
  tup := fun p hp => (by cases hp)
  led := by
    show _ ∨ (!w.params.followText "set-order") = true
    cases w.params.followText "set-order"
    · exact .inr rfl
    · exact .inl rfl
  room := by
    show 0 * 5 < 7 * 3
    decide
  few := by
    show 0 < 64
    decide

/-- tuples fill a set -/
theorem fill_tups {A : Around} {S : Addr} {h0 : Heap} {items : Array Value} (ks : List (Addr × NK)) (hit : items.toList = ks.map fun p => Value.ref p.1) (hk : ∀ p ∈ ks, IsU h0 p.2 p.1)
    (hfew : ∀ L2 : List (Addr × NK), (L2.map (·.2)).Nodup → (∀ p ∈ L2, p ∈ ks) → L2.length < 64) (hu : A.units + 8 < cLine) :
    Fill P w A S h0 items.size (fun i v => items[i]? = some v) fun i h => ∃ L es ep t, SetTR P w h S L es ep t ∧ Got ks i L where
  keep := fun i h h' ha hk1 hk2 ⟨L, es, ep, t, hS, g⟩ => ⟨L, es, ep, t, hS.keep ha fun p hp => isT_keep (hk p (List.mem_of_mem_take (g.sub p hp))) hk2, g⟩
  add := fun i v s Q E hi hv hk1 ⟨L, es, ep, t, hS, g⟩ hQ => by
    obtain ⟨p, hp, rfl⟩ : ∃ p, ks[i]? = some p ∧ v = .ref p.1 := by
      have q : items.toList[i]? = some v := by rw [Array.getElem?_toList]; exact hv
      rw [hit, List.getElem?_map] at q
      cases hq : ks[i]? with
      | none => rw [hq] at q; cases q
      | some p =>
        rw [hq] at q
        exact ⟨p, rfl, (Option.some.inj q).symm⟩
    have sub : ∀ p ∈ L, p ∈ ks := fun p hp => List.mem_of_mem_take (g.sub p hp)
    have hx : IsU s.heap p.2 p.1 := isT_keep (hk p (List.mem_of_getElem? hp)) hk1
    unfold setAdd
    refine wpAny_holding ?_
    refine wpAny_bind (hash_u hu hx ?_)
    refine add_at (s := { s with toks := s.toks + (NestedKey.tup p.2).draws }) hS hx hu (fun hn => by
      have := hfew (p :: L) (by rw [List.map_cons]; exact List.nodup_cons.mpr ⟨hn, hS.nd⟩) (fun q hq => (List.mem_cons.mp hq).elim (fun e => by rw [e]; exact List.mem_of_getElem? hp) (fun hq => sub q hq))
      rw [List.length_cons] at this; exact this) fun b h' L' es' ep' t' hsb hS2 c1 c2 => ?_
    have g' : Got ks (i + 1) L' := by
      rcases Classical.em (p.2 ∈ L.map (·.2)) with c | c
      · rw [c1 c]; exact g.same hp c
      · exact g.more hp (c2 c)
    exact hQ b h' _ (Nat.le_add_right _ _) hsb ⟨L', es', ep', t', hS2, g'⟩
end
end Qv

set_option maxRecDepth 100000
set_option maxHeartbeats 3200000
/-! QW: sets of texts. -/
namespace Qv
open PySem PySem.Spec PyProof.Rows L2
def txOf (e : Int × Value) : Str := match e.2 with | .str k _ => k | _ => ⟨#[]⟩
def GoodX (w : World) (e : Int × Value) : Prop := ∃ k tk, e.2 = Value.str k tk ∧ e.1 = hashStr w k
/-- the set of texts at a holds just the texts l, each once -/
def SetX (w : World) (h : Heap) (a : Addr) (l : List Str) : Prop :=
  ∃ o es ep t, h.get? a = some o ∧ o.ExactSet ∧ o.data = .set es ep t ∧ (∀ e ∈ es.toList, GoodX w e) ∧ (es.toList.map txOf).Perm l ∧ l.Nodup ∧
    es.size < scanBound ∧ t.fits es.size = true ∧ Ris t.place.toList ∧ (w.params.followText "set-order" = true ∨ t.led = true)
section
variable {P : Program} {w : World} {h h' : Heap} {a : Addr} {l : List Str}
theorem SetX.at (R : SetX w h a l) (k : ∀ o, h.get? a = some o → h'.get? a = some o) : SetX w h' a l := by
  obtain ⟨o, es, ep, t, ho, r⟩ := R
  exact ⟨o, es, ep, t, k o ho, r⟩
theorem goodx_elems {l : List (Int × Value)} (g : ∀ e ∈ l, GoodX w e) : ElemsOf (strKind P w) l := fun e he => by
  obtain ⟨k, tk, h1, h2⟩ := g e he
  exact ⟨⟨k, by rw [h1]; exact PySem.Froz.is_str k tk, h2⟩, by rw [h1] <;> rfl⟩
theorem goodx_is {e : Int × Value} (g : GoodX w e) (k : Str) : (strKind P w).is k e.2 = true ↔ txOf e = k := by
  obtain ⟨k0, tk, h1, _⟩ := g
  unfold txOf
  rw [h1]
  constructor
  · intro h
    have := (strKind P w).inj _ _ _ h (PySem.Froz.is_str k0 tk)
    exact this.symm
  · rintro rfl
    exact PySem.Froz.is_str _ tk
end
section
variable {P : Program} {w : World} {A : Around} {E : Value → Shared → Prop} {s : Shared} {a : Addr} {l : List Str}
theorem setX_add_tail {g : Bool → Sem Unit} (hg : ∀ (b : Bool) (s₁ : Shared) (Q' : Unit → Shared → Prop), Q' () s₁ → wpAny (model P w) A (g b) Q' E s₁)
    {o : Obj} {es : Array (Int × Value)} {ep : Nat} {t : SetTable} (ho : s.heap.get? a = some o) (hex : o.ExactSet) (hd : o.data = .set es ep t)
    {es1 : Array (Int × Value)} {t2 : SetTable} {l' : List Str} (g1 : ∀ e ∈ es1.toList, GoodX w e) (p1 : (es1.toList.map txOf).Perm l') (nd : l'.Nodup)
    (hb1 : es1.size < scanBound) (hf2 : t2.fits es1.size = true) (hr : Ris t2.place.toList) (hl : w.params.followText "set-order" = true ∨ t2.led = true) {wasDummy : Bool} {R : Option Bool → Shared → Prop}
    (hR : ∀ h', Heap.SameBut a s.heap h' → SetX w h' a l' → R (some true) { s with heap := h' }) :
    wpAny (model P w) A (do
        storeSet a es1 t2
        if (!wasDummy && t2.tooFull) = true then do
            g (relayAll t2 es1 (SetTable.grown es1.size)).2.2
            storeSet a (relayAll t2 es1 (SetTable.grown es1.size)).1 (relayAll t2 es1 (SetTable.grown es1.size)).2.1
            pure (some true)
          else pure (some true)) R E s := by
  refine wpAny_bind (wpAny_storeSet_of ho hd ?_ (fits_of_scanBound hb1))
  have ho1 := L2.store_at (es' := es1) (t' := t2) ho hd
  have sb1 := Heap.SameBut.update s.heap a (Obj.putSet es1 t2)
  split
  · have pm := relayAll_perm t2 es1 (SetTable.grown es1.size)
    have hf3 := relayAll_fits t2 es1 (SetTable.grown es1.size)
    have hr3 := L2.relayAll_ris t2 es1 (SetTable.grown es1.size)
    have hl3 := L2.relayAll_led t2 es1 (SetTable.grown es1.size)
    generalize relayAll t2 es1 (SetTable.grown es1.size) = Z at pm hf3 hr3 hl3 ⊢
    obtain ⟨es2, t3, gave⟩ := Z
    dsimp only at pm hf3 hr3 hl3 ⊢
    have hsz : es2.size = es1.size := by rw [← Array.length_toList, pm.length_eq, Array.length_toList]
    have hb2 : es2.size < scanBound := by rw [hsz]; exact hb1
    refine wpAny_bind (hg _ _ _ ?_)
    refine wpAny_bind (wpAny_storeSet_of ho1 rfl ?_ (fits_of_scanBound hb2))
    have ho2 := L2.store_at (es' := es2) (t' := t3) ho1 rfl
    refine wpAny_pure (hR _ (sb1.trans (Heap.SameBut.update _ a _)) ?_)
    exact ⟨_, es2, _, t3, ho2, hex, rfl, fun e he => g1 e (pm.mem_iff.mp he), (pm.map txOf).trans p1, nd, hb2, hf3, hr3,
      hl.imp id fun z => by rw [hl3]; exact z⟩
  · exact wpAny_pure (hR _ sb1 ⟨_, es1, _, t2, ho1, hex, rfl, g1, p1, nd, hb1, hf2, hr, hl⟩)
theorem setX_add_hashed {k : Str} {tk : Tok} {Q : Bool → Shared → Prop} (R : SetX w s.heap a l) (room : l.length + 1 < scanBound)
    (hQ : ∀ r h', Heap.SameBut a s.heap h' → SetX w h' a (if k ∈ l then l else k :: l) → Q r { s with heap := h' }) :
    wpAny (model P w) A (setAddHashed a (.str k tk) ((strKind P w).hash k)) Q E s := by
  obtain ⟨o, es, ep, t, ho, hex, hd, g, pl, nd, hb, hf, hr, hl⟩ := R
  have hkey : (strKind P w).is k (.str k tk) = true := PySem.Froz.is_str k tk
  have hsc : (Value.str k tk).scannable = true := rfl
  have hel : ElemsOf (strKind P w) es.toList := goodx_elems g
  have hsz0 : es.size = l.length := by
    have := pl.length_eq
    rw [List.length_map, Array.length_toList] at this
    exact this
  unfold setAddHashed setAddHashedIn
  refine wpAny_holding (wpAny_bind (wpAny_setState_of ho hd hf ?_))
  dsimp only
  rw [byScan_of hsc hb hel]
  simp only [↓reduceIte]
  unfold setAddByScan
  refine wpAny_bind ?_
  refine wpAny_bind (wpAny_rule ?_)
  refine wpAny_bind (wpAny_setScan_of hkey ho hd hf hel ?_)
  cases hfi : List.findIdx? (fun e => (strKind P w).is k e.2) es.toList with
  | some j =>
    dsimp only
    obtain ⟨hj, pj, _⟩ := List.findIdx?_eq_some_iff_getElem.mp hfi
    have hm : es.toList[j] ∈ es.toList := List.getElem_mem hj
    have hkl : k ∈ l := pl.mem_iff.mp (List.mem_map.mpr ⟨_, hm, (goodx_is (P := P) (g _ hm) k).1 pj⟩)
    refine wpAny_pure (wpAny_pure (hQ _ s.heap (Heap.SameBut.refl a s.heap) ?_))
    rw [if_pos hkl]
    exact ⟨o, es, ep, t, ho, hex, hd, g, pl, nd, hb, hf, hr, hl⟩
  | none =>
    dsimp only
    have hnk : k ∉ l := fun z => by
      obtain ⟨e, he, q⟩ := List.mem_map.mp (pl.mem_iff.mpr z)
      have c := List.findIdx?_eq_none_iff.mp hfi e he
      rw [(goodx_is (P := P) (g e he) k).2 q] at c
      cases c
    have hgw : ∀ (b : Bool) {s₁ : Shared} {Q' : Unit → Shared → Prop}, Q' () s₁ → wpAny (model P w) A (match b with | true => rule "set.scan.the-table-gave-way" | false => pure ()) Q' E s₁ :=
      fun b s₁ Q' q => by cases b <;> first | exact wpAny_pure q | exact wpAny_rule q
    have pm := layNew_perm t es ((strKind P w).hash k) (.str k tk)
    have hf1 := layNew_fits t es ((strKind P w).hash k) (.str k tk)
    have hr1 := L2.layNew_ris t es ((strKind P w).hash k) (.str k tk) hr
    have hl1 := L2.layNew_led t es ((strKind P w).hash k) (.str k tk)
    generalize layNew t es ((strKind P w).hash k) (.str k tk) = Z at pm hf1 hr1 hl1 ⊢
    obtain ⟨es1, t1, wasDummy, gave⟩ := Z
    dsimp only at pm hf1 hr1 hl1 ⊢
    rw [Array.toList_push] at pm
    have pc : es1.toList.Perm (((strKind P w).hash k, Value.str k tk) :: es.toList) := pm.trans (List.perm_append_singleton _ _)
    have pk : (es1.toList.map txOf).Perm (k :: es.toList.map txOf) := pc.map txOf
    have pk2 : (es1.toList.map txOf).Perm (k :: l) := pk.trans (pl.cons k)
    have g1 : ∀ e ∈ es1.toList, GoodX w e := fun e he => by
      rcases List.mem_cons.mp (pc.mem_iff.mp he) with z | z
      · rw [z]; exact ⟨k, tk, rfl, rfl⟩
      · exact g e z
    have nd1 : (k :: l).Nodup := List.nodup_cons.mpr ⟨hnk, nd⟩
    have hsz : es1.size = l.length + 1 := by rw [← Array.length_toList, pc.length_eq, List.length_cons, Array.length_toList, hsz0]
    have hb1 : es1.size < scanBound := by rw [hsz]; exact room
    have hled : w.params.followText "set-order" = true ∨ t1.led = true := hl.imp id fun z => by rw [hl1]; exact z
    have fin : ∀ h', Heap.SameBut a s.heap h' → SetX w h' a (k :: l) → Q true { s with heap := h' } := fun h' sb r => hQ true h' sb (by rw [if_neg hnk]; exact r)
    refine wpAny_bind (hgw _ ?_)
    split
    · refine wpAny_bind ?_
      rw [hashByValue_scannable 8 hsc]
      refine wpAny_pure ?_
      refine setX_add_tail ?_ ho hex hd g1 pk2 nd1 hb1 ?_ ?_ ?_ ?_
      · intro b s₁ Q' q; cases b <;> first | exact wpAny_pure q | exact wpAny_rule q
      · first | (split <;> first | exact hf1 | exact SetTable.fits_plain_off hf1) | exact hf1
      · first | (split <;> exact hr1) | exact hr1
      · first | (split <;> exact hled) | exact hled
      · intro h' sb r; dsimp only; exact wpAny_pure (fin h' sb r)
    · refine wpAny_bind (wpAny_pure ?_)
      simp only [↓reduceIte]
      refine setX_add_tail ?_ ho hex hd g1 pk2 nd1 hb1 hf1 hr1 hled ?_
      · intro b s₁ Q' q; cases b <;> first | exact wpAny_pure q | exact wpAny_rule q
      · intro h' sb r; dsimp only; exact wpAny_pure (fin h' sb r)
/-- what the first i texts give -/
def got (ks : List Str) : List Str → List Str := ks.foldl fun l k => if k ∈ l then l else k :: l
theorem setX_fresh {h : Heap} {a : Addr} (ho : h.get? a = some { cls := .type "set", dict := none, data := .set #[] 0 (.fresh 0 0 (!w.params.followText "set-order")) }) : SetX w h a [] :=
  ⟨_, #[], 0, _, ho, ⟨rfl, rfl, rfl⟩, rfl, (fun e he => by simp at he), (by exact List.Perm.refl _), List.nodup_nil, (by decide), (by rfl), List.Pairwise.nil, by
    show _ ∨ (!w.params.followText "set-order") = true
    cases w.params.followText "set-order"
    · exact .inr rfl
    · exact .inl rfl⟩
theorem fill_strs {A : Around} {S : Addr} {h0 : Heap} {items : Array Value} (ks : List Str) (hit : Pr (fun v k => ∃ t, v = Value.str k t) items.toList ks) (hz : ks.length + 1 < scanBound) :
    Fill P w A S h0 items.size (fun i v => items[i]? = some v) fun i h => ∃ l, SetX w h S l ∧ l.length ≤ i ∧ (∀ k, k ∈ l ↔ k ∈ ks.take i) where
  keep := fun i h h' ha hk1 hk2 ⟨l, hS, g⟩ => ⟨l, hS.at ha, g⟩
  add := fun i v s Q E hi hv hk1 ⟨l, hS, hl, g⟩ hQ => by
    have q : items.toList[i]? = some v := by rw [Array.getElem?_toList]; exact hv
    obtain ⟨k, tk, hk, rfl⟩ : ∃ k tk, ks[i]? = some k ∧ v = .str k tk := by
      rcases hit.get (i := i) with ⟨e, _⟩ | ⟨v', k, e1, e2, t, e3⟩
      · rw [e] at q; cases q
      · rw [e1] at q
        exact ⟨k, t, e2, by rw [← Option.some.inj q, e3]⟩
    have hlen : i < ks.length := (List.getElem?_eq_some_iff.mp hk).1
    unfold setAdd
    refine wpAny_holding ?_
    refine wpAny_bind ((strKind P w).pyHash (PySem.Froz.is_str k tk) ?_)
    refine setX_add_hashed (s := { s with toks := s.toks + 1 }) hS (by omega) fun r h' sb hS2 => ?_
    refine hQ r h' _ (Nat.le_succ _) sb ⟨_, hS2, ?_, fun j => ?_⟩
    · by_cases c : k ∈ l
      · rw [if_pos c]; omega
      · rw [if_neg c, List.length_cons]; omega
    · rw [L2.take_next hk, List.mem_append, List.mem_singleton, ← g j]
      by_cases c : k ∈ l
      · rw [if_pos c]
        exact ⟨.inl, fun z => z.elim id fun z => by rw [z]; exact c⟩
      · rw [if_neg c, List.mem_cons]
        exact Or.comm
end
end Qv

set_option maxRecDepth 100000
set_option maxHeartbeats 2000000
/-! QT: sorting lists of tuples, the empty one among them. -/
namespace PySem.W
open PySem PySem.Calls PyProof.Rows PySem.SeqAt
section
variable {prog : Program} {w : World} {A : Around} {E : Value → Shared → Prop} {s : Shared}
def FirstsAre (h : Heap) : List Value → List (Option Value) → Prop
  | [], [] => True
  | v :: vs, f :: fs => (∃ a o xs n, v = .ref a ∧ h.get? a = some o ∧ o.cls = .type "tuple" ∧ o.data = .seq xs n ∧ xs[0]? = f) ∧ FirstsAre h vs fs
  | _, _ => False
theorem firsts_any {M : Model} : ∀ (vs : List Value) (fs : List (Option Value)) {Q : List (Option Value) → Shared → Prop}, FirstsAre s.heap vs fs → Q fs s → wpAny M A (vs.mapM firstOfTuple') Q E s
  | [], [], _, _, h => by rw [List.mapM_nil]; exact wpAny_pure h
  | [], _ :: _, _, t, _ => t.elim
  | _ :: _, [], _, t, _ => t.elim
  | v :: vs, f :: fs, Q, t, h => by
    obtain ⟨⟨a, o, xs, n, rfl, ho, hc, hd, hf⟩, t⟩ := t
    rw [List.mapM_cons]
    refine wpAny_bind ?_
    rw [kas_first_eq]
    refine wpAny_bind (Looks.here (show Looks M s.heap (typeOf (.ref a)) o.cls from (Looks.ld ho).andThen .now) ?_)
    rw [hc, if_neg (by first | decide | simp)]
    refine wpAny_bind (listItems_at ho hd (wpAny_pure ?_))
    rw [hf]
    exact wpAny_bind (firsts_any vs fs (Q := fun bs s' => wpAny M A (pure (f :: bs)) Q E s') t (wpAny_pure h))
theorem firsts_of {h : Heap} : ∀ {vs : List Value} {ds : List PyData}, EachIs (fun v d => ∃ as, Reads h v d as) vs ds → (∀ d ∈ ds, ∃ xs, d = .tuple xs) → ∃ fs, FirstsAre h vs fs ∧ fs.length = vs.length ∧ ((∀ f ∈ fs, f.isSome = true) → ∀ d ∈ ds, ∃ x r, d = .tuple (x :: r))
  | _, _, .nil, _ => ⟨[], trivial, rfl, fun _ d hd => absurd hd (by simp)⟩
  | _, _, .cons (b := d) ⟨as, r⟩ t, ht => by
    obtain ⟨fs, h1, h2, h3⟩ := firsts_of t fun d hd => ht d (List.mem_cons_of_mem _ hd)
    obtain ⟨xs0, rfl⟩ := ht d (List.mem_cons_self ..)
    cases r with
    | @tuple a o xs n _ _ ho hc hd hr =>
      refine ⟨xs[0]? :: fs, ⟨⟨a, o, xs, n, rfl, ho, hc, hd, rfl⟩, h1⟩, by rw [List.length_cons, List.length_cons, h2], fun hs d hd' => ?_⟩
      rcases List.mem_cons.mp hd' with e | hm
      · subst e
        have q := hs _ List.mem_cons_self
        cases xs0 with
        | cons x r => exact ⟨x, r, rfl⟩
        | nil =>
          have n1 : xs.toList.length = 0 := by
            have := SeqAt.ReadsAll.length _ _ _ hr
            simpa using this
          have e0 : xs[0]? = none := by
            rw [← Array.getElem?_toList]
            exact List.getElem?_eq_none (by omega)
          rw [e0] at q
          cases q
      · exact h3 (fun f hf => hs f (List.mem_cons_of_mem _ hf)) d hm
theorem call_tuple_ltA {Q : Value → Shared → Prop} {l b : Addr} {items items2 : Array Value} {e r : Nat → Bool} (hl : s.heap.IsTuple l items) (hb : s.heap.IsTuple b items2)
    (he : ∀ j (h1 : j < items.size) (h2 : j < items2.size), EqAt A.in1 s items[j] items2[j] (e j)) (hr : ∀ j (h1 : j < items.size) (h2 : j < items2.size), e j = false → RcLt A.in1 s items[j] items2[j] (r j))
    (h : Q (.bool (firstLt e r (decide (items.size < items2.size)) (List.range (min items.size items2.size)))) s) : wpAny (model prog w) A (call (.builtin "tuple.__lt__") [.ref l, .ref b]) Q E s := by
  obtain ⟨⟨cls, dd, data, sl⟩, ho, hc, n, hd⟩ := id hl
  obtain ⟨⟨cls2, dd2, data2, sl2⟩, ho2, hc2, n2, hd2⟩ := id hb
  simp only at hc hd hc2 hd2
  subst hc hd hc2 hd2
  exact call_meets F.slot_tuple_lt ⟨_, ho, rfl⟩ F.entry_tuple_lt (F.args_tuple_lt_2 _ _) (tuple_ltAt l b items items2 n n2 dd dd2 sl sl2 e r) ⟨ho, ho2, he, hr, h⟩
/-- one tuple against another -/
theorem oneLt_tups {f : Bool} {xs ys : List PyData} {a b : Value} {as bs : List Addr} {Q : Bool → Shared → Prop} (ra : Reads s.heap a (.tuple xs) as) (rb : Reads s.heap b (.tuple ys) bs) (h : alike (.tuple xs) (.tuple ys) = true)
    (hu : A.units + min (PyData.tuple xs).depth (PyData.tuple ys).depth < cLine) (hq : Q (dataLt (.tuple xs) (.tuple ys)) s) : wpAny (model prog w) A (oneLt' f a b) Q E s := by
  cases f with
  | false =>
    rw [oneLt'_eq]
    simp only [Bool.false_eq_true, if_false]
    exact wpAny_bind (rcLt_alike _ _ A s a b as bs ra rb h (fun z => nomatch z) hu prog w E _ (wpAny_truthy_bool hq))
  | true =>
    have hal : alikeAll xs ys = true := by simpa [alike] using h
    cases ra with
    | @tuple l o vs n _ as₁ h1 h2 h3 h4 =>
      cases rb with
      | @tuple l' o' vs' n' _ bs₁ k1 k2 k3 k4 =>
        have n1 : vs.size = xs.length := by simpa using ReadsAll.length _ _ _ h4
        have n2 : vs'.size = ys.length := by simpa using ReadsAll.length _ _ _ k4
        rw [dataLt_tuple, ← firstLt_toks xs ys hal, ← n1, ← n2] at hq
        rw [oneLt'_eq]
        simp only [if_true]
        refine wpAny_bind (wpAny_cRoomFor (room_here hu) ?_)
        refine wpAny_bind (wpAny_callSpecialIfBound?_slot (T := "tuple") ⟨_, h1, h2⟩ F.slot_tuple_lt (call_tuple_ltA (e := pairEq xs ys) (r := fun j => dataLt (xs.getD j .none) (ys.getD j .none)) ⟨_, h1, h2, _, h3⟩ ⟨_, k1, k2, _, k3⟩ (fun j j1 j2 => ?_) (fun j j1 j2 hj => ?_) ?_))
        · have := eqAt_alikeAll xs ys A.in1 s vs.toList vs'.toList _ _ h4 k4 hal (room_in hu) j (by simpa using j1) (by simpa using j2)
          simpa using this
        · have := rcLt_alikeAll xs ys A.in1 s vs.toList vs'.toList _ _ h4 k4 hal (room_in hu) j (by simpa using j1) (by simpa using j2) hj
          simpa using this
        · exact wpAny_truthy_bool hq
theorem looks_firsts {M : Model} {h : Heap} : ∀ {vs : List Value} {fs : List (Option Value)}, FirstsAre h vs fs → ∀ v ∈ vs, Looks M h (typeOf v) (.type "tuple")
  | [], [], _, v, hv => absurd hv (by simp)
  | [], _ :: _, t, _, _ => t.elim
  | _ :: _, [], t, _, _ => t.elim
  | u :: vs, f :: fs, t, v, hv => by
    obtain ⟨⟨a, o, xs, n, e, ho, hc, hd, hf⟩, t⟩ := t
    rcases List.mem_cons.mp hv with z | z
    · rw [z, e]
      show Looks M h (typeOf (Value.ref _)) (Value.type "tuple")
      exact hc ▸ (Looks.ld ho).andThen .now
    · exact looks_firsts t v z
/-- tuples, the empty one among them -/
theorem SortsAt.tups {vs : List Value} {ds : List PyData} (e : EachIs (fun v d => ∃ as, Reads s.heap v d as) vs ds) (hal : AllAlike ds) (ht : ∀ d ∈ ds, ∃ xs, d = .tuple xs) (hu : ∀ d, d ∈ ds → A.units + d.depth < cLine) : SortsAt prog w A s (dataKind s.heap ds) vs := by
  obtain ⟨fs, h1, h2, h3⟩ := firsts_of e ht
  by_cases hall : ∀ f ∈ fs, f.isSome = true
  · exact SortsAt.data e hal (.inl (h3 hall)) hu
  have room : ∀ {d d' : PyData}, d ∈ ds → A.units + min d.depth d'.depth < cLine := fun {d d'} hd => Nat.lt_of_le_of_lt (Nat.add_le_add_left (Nat.min_le_left _ _) _) (hu d hd)
  refine ⟨fun v hv => ?_, ?_⟩
  · obtain ⟨d, hd, as, r⟩ := e.left v hv
    exact ⟨_, dataKind_some hal hd r⟩
  have nall : ¬ (fs.toArray.all fun x => x.isSome) = true := fun q => hall (by
    rw [List.all_toArray, List.all_eq_true] at q
    exact q)
  by_cases hf : (fs.toArray[0]?.bind id).isSome = true
  · refine ⟨general', ?_, fun h2' E Q hq => ?_⟩
    · intro E x y a b Q ha hb hq
      obtain ⟨d, as, hd, ra, rfl⟩ := dataKind_inv ha
      obtain ⟨d', as', hd', rb, rfl⟩ := dataKind_inv hb
      have al := hal d hd d' hd'
      have rm := room (d' := d') hd
      obtain ⟨xs, rfl⟩ := ht d hd
      obtain ⟨ys, rfl⟩ := ht d' hd'
      exact oneLt_tups (f := false) ra rb al rm hq
    · rw [kat_kind_eq, List.mapM_toArray, map_eq_pure_bind]
      refine wpAny_bind (wpAny_bind (firsts_any vs fs h1 (wpAny_pure ?_)))
      rw [if_neg nall, if_pos hf]
      exact wpAny_pure hq
  · refine ⟨oneType', ?_, fun h2' E Q hq => ?_⟩
    · intro E x y a b Q ha hb hq
      obtain ⟨d, as, hd, ra, rfl⟩ := dataKind_inv ha
      obtain ⟨d', as', hd', rb, rfl⟩ := dataKind_inv hb
      have al := hal d hd d' hd'
      have rm := room (d' := d') hd
      obtain ⟨xs, rfl⟩ := ht d hd
      obtain ⟨ys, rfl⟩ := ht d' hd'
      rw [keyLt'_oneType]
      exact oneLt_tups (f := true) ra rb al rm hq
    · rw [kat_kind_eq, List.mapM_toArray, map_eq_pure_bind]
      refine wpAny_bind (wpAny_bind (firsts_any vs fs h1 (wpAny_pure ?_)))
      rw [if_neg nall, if_neg hf]
      rw [oneTypeOnly'_eq, List.mapM_toArray, map_eq_pure_bind]
      refine wpAny_bind (wpAny_bind (wpAny_bind (kas_mapM (r := Value.type "tuple") _ (fun v hv Q' hq => (looks_firsts h1 v hv).here hq) (wpAny_pure ?_))))
      obtain ⟨v₁, rest, rfl⟩ : ∃ v₁ rest, vs = v₁ :: rest := by
        match vs, h2' with
        | v₁ :: rest, _ => exact ⟨v₁, rest, rfl⟩
      have hall : ((List.map (fun _ => Value.type "tuple") (v₁ :: rest)).toArray.all fun x => x == Value.type "tuple") = true := by
        simp only [List.all_toArray, List.all_map, List.all_eq_true]
        intro _ _
        exact beq_self_eq_true _
      have h0 : (List.map (fun _ => Value.type "tuple") (v₁ :: rest)).toArray[0]? = some (Value.type "tuple") := by simp
      rw [h0]
      simp only [hall, if_true]
      exact wpAny_pure (wpAny_pure hq)
end
end PySem.W

set_option maxRecDepth 100000
set_option maxHeartbeats 3200000
/-! QX: data as keys; what a set keeps. -/
namespace Qv
open PySem PySem.Spec PyProof.Rows L2 PySem.W
mutual
def nkOf : PyData → NestedKey
  | .bool b => .num (if b = true then 1 else 0)
  | .int i => .num i
  | .str x => .text x
  | .tuple xs => .tup (nkA xs)
  | _ => .none
def nkA : List PyData → List NestedKey
  | [] => []
  | x :: r => nkOf x :: nkA r
end
theorem hash_tup {xs : List PyData} (h : hashD (.tuple xs) = true) : hashD.hashA xs = true := by
  unfold hashD at h
  exact h
theorem hash_cons {x : PyData} {r : List PyData} (h : hashD.hashA (x :: r) = true) : hashD x = true ∧ hashD.hashA r = true := by
  unfold hashD.hashA at h
  exact ba2 h
section
variable {h : Heap}
mutual
theorem nk_reads : ∀ (d : PyData) (v : Value) (as : List Addr), Reads h v d as → hashD d = true → NestedIs h (nkOf d) v
  | .int i, _, _, r, _ => by cases r; unfold nkOf; exact .int _ _
  | .str x, _, _, r, _ => by cases r; unfold nkOf; exact .text _ _
  | .tuple xs, _, _, r, q => by
    cases r with
    | tuple h1 h2 h3 h4 => unfold nkOf; exact .tup h1 h2 h3 (nk_readsA xs _ _ h4 (hash_tup q))
  | .none, _, _, _, q => by unfold hashD at q; cases q
  | .bool _, _, _, _, q => by unfold hashD at q; cases q
  | .list _, _, _, _, q => by unfold hashD at q; cases q
  | .dict _, _, _, _, q => by unfold hashD at q; cases q
theorem nk_readsA : ∀ (ds : List PyData) (vs : List Value) (as : List Addr), ReadsAll h vs ds as → hashD.hashA ds = true → NestedAll h (nkA ds) vs
  | [], _, _, r, _ => by cases r; unfold nkA; exact .nil
  | d :: ds, _, _, r, q => by
    cases r with
    | cons h1 h2 => unfold nkA; exact .cons (nk_reads d _ _ h1 (hash_cons q).1) (nk_readsA ds _ _ h2 (hash_cons q).2)
end
end
mutual
theorem nk_inj : ∀ (x y : PyData), hashD x = true → hashD y = true → nkOf x = nkOf y → x = y
  | .int i, y, _, q, e => by
    cases y <;> first | (unfold hashD at q; cases q; done) | skip
    all_goals unfold nkOf at e
    all_goals cases e
    rfl
  | .str i, y, _, q, e => by
    cases y <;> first | (unfold hashD at q; cases q; done) | skip
    all_goals unfold nkOf at e
    all_goals cases e
    rfl
  | .tuple xs, y, p, q, e => by
    cases y <;> first | (unfold hashD at q; cases q; done) | skip
    all_goals unfold nkOf at e
    · cases e
    · cases e
    · rename_i ys
      injection e with e
      rw [nk_injA xs ys (hash_tup p) (hash_tup q) e]
  | .none, _, q, _, _ => by unfold hashD at q; cases q
  | .bool _, _, q, _, _ => by unfold hashD at q; cases q
  | .list _, _, q, _, _ => by unfold hashD at q; cases q
  | .dict _, _, q, _, _ => by unfold hashD at q; cases q
theorem nk_injA : ∀ (xs ys : List PyData), hashD.hashA xs = true → hashD.hashA ys = true → nkA xs = nkA ys → xs = ys
  | [], [], _, _, _ => rfl
  | [], _ :: _, _, _, e => by unfold nkA at e; cases e
  | _ :: _, [], _, _, e => by unfold nkA at e; cases e
  | x :: xs, y :: ys, p, q, e => by
    unfold nkA at e
    injection e with e1 e2
    rw [nk_inj x y (hash_cons p).1 (hash_cons q).1 e1, nk_injA xs ys (hash_cons p).2 (hash_cons q).2 e2]
end
mutual
theorem eqv_hash : ∀ (x y : PyData), hashD x = true → hashD y = true → (PyData.eqv x y = true ↔ x = y)
  | .int i, y, _, q => by cases y <;> first | (unfold hashD at q; cases q; done) | simp [PyData.eqv]
  | .str i, y, _, q => by cases y <;> first | (unfold hashD at q; cases q; done) | simp [PyData.eqv]
  | .tuple xs, y, p, q => by
    cases y <;> first | (unfold hashD at q; cases q; done) | skip
    · simp [PyData.eqv]
    · simp [PyData.eqv]
    · rename_i ys
      have := eqv_hashA xs ys (hash_tup p) (hash_tup q)
      simp [PyData.eqv, this]
  | .none, _, q, _ => by unfold hashD at q; cases q
  | .bool _, _, q, _ => by unfold hashD at q; cases q
  | .list _, _, q, _ => by unfold hashD at q; cases q
  | .dict _, _, q, _ => by unfold hashD at q; cases q
theorem eqv_hashA : ∀ (xs ys : List PyData), hashD.hashA xs = true → hashD.hashA ys = true → (PyData.eqvAll xs ys = true ↔ xs = ys)
  | [], [], _, _ => by simp [PyData.eqvAll]
  | [], _ :: _, _, _ => by simp [PyData.eqvAll]
  | _ :: _, [], _, _ => by simp [PyData.eqvAll]
  | x :: xs, y :: ys, p, q => by
    have h1 := eqv_hash x y (hash_cons p).1 (hash_cons q).1
    have h2 := eqv_hashA xs ys (hash_cons p).2 (hash_cons q).2
    simp [PyData.eqvAll, h1, h2]
end
theorem mem_dedup {xs : List PyData} (hh : ∀ x ∈ xs, hashD x = true) : ∀ x, x ∈ dedup xs ↔ x ∈ xs := by
  induction xs with
  | nil => intro x; exact Iff.rfl
  | cons a r ih =>
    have ih := ih fun x hx => hh x (List.mem_cons_of_mem _ hx)
    intro x
    unfold dedup
    split
    · rename_i h
      rw [ih, List.mem_cons]
      obtain ⟨y, hy, e⟩ := List.any_eq_true.mp h
      have hy2 := (ih y).mp hy
      have e := (eqv_hash a y (hh a List.mem_cons_self) (hh y (List.mem_cons_of_mem _ hy2))).mp e
      exact ⟨.inr, fun z => z.elim (fun z => by rw [z, e]; exact hy2) id⟩
    · rw [List.mem_cons, List.mem_cons, ih]
theorem nodup_dedup {xs : List PyData} (hh : ∀ x ∈ xs, hashD x = true) : (dedup xs).Nodup := by
  induction xs with
  | nil => exact List.nodup_nil
  | cons a r ih =>
    have hr : ∀ x ∈ r, hashD x = true := fun x hx => hh x (List.mem_cons_of_mem _ hx)
    unfold dedup
    split
    · exact ih hr
    · rename_i h
      refine List.nodup_cons.mpr ⟨fun hm => h (List.any_eq_true.mpr ⟨a, hm, ?_⟩), ih hr⟩
      have ha := hh a List.mem_cons_self
      exact (eqv_hash a a ha ha).mpr rfl
theorem toks_inj {x y : PyData} (al : alike x y = true) (e : keyToks x = keyToks y) : PyData.eqv x y = true := by
  cases q : PyData.eqv x y with
  | true => rfl
  | false =>
    have h := (toks_eqv x y al).2 q [] [Sum.inl 0]
    rw [← e, lex_pre, lex_irrefl] at h
    cases h
theorem leD_total : TotalLe leD := sortLe_total (listOrd itemOrd) false keyToks
/-- alike data: what is neither less nor greater is the same -/
theorem leD_anti {x y : PyData} (hx : hashD x = true) (hy : hashD y = true) (al : alike x y = true) (h1 : leD x y = true) (h2 : leD y x = true) : x = y := by
  have t1 : (listOrd itemOrd).blt (keyToks y) (keyToks x) = false := (by simpa [leD] using h1 : dataLt y x = false)
  have t2 : (listOrd itemOrd).blt (keyToks x) (keyToks y) = false := (by simpa [leD] using h2 : dataLt x y = false)
  have e := (listOrd itemOrd).total _ _ t2 t1
  exact (eqv_hash x y hx hy).mp (toks_inj al e)
/-- however the set is walked: sorted, it is what dedup gives, sorted -/
theorem sort_set {xs ds : List PyData} (hh : ∀ x ∈ xs, hashD x = true) (al : AllAlike xs) (nd : ds.Nodup) (hm : ∀ x, x ∈ ds ↔ x ∈ xs) : ds.mergeSort leD = (dedup xs).mergeSort leD := by
  have p : ds.Perm (dedup xs) := (List.perm_ext_iff_of_nodup nd (nodup_dedup hh)).mpr fun x => (hm x).trans (mem_dedup hh x).symm
  have p2 : (ds.mergeSort leD).Perm ((dedup xs).mergeSort leD) := (List.mergeSort_perm _ _).trans (p.trans (List.mergeSort_perm _ _).symm)
  have tr := leD_total.trans
  have to : ∀ a b : PyData, (leD a b || leD b a) = true := fun a b => Bool.or_eq_true_iff.mpr (leD_total.total a b)
  have mem : ∀ x, x ∈ ds.mergeSort leD → x ∈ xs := fun x hx => (hm x).mp ((List.mergeSort_perm _ _).mem_iff.mp hx)
  have mem2 : ∀ x, x ∈ (dedup xs).mergeSort leD → x ∈ xs := fun x hx => (mem_dedup hh x).mp ((List.mergeSort_perm _ _).mem_iff.mp hx)
  refine List.Perm.eq_of_pairwise (le := fun a b => leD a b = true) (fun a b ha hb h1 h2 => ?_) (List.pairwise_mergeSort tr to _) (List.pairwise_mergeSort tr to _) p2
  exact leD_anti (hh a (mem a ha)) (hh b (mem2 b hb)) (al a (mem a ha) b (mem2 b hb)) h1 h2
mutual
theorem nk_depth : ∀ d : PyData, hashD d = true → (nkOf d).depth = d.depth
  | .int i, _ => by unfold nkOf; rfl
  | .str x, _ => by unfold nkOf; rfl
  | .tuple xs, q => by
    unfold nkOf
    rw [NestedKey.depth, PyData.depth, nk_depthA xs (hash_tup q)]
  | .none, q => by unfold hashD at q; cases q
  | .bool _, q => by unfold hashD at q; cases q
  | .list _, q => by unfold hashD at q; cases q
  | .dict _, q => by unfold hashD at q; cases q
theorem nk_depthA : ∀ ds : List PyData, hashD.hashA ds = true → NestedKey.depthAll (nkA ds) = PyData.depthAll ds
  | [], _ => by unfold nkA; rfl
  | d :: ds, q => by
    unfold nkA
    rw [NestedKey.depthAll, PyData.depthAll, nk_depth d (hash_cons q).1, nk_depthA ds (hash_cons q).2]
end
end Qv

set_option maxRecDepth 100000
set_option maxHeartbeats 3200000
/-! QY: sorted(set). -/
namespace Qv
open PySem PySem.Spec PyProof.Rows L2 PySem.W
def SetAtV (w : World) (h : Heap) (a : Addr) (us : List Value) : Prop := ∃ es ep t o, h.get? a = some o ∧ o.ExactSet ∧ o.data = .set es ep t ∧ t.fits es.size = true ∧ es.size < scanBound ∧ Ris t.place.toList ∧ (w.params.followText "set-order" = true ∨ t.led = true) ∧ es.toList.map (·.2) = us
theorem each_perm {R : Value → PyData → Prop} {us vs : List Value} (p : us.Perm vs) : ∀ {ds : List PyData}, EachIs R us ds → ∃ ds' : List PyData, ds'.Perm ds ∧ EachIs R vs ds' := by
  induction p with
  | nil => intro ds e; exact ⟨ds, .refl _, e⟩
  | cons x p ih =>
    intro ds e
    cases e with
    | cons h t =>
      obtain ⟨ds', p', e'⟩ := ih t
      exact ⟨_ :: ds', p'.cons _, .cons h e'⟩
  | swap x y l =>
    intro ds e
    cases e with
    | cons h t =>
      cases t with
      | cons h2 t2 => exact ⟨_ :: _ :: _, List.Perm.swap .., .cons h2 (.cons h t2)⟩
  | trans p1 p2 ih1 ih2 =>
    intro ds e
    obtain ⟨d1, q1, e1⟩ := ih1 e
    obtain ⟨d2, q2, e2⟩ := ih2 e1
    exact ⟨d2, q2.trans q1, e2⟩
section
variable {P : Program} {w : World} {A : Around} {E : Value → Shared → Prop} {s : Shared}
theorem sorted_setV {a : Addr} {us : List Value} {ds : List PyData} {R : Value → PyData → Prop} {Q : Value → Shared → Prop} (S : SetAtV w s.heap a us) (hh : A.handled = none) (e : EachIs (fun v d => R v d ∧ ∃ as, Reads s.heap v d as) us ds)
    (hal : AllAlike ds) (hk : (∀ d ∈ ds, ∃ xs, d = .tuple xs) ∨ ∀ d ∈ ds, d ≠ .none ∧ ∀ xs, d ≠ .tuple xs) (hu : ∀ d ∈ ds, A.units + 8 + d.depth < cLine)
    (hQ : ∀ s' p (out : Array Value) (c : Nat) (ds' : List PyData), (∀ b o, s.heap.get? b = some o → s'.heap.get? b = some o) → s'.gens = s.gens → s'.os = s.os → s.heap.objs.size ≤ p →
      s'.heap.get? p = some (seqObj "list" out c) → ds'.Perm ds → EachIs R out.toList (ds'.mergeSort leD) → Q (.ref p) s') :
    wpAny (model P w) A (call (.builtin "sorted") [.ref a]) Q E s := by
  obtain ⟨es, ep, t, o0, ho0, hex0, hd0, hf, hb, hr, hl, hus⟩ := S
  have hat : SetAt s.heap a es ep t := ⟨o0, ho0, hex0.1, hd0⟩
  refine Calls.call_function_entry kind_sorted plain_sorted entry_sorted (args_sorted1 _) ?_
  unfold Builtin.«sorted»
  refine wpAny_bind (m := checkCount "sorted" 1 1 _) (wpAny_pure ?_)
  refine wpAny_bind (collect_set (A := A.in1) hh hat hf hb hr hl fun s1 vs k1 hz g1 o1 pm => ?_)
  rw [hus] at pm
  obtain ⟨ds', pd, e'⟩ := each_perm pm.symm e
  have hal' : AllAlike ds' := fun x hx y hy => hal x (pd.mem_iff.mp hx) y (pd.mem_iff.mp hy)
  have hvl : vs.length ≤ sizeLine := by
    rw [pm.length_eq, ← hus, List.length_map, Array.length_toList]
    exact fits_of_scanBound hb
  refine wpAny_bind (wpAny_newList ?_ hvl)
  have hoL : (s1.heap.push (seqObj "list" vs.toArray 0)).get? s1.heap.objs.size = some (seqObj "list" vs.toArray 0) := Heap.get?_push_size _ rfl
  have er : EachIs (fun v d => ∃ as, Reads (sortingHeap (s1.heap.push (seqObj "list" vs.toArray 0)) s1.heap.objs.size vs) v d as) vs ds' := e'.mono fun v d ⟨_, as, r⟩ => ⟨as, PyProof.Rows.Reads.keeps (fun b o q => sortingHeap_old (Nat.ne_of_lt (Heap.lt_size (k1 b o q))) (Heap.get?_push_of_some _ (k1 b o q))) r⟩
  have eR : EachIs R vs ds' := e'.mono fun v d q => q.1
  have hS : SortsAt P w A.in1.in1 { s1 with heap := sortingHeap (s1.heap.push (seqObj "list" vs.toArray 0)) s1.heap.objs.size vs } (dataKind (sortingHeap (s1.heap.push (seqObj "list" vs.toArray 0)) s1.heap.objs.size vs) ds') vs := by
    have hu' : ∀ d, d ∈ ds' → A.in1.in1.units + d.depth < cLine := fun d hd => by
      have := hu d (pd.mem_iff.mp hd)
      show A.units + 2 + d.depth < cLine
      omega
    rcases hk with hk | hk
    · exact SortsAt.tups (s := { s1 with heap := sortingHeap (s1.heap.push (seqObj "list" vs.toArray 0)) s1.heap.objs.size vs }) er hal' (fun d hd => hk d (pd.mem_iff.mp hd)) hu'
    · exact SortsAt.data (s := { s1 with heap := sortingHeap (s1.heap.push (seqObj "list" vs.toArray 0)) s1.heap.objs.size vs }) er hal' (.inr fun d hd => hk d (pd.mem_iff.mp hd)) hu'
  refine wpAny_bind (wpAny_holding (wpAny_call_entry slot_list_sort ⟨_, hoL, rfl⟩ entry_list_sort (list_sort_vals (s := { s1 with heap := s1.heap.push (seqObj "list" vs.toArray 0) }) hoL hS hvl ⟨_, rfl, ?_⟩) (args_list_sort _)))
  have fin : EachIs R (sortVals (dataKind (sortingHeap (s1.heap.push (seqObj "list" vs.toArray 0)) s1.heap.objs.size vs) ds') false vs vs) (ds'.mergeSort leD) := by
    have q := sortVals_data (h' := sortingHeap (s1.heap.push (seqObj "list" vs.toArray 0)) s1.heap.objs.size vs) (R := R) (enc := id) (bs := ds') false eR er (by rw [List.map_id]; exact hal')
    rw [List.map_id] at q
    exact q
  obtain ⟨c, hc⟩ := sortedHeap_at (vs := vs) (out := (sortVals (dataKind (sortingHeap (s1.heap.push (seqObj "list" vs.toArray 0)) s1.heap.objs.size vs) ds') false vs vs).toArray) hoL
  refine wpAny_pure ⟨_, rfl, hQ _ s1.heap.objs.size _ c ds' (fun b u q => ?_) g1 o1 hz hc pd (by simpa using fin)⟩
  have q' := k1 b u q
  have hlt := Heap.lt_size q'
  show (sortedHeap (s1.heap.push (seqObj "list" vs.toArray 0)) s1.heap.objs.size vs _).get? b = some u
  rw [sortedHeap_old (Nat.ne_of_lt hlt) (by rw [size_push']; exact Nat.lt_succ_of_lt hlt)]
  exact Heap.get?_push_of_some _ q'
end
end Qv

set_option maxRecDepth 100000
set_option maxHeartbeats 3200000
/-! QZ: set(..), sorted(set(..)), len(set(..)) as calls. -/
namespace Qv
open PySem PySem.Spec PyProof.Rows L2 PySem.W
def SetHO (w : World) (a : Addr) (us : List Value) : HO := .ext fun h => SetAtV w h a us
theorem setHO_new {P : Program} {w : World} {H : Hp} {h : Heap} {a : Addr} {us : List Value} (R : SetAtV w h a us) : ObjOk P w H h a (SetHO w a us) := by
  obtain ⟨es, ep, t, o, ho, q⟩ := id R
  refine ⟨R, ⟨o, ho⟩, fun h1 h2 p k => ?_⟩
  obtain ⟨es', ep', t', o', ho', q'⟩ := (show SetAtV w h1 a us from p)
  exact ⟨es', ep', t', o', k o' ho', q'⟩
theorem nodup_len : ∀ (l1 l2 : List PyData), l1.Nodup → (∀ x ∈ l1, x ∈ l2) → l1.length ≤ l2.length
  | [], _, _, _ => Nat.zero_le _
  | x :: r, l2, nd, h => by
    obtain ⟨s, t, rfl⟩ := List.append_of_mem (h x List.mem_cons_self)
    obtain ⟨n1, n2⟩ := List.nodup_cons.mp nd
    have := nodup_len r (s ++ t) n2 fun y hy => by
      have q := h y (List.mem_cons_of_mem _ hy)
      rcases List.mem_append.mp q with q | q
      · exact List.mem_append_left _ q
      · rcases List.mem_cons.mp q with q | q
        · exact absurd (q ▸ hy) n1
        · exact List.mem_append_right _ q
    simp only [List.length_cons, List.length_append] at this ⊢
    omega
theorem nodup_map_of {α β : Type} {f : α → β} {l : List α} (h : (l.map f).Nodup) : l.Nodup := List.Pairwise.of_map f (fun _ _ hne e => hne (congrArg f e)) h
section
variable {X : Cx} {F : Addr → Prop} {H : Hp} {pins : List (Addr × Obj)} {σ : L2.St} {s : Shared}
structure Hs (d : PyData) : Prop where
  shp : shp d = true
  hash : hashD d = true
  dep : d.depth ≤ 8
theorem tup_keys (I : Inv X pins σ H s) : ∀ {xs : List V} {its : List Value} {ds : List PyData}, Vals xs its → RpA X.K F H xs ds → (∀ d ∈ ds, Hs d ∧ isTupD d = true) →
    ∃ ks : List (Addr × NK), its = ks.map (fun p => Value.ref p.1) ∧ (∀ p ∈ ks, IsU s.heap p.2 p.1 ∧ ∃ d ∈ ds, Rp X.K F H (.ref p.1) d ∧ nkOf d = .tup p.2) ∧ ds.map nkOf = ks.map (fun p => NestedKey.tup p.2)
  | [], _, _, rv, r, _ => by
    cases rv
    cases r
    exact ⟨[], rfl, fun p hp => (by cases hp), rfl⟩
  | x :: xs, _, _, rv, r, hd => by
    cases rv with
    | cons rv1 rv2 =>
      cases r with
      | @cons _ _ d ds r1 r2 =>
        obtain ⟨ks, e1, e2, e3⟩ := tup_keys I rv2 r2 fun d h => hd d (List.mem_cons_of_mem _ h)
        obtain ⟨hs, ht⟩ := hd _ List.mem_cons_self
        cases d <;> first | (cases ht; done) | skip
        rename_i ys
        obtain ⟨as, rd⟩ := reads_vw I rv1 hs.shp (.inl r1)
        obtain ⟨a, zs, rfl, _, _⟩ := Vw.tup (.inl r1)
        cases rv1
        have nk := nk_reads _ _ _ rd hs.hash
        have dp := nk_depth _ hs.hash
        have hdp := hs.dep
        have en : nkOf (.tuple ys) = .tup (nkA ys) := by unfold nkOf; rfl
        rw [en] at nk dp
        refine ⟨(a, nkA ys) :: ks, by rw [List.map_cons, e1], fun p hp => ?_, by rw [List.map_cons, List.map_cons, e3, en]⟩
        rcases List.mem_cons.mp hp with e | hp
        · subst e
          exact ⟨⟨nk, by rw [dp]; exact hdp⟩, _, List.mem_cons_self, r1, en⟩
        · obtain ⟨h1, d, h2, h3⟩ := e2 p hp
          exact ⟨h1, d, List.mem_cons_of_mem _ h2, h3⟩
theorem tup_back {ds : List PyData} : ∀ L : List (Addr × NK), (∀ p ∈ L, ∃ d ∈ ds, Rp X.K F H (.ref p.1) d ∧ nkOf d = .tup p.2) →
    ∃ ds', RpA X.K F H (L.map fun p => V.ref p.1) ds' ∧ ds'.map nkOf = L.map (fun p => NestedKey.tup p.2) ∧ ∀ d ∈ ds', d ∈ ds
  | [], _ => ⟨[], .nil, rfl, fun d h => (by cases h)⟩
  | p :: L, h => by
    obtain ⟨d, h1, h2, h3⟩ := h p List.mem_cons_self
    obtain ⟨ds', q1, q2, q3⟩ := tup_back L fun p hp => h p (List.mem_cons_of_mem _ hp)
    exact ⟨d :: ds', .cons h2 q1, by rw [List.map_cons, List.map_cons, q2, h3], fun e he => (List.mem_cons.mp he).elim (fun z => by rw [z]; exact h1) (q3 e)⟩
theorem tupk_nodup {L : List (Addr × NK)} (h : (L.map (·.2)).Nodup) : (L.map fun p => NestedKey.tup p.2).Nodup := by
  have e : (L.map fun p => NestedKey.tup p.2) = (L.map (·.2)).map NestedKey.tup := by rw [List.map_map] <;> rfl
  rw [e]
  exact List.pairwise_map.mpr (h.imp fun hne e => hne (NestedKey.tup.inj e))
theorem str_keys : ∀ {xs : List V} {its : List Value} {ds : List PyData}, Vals xs its → RpA X.K F H xs ds → (∀ d ∈ ds, isStrD d = true) → ∃ ks : List Str, Pr (fun v k => ∃ t, v = Value.str k t) its ks ∧ ds = ks.map PyData.str
  | [], _, _, rv, r, _ => by
    cases rv
    cases r
    exact ⟨[], .nil, rfl⟩
  | x :: xs, _, _, rv, r, hd => by
    cases rv with
    | cons rv1 rv2 =>
      cases r with
      | @cons _ _ d ds r1 r2 =>
        obtain ⟨ks, e1, e2⟩ := str_keys rv2 r2 fun d h => hd d (List.mem_cons_of_mem _ h)
        have ht := hd _ List.mem_cons_self
        cases d <;> first | (cases ht; done) | skip
        rename_i y
        cases r1
        obtain ⟨t, rfl⟩ := rv1
        exact ⟨y :: ks, .cons ⟨t, rfl⟩ e1, by rw [e2] <;> rfl⟩
theorem strs_rp : ∀ l : List Str, RpA X.K F H (l.map V.str) (l.map PyData.str)
  | [] => .nil
  | x :: l => .cons (.str x) (strs_rp l)
theorem strs_vals {w : World} : ∀ {l : List (Int × Value)}, (∀ e ∈ l, GoodX w e) → Vals ((l.map txOf).map V.str) (l.map (·.2))
  | [], _ => .nil
  | e :: l, h => by
    obtain ⟨k, t, e1, e2⟩ := h e List.mem_cons_self
    have h0 : L2.RelV (V.str (txOf e)) e.2 := by
      unfold txOf
      rw [e1]
      exact ⟨t, rfl⟩
    exact .cons h0 (strs_vals fun e he => h e (List.mem_cons_of_mem _ he))
theorem refs_vals : ∀ L : List (Addr × NK), Vals (L.map fun p => V.ref p.1) (L.map fun p => Value.ref p.1)
  | [] => .nil
  | p :: L => .cons (show L2.RelV (V.ref p.1) (Value.ref p.1) from rfl) (refs_vals L)
def rSet (K : PySem.W.Frag) (w : World) : List V → Hp → VK → Prop := fun vs H Q => ∃ F x d ds, vs = [x] ∧ Vw K F H x d ∧ (d = .list ds ∨ d = .tuple ds) ∧ setOk ds = true ∧
  ∀ a us vxs ds', H a = none → us.length ≤ ds.length → Vals vxs us → RpA K F H vxs ds' → ds'.Nodup → (∀ x, x ∈ ds' ↔ x ∈ ds) → Q (.ref a) (upd H a (SetHO w a us))
theorem ok_hs {ds : List PyData} (h : setOk ds = true) : alikeL ds = true ∧ (∀ d ∈ ds, Hs d) ∧ ((∀ d ∈ ds, isStrD d = true) ∨ ((∀ d ∈ ds, isTupD d = true) ∧ (dedup ds).length < 64)) ∧ ds.length ≤ 4000 := by
  unfold setOk at h
  obtain ⟨h, h6⟩ := ba2 h
  obtain ⟨h, h5⟩ := ba2 h
  obtain ⟨h, h4⟩ := ba2 h
  obtain ⟨h, h3⟩ := ba2 h
  obtain ⟨h1, h2⟩ := ba2 h
  refine ⟨h1, fun d hd => ⟨List.all_eq_true.mp h2 d hd, List.all_eq_true.mp h3 d hd, of_decide_eq_true (List.all_eq_true.mp h4 d hd)⟩, ?_, of_decide_eq_true h6⟩
  rcases Bool.or_eq_true_iff.mp h5 with h5 | h5
  · exact .inl fun d hd => List.all_eq_true.mp h5 d hd
  · obtain ⟨h5, h7⟩ := ba2 h5
    exact .inr ⟨fun d hd => List.all_eq_true.mp h5 d hd, of_decide_eq_true h7⟩
theorem set_common {G : Prop} {Q : VK} {xs : List V} {its : List Value} {ds : List PyData} (hu : roomC X) (I : Inv X pins σ H s) (rv : Vals xs its) (r : RpA X.K F H xs ds) (hok : setOk ds = true)
    (q : ∀ a us vxs ds', H a = none → us.length ≤ ds.length → Vals vxs us → RpA X.K F H vxs ds' → ds'.Nodup → (∀ x, x ∈ ds' ↔ x ∈ ds) → Q (.ref a) (upd H a (SetHO X.w a us)))
    (go : ∀ Iv : Nat → Heap → Prop, Fill X.prog X.w X.A.in1.in1.in1 s.heap.objs.size s.heap its.toArray.size (fun i v => its.toArray[i]? = some v) Iv →
      (∀ h', h'.get? s.heap.objs.size = some { cls := .type "set", dict := none, data := .set #[] 0 (.fresh 0 0 (!X.w.params.followText "set-order")) } → (∀ b o, s.heap.get? b = some o → h'.get? b = some o) → Iv 0 h') →
      (∀ (h' : Heap) (tk : Nat), Iv its.toArray.size h' → (∀ b o, s.heap.get? b = some o → h'.get? b = some o) → EP X pins σ Q (.ref s.heap.objs.size) { s with heap := h', toks := tk }) → G) : G := by
  obtain ⟨hal, hhs, hkind, hlen⟩ := ok_hs hok
  have hn : H s.heap.objs.size = none := I.hok.fresh (Nat.le_refl _)
  have hl : its.length = ds.length := by rw [← rv.length, r.len]
  unfold roomC at hu
  rcases hkind with hk | ⟨hk, h64⟩
  · obtain ⟨ks, e1, e2⟩ := str_keys rv r hk
    have hkl : ks.length = its.length := e1.len.symm
    refine go _ (fill_strs (P := X.prog) (w := X.w) (A := X.A.in1.in1.in1) (S := s.heap.objs.size) (h0 := s.heap) (items := its.toArray) ks (by simpa using e1) (by show ks.length + 1 < 4096; omega)) (fun h' ho hk' => ⟨[], setX_fresh ho, Nat.le_refl _, fun k => by simp⟩) fun h' tk ⟨l, hS, hll, hm⟩ k => ?_
    obtain ⟨o, es, ep, t, ho, hex, hd, g, pl, nd, hb, hf, hr, hl'⟩ := hS
    have hsl : es.size = l.length := by
      have := pl.length_eq
      rw [List.length_map, Array.length_toList] at this
      exact this
    refine ⟨.ref s.heap.objs.size, upd H s.heap.objs.size (SetHO X.w s.heap.objs.size (es.toList.map (·.2))), I.laid (t' := tk) k (Nat.le_refl _) (setHO_new ⟨es, ep, t, o, ho, hex, hd, hf, hb, hr, hl', rfl⟩), rfl,
      q _ _ _ ((es.toList.map txOf).map PyData.str) hn ?_ (strs_vals g) (strs_rp _) ?_ fun x => ?_⟩
    · rw [List.length_map, Array.length_toList, hsl]
      have : its.toArray.size = its.length := by simp
      omega
    · exact List.pairwise_map.mpr ((pl.nodup_iff.mpr nd).imp fun hne e => hne (PyData.str.inj e))
    · have hm' : ∀ k, k ∈ l ↔ k ∈ ks := fun k => by
        have := hm k
        rw [List.take_of_length_le (by simp [hkl])] at this
        exact this
      rw [e2, List.mem_map, List.mem_map]
      constructor
      · rintro ⟨k, hk1, rfl⟩
        exact ⟨k, (hm' k).mp (pl.mem_iff.mp hk1), rfl⟩
      · rintro ⟨k, hk1, rfl⟩
        exact ⟨k, pl.mem_iff.mpr ((hm' k).mpr hk1), rfl⟩
  · obtain ⟨ks, e1, e2, e3⟩ := tup_keys I rv r fun d hd => ⟨hhs d hd, hk d hd⟩
    have hh : ∀ x ∈ ds, hashD x = true := fun x hx => (hhs x hx).hash
    have back : ∀ L : List (Addr × NK), (L.map (·.2)).Nodup → (∀ p ∈ L, p ∈ ks) → ∃ ds', RpA X.K F H (L.map fun p => V.ref p.1) ds' ∧ ds'.map nkOf = L.map (fun p => NestedKey.tup p.2) ∧ (∀ d ∈ ds', d ∈ ds) ∧ ds'.Nodup := fun L nd sub => by
      obtain ⟨ds', q1, q2, q3⟩ := tup_back (X := X) (F := F) (H := H) L fun p hp => (e2 p (sub p hp)).2
      refine ⟨ds', q1, q2, q3, nodup_map_of (f := nkOf) ?_⟩
      rw [q2]
      exact tupk_nodup nd
    have hkl : ks.length = its.length := by rw [e1, List.length_map]
    refine go _ (fill_tups (P := X.prog) (w := X.w) (A := X.A.in1.in1.in1) (S := s.heap.objs.size) (h0 := s.heap) (items := its.toArray) ks (by simpa using e1) (fun p hp => (e2 p hp).1) (fun L2 nd sub => ?_) (by show X.A.units + 3 + 8 < cLine; omega)) (fun h' ho hk' => ⟨[], #[], 0, _, setTR_fresh ho, Got.zero ks⟩) fun h' tk ⟨L, es, ep, t, hS, g⟩ k => ?_
    · obtain ⟨ds', q1, q2, q3, q4⟩ := back L2 nd sub
      have a1 := nodup_len ds' (dedup ds) q4 fun x hx => (mem_dedup hh x).mpr (q3 x hx)
      have a2 := congrArg List.length q2
      rw [List.length_map, List.length_map] at a2
      omega
    · have htk : ks.take its.toArray.size = ks := List.take_of_length_le (by simp [hkl])
      have sub : ∀ p ∈ L, p ∈ ks := fun p hp => List.mem_of_mem_take (g.sub p hp)
      obtain ⟨ds', q1, q2, q3, q4⟩ := back L hS.nd sub
      have a2 := congrArg List.length q2
      rw [List.length_map, List.length_map] at a2
      have a3 := nodup_len ds' ds q4 q3
      obtain ⟨o, ho, hex, hd⟩ := hS.ob
      refine ⟨.ref s.heap.objs.size, upd H s.heap.objs.size (SetHO X.w s.heap.objs.size (L.map fun p => Value.ref p.1)), I.laid (t' := tk) k (Nat.le_refl _) (setHO_new ⟨es, ep, t, o, ho, hex, hd, SetTR.fits (s := { s with heap := h' }) hS, ?_, hS.tab.ris, hS.led, ?_⟩), rfl,
        q _ _ _ ds' hn ?_ (refs_vals L) q1 q4 fun x => ⟨q3 x, fun hx => ?_⟩⟩
      · rw [SetTR.size (s := { s with heap := h' }) hS]
        have := hS.few
        show L.length < 4096
        omega
      · rw [hS.rows]
        unfold rowsOf
        rw [List.map_map] <;> rfl
      · rw [List.length_map, ← a2]; exact a3
      · have hx2 : nkOf x ∈ ks.map (fun p => NestedKey.tup p.2) := by rw [← e3]; exact List.mem_map.mpr ⟨x, hx, rfl⟩
        obtain ⟨p, hp, e⟩ := List.mem_map.mp hx2
        have hp2 := g.all p (by rw [htk]; exact hp)
        obtain ⟨p', hp', e'⟩ := List.mem_map.mp hp2
        have : nkOf x ∈ ds'.map nkOf := by
          rw [q2]
          exact List.mem_map.mpr ⟨p', hp', by rw [← e, ← e'] <;> rfl⟩
        obtain ⟨y, hy, e⟩ := List.mem_map.mp this
        rw [← nk_inj y x (hh y (q3 y hy)) (hh x hx) e]
        exact hy
theorem cr_set (hc : X.calm = true) (hu : roomC X) : CallR X (.type "set") (rSet X.K X.w) := by
  intro pins s σ H vs us Q I r h
  obtain ⟨F, x, d, ds, rfl, hd, hdd, hok, q⟩ := h
  obtain ⟨u, rfl, rx⟩ := vals1 r
  rcases hdd with rfl | rfl
  · obtain ⟨a, xs, rfl, h1, h2⟩ := hd.lst
    cases rx
    obtain ⟨its, rv, pl, hz⟩ := I.list h1
    exact set_common hu I rv h2 hok q fun Iv F0 i0 fin => Qv.call_set_list (I.ok.hd hc) pl.isList F0 i0 fin
  · obtain ⟨a, xs, rfl, h1, h2⟩ := hd.tup
    cases rx
    obtain ⟨its, rv, pl, hz⟩ := I.tuple h1.sqT
    exact set_common hu I rv h2 hok q fun Iv F0 i0 fin => Qv.call_set_tuple (I.ok.hd hc) pl F0 i0 fin
end
end Qv

set_option maxRecDepth 100000
set_option maxHeartbeats 3200000
/-! QZb: sorted(set(..)). -/
namespace Qv
open PySem PySem.Spec PyProof.Rows L2 PySem.W
section
variable {X : Cx} {F : Addr → Prop} {H : Hp} {pins : List (Addr × Obj)} {σ : L2.St} {s : Shared}
theorem each_of (I : Inv X pins σ H s) : ∀ {vxs : List V} {us : List Value} {ds : List PyData}, Vals vxs us → RpA X.K F H vxs ds → (∀ d ∈ ds, Hs d) →
    EachIs (fun v d => (∃ x, RelV x v ∧ Rp X.K F H x d) ∧ ∃ as, Reads s.heap v d as) us ds
  | [], _, _, rv, r, _ => by
    cases rv
    cases r
    exact .nil
  | x :: xs, _, _, rv, r, hd => by
    cases rv with
    | cons rv1 rv2 =>
      cases r with
      | cons r1 r2 => exact .cons ⟨⟨x, rv1, r1⟩, reads_vw I rv1 (hd _ List.mem_cons_self).shp (.inl r1)⟩ (each_of I rv2 r2 fun d h => hd d (List.mem_cons_of_mem _ h))
theorem each_back : ∀ {us : List Value} {ds : List PyData}, EachIs (fun v d => ∃ x, RelV x v ∧ Rp X.K F H x d) us ds → ∃ vxs, Vals vxs us ∧ RpA X.K F H vxs ds
  | _, _, .nil => ⟨[], .nil, .nil⟩
  | _, _, .cons ⟨x, h1, h2⟩ t => by
    obtain ⟨vxs, q1, q2⟩ := each_back t
    exact ⟨x :: vxs, .cons h1 q1, .cons h2 q2⟩
def rSortS (K : PySem.W.Frag) (w : World) : List V → Hp → VK → Prop := fun vs H Q => ∃ F a us vxs ds, vs = [V.ref a] ∧ H a = some (SetHO w a us) ∧ Vals vxs us ∧ RpA K F H vxs ds ∧ AllAlike ds ∧ (∀ d ∈ ds, Hs d) ∧
  ((∀ d ∈ ds, ∃ xs, d = .tuple xs) ∨ ∀ d ∈ ds, d ≠ .none ∧ ∀ xs, d ≠ .tuple xs) ∧ ds.length ≤ 4000 ∧ ∀ (p : Addr) (vxs' : List V) (ds' : List PyData), ds'.Perm ds → H p = none → RpA K F H vxs' (ds'.mergeSort leD) → Q (.ref p) (upd H p (.lst vxs'))
theorem cr_sortS (hc : X.calm = true) (hu : roomC X) : CallR X (.builtin "sorted") (rSortS X.K X.w) := by
  intro pins s σ H vs us0 Q I r h
  obtain ⟨F, a, us, vxs, ds, rfl, ha, rv, rp, hal, hhs, hk, hlen, q⟩ := h
  have S : SetAtV X.w s.heap a us := (I.hok a _ ha).1
  rw [Vals.ref1 r]
  unfold roomC at hu
  refine sorted_setV S (I.ok.hd hc) (each_of I rv rp hhs) hal hk (fun d hd => by
    have := (hhs d hd).dep
    omega) fun s' p out c ds' k g o hp hg pm e => ?_
  obtain ⟨vxs', rv', rp'⟩ := each_back e
  have hn : H p = none := I.hok.fresh hp
  have hl : vxs'.length ≤ sizeLine := by
    rw [rp'.len, List.length_mergeSort, pm.length_eq, sizeLine_eq]
    omega
  have J : Inv X pins σ (upd H p (.lst vxs')) { s with heap := s'.heap, gens := s'.gens, drawn := s'.drawn, toks := s'.toks } :=
    I.call (ch := []) (Un.laid k hp hn) (I.hok.laid k hp ⟨hl, out.toList, c, rv', hg⟩) (by rw [g]; exact I.bare) (fun _ z => nomatch z)
  have e2 : s' = { s with heap := s'.heap, gens := s'.gens, drawn := s'.drawn, toks := s'.toks } := by
    cases s'
    cases s
    cases o
    rfl
  rw [e2]
  exact ⟨.ref p, _, J, rfl, q p vxs' ds' pm hn rp'⟩
end
section
variable {X : Cx} {W : WX} {a : Expr} {fa : Evn → Rs (Opd × Evn)} {p1 p2 pos pos2 : Pos}
theorem sset_run {x : V} {H : Hp} {Q : VK} (h : r1 X.K mkV ssetD x H Q) : rSet X.K X.w [x] H fun y H2 => rSortS X.K X.w [y] H2 Q := by
  obtain ⟨F, d, z, hd, hz, q⟩ := h
  have : ∃ ds, (d = .list ds ∨ d = .tuple ds) ∧ setOk ds = true ∧ z = .list ((dedup ds).mergeSort leD) := by
    cases d <;> try (exact (not_stk hz).elim)
    · obtain ⟨g1, rfl⟩ := grd_ok hz
      exact ⟨_, .inl rfl, g1, rfl⟩
    · obtain ⟨g1, rfl⟩ := grd_ok hz
      exact ⟨_, .inr rfl, g1, rfl⟩
  obtain ⟨ds, hdd, hok, rfl⟩ := this
  obtain ⟨hal, hhs, hkind, hlen⟩ := ok_hs hok
  have hal' : AllAlike ds := fun x hx y hy => List.all_eq_true.mp (List.all_eq_true.mp hal x hx) y hy
  refine ⟨F, x, d, ds, rfl, hd, hdd, hok, fun a us vxs ds' ha hul rv rp nd hm => ?_⟩
  have k1 := Same.kp (F := F) (same_new (o := SetHO X.w a us) ha)
  refine ⟨F, a, us, vxs, ds', rfl, upd_same, rv, rp.keep k1 _ _, fun x hx y hy => hal' x ((hm x).mp hx) y ((hm y).mp hy), fun d hd => hhs d ((hm d).mp hd), ?_, ?_, fun p vxs' ds'' pm hp rp' => ?_⟩
  · rcases hkind with hk | ⟨hk, _⟩
    · refine .inr fun d hd => ?_
      have := hk d ((hm d).mp hd)
      cases d <;> first | (cases this; done) | exact ⟨nofun, nofun⟩
    · refine .inl fun d hd => ?_
      have := hk d ((hm d).mp hd)
      cases d <;> first | (cases this; done) | exact ⟨_, rfl⟩
  · have := nodup_len ds' ds nd fun x hx => (hm x).mp hx
    omega
  · have hne : p ≠ a := fun e => by
      rw [e, upd_same] at hp
      cases hp
    have hp0 : H p = none := by
      rw [upd_ne hne] at hp
      exact hp
    have e : ds''.mergeSort leD = (dedup ds).mergeSort leD := sort_set (fun x hx => (hhs x hx).hash) hal' (pm.nodup_iff.mpr nd) fun x => pm.mem_iff.trans (hm x)
    rw [e] at rp'
    refine q _ _ ⟨fun b o hb => same_new hp b o (same_new ha b o hb), p, rfl, hp0, .lst upd_same (rp'.keep (Same.kp (same_new hp)) _ _)⟩
theorem s_sset (hc : X.calm = true) (hu : roomC X) (hg : Gl X "sorted") (hm : X.mg "sorted" = none) (hg2 : Gl X "set") (hm2 : X.mg "set" = none)
    (hs : starEach [a] X.env = [(false, eval a X.env)]) (ha : PE X a (tO X.K W fa)) :
    PE X (.Call (.Name "sorted" p1) [.Call (.Name "set" p2) [a] [] pos2] [] pos) (tE X.K W fun env => fa env >>= fun p => fin1 mkV ssetD p.1 p.2) := by
  refine peOf (pe_callB (cr_sortS hc hu) hg hm (by rfl) (pa_cons (pe_callTy (cr_set hc hu) hg2 hm2 (by rfl) (pa_one ha hs) (by decide) (by decide) hs rfl) pa_nil rfl) (by decide) (by decide) rfl rfl) fun σ H Q h => ?_
  obtain ⟨F, env, G, po⟩ := e1_t h
  exact ⟨F, env, G, po.imp fun x H1 h => sset_run h⟩
/-! ### len(set(..)) -/
def rLenS (K : PySem.W.Frag) (w : World) : List V → Hp → VK → Prop := fun vs H Q => ∃ a us, vs = [V.ref a] ∧ H a = some (SetHO w a us) ∧ Q (.int us.length) H
theorem cr_lenS : CallR X (.builtin "len") (rLenS X.K X.w) := by
  intro pins s σ H vs us0 Q I r h
  obtain ⟨a, us, rfl, ha, q⟩ := h
  have S : SetAtV X.w s.heap a us := (I.hok a _ ha).1
  rw [Vals.ref1 r]
  obtain ⟨es, ep, t, o0, ho0, hex0, hd0, hf, hb, hr, hl, hus⟩ := S
  have hsz : us.length = es.size := by rw [← hus, List.length_map, Array.length_toList]
  have hb' : es.size < 4096 := hb
  refine call_len_set ho0 hex0 hd0 hf (by omega) ?_
  exact ⟨.int us.length, H, I.kept (h' := s.heap) (t' := s.toks + 1 + 1) (fun _ _ h => h), ⟨s.toks + 1, by rw [hsz]⟩, q⟩
theorem lset_run {x : V} {H : Hp} {Q : VK} (h : r1 X.K mkV lsetD x H Q) : rSet X.K X.w [x] H fun y H2 => rLenS X.K X.w [y] H2 Q := by
  obtain ⟨F, d, z, hd, hz, q⟩ := h
  have : ∃ ds, (d = .list ds ∨ d = .tuple ds) ∧ setOk ds = true ∧ z = .int (dedup ds).length := by
    cases d <;> try (exact (not_stk hz).elim)
    · obtain ⟨g1, rfl⟩ := grd_ok hz
      exact ⟨_, .inl rfl, g1, rfl⟩
    · obtain ⟨g1, rfl⟩ := grd_ok hz
      exact ⟨_, .inr rfl, g1, rfl⟩
  obtain ⟨ds, hdd, hok, rfl⟩ := this
  obtain ⟨hal, hhs, hkind, hlen⟩ := ok_hs hok
  refine ⟨F, x, d, ds, rfl, hd, hdd, hok, fun a us vxs ds' ha hul rv rp nd hm => ?_⟩
  refine ⟨a, us, rfl, upd_same, ?_⟩
  have hh : ∀ x ∈ ds, hashD x = true := fun x hx => (hhs x hx).hash
  have p : ds'.Perm (dedup ds) := (List.perm_ext_iff_of_nodup nd (nodup_dedup hh)).mpr fun x => (hm x).trans (mem_dedup hh x).symm
  have e : us.length = (dedup ds).length := by rw [← rv.length, rp.len, p.length_eq]
  rw [e]
  exact q _ _ ⟨same_new ha, .int _⟩
theorem s_lset (hc : X.calm = true) (hu : roomC X) (hg : Gl X "len") (hm : X.mg "len" = none) (hg2 : Gl X "set") (hm2 : X.mg "set" = none)
    (hs : starEach [a] X.env = [(false, eval a X.env)]) (ha : PE X a (tO X.K W fa)) :
    PE X (.Call (.Name "len" p1) [.Call (.Name "set" p2) [a] [] pos2] [] pos) (tE X.K W fun env => fa env >>= fun p => fin1 mkV lsetD p.1 p.2) := by
  refine peOf (pe_callB cr_lenS hg hm (by rfl) (pa_cons (pe_callTy (cr_set hc hu) hg2 hm2 (by rfl) (pa_one ha hs) (by decide) (by decide) hs rfl) pa_nil rfl) (by decide) (by decide) rfl rfl) fun σ H Q h => ?_
  obtain ⟨F, env, G, po⟩ := e1_t h
  exact ⟨F, env, G, po.imp fun x H1 h => lset_run h⟩
end
end Qv

set_option maxRecDepth 100000
set_option maxHeartbeats 3200000
/-! QSo: sorted(list). -/
namespace Qv
open PySem PySem.Spec PyProof.Rows L2 PySem.W
section
variable {X : Cx} {F : Addr → Prop} {H : Hp} {pins : List (Addr × Obj)} {σ : L2.St} {s : Shared}
theorem each_shp (I : Inv X pins σ H s) : ∀ {vxs : List V} {us : List Value} {ds : List PyData}, Vals vxs us → RpA X.K F H vxs ds → (∀ d ∈ ds, shp d = true) →
    EachIs (fun v d => (∃ x, RelV x v ∧ Rp X.K F H x d) ∧ ∃ as, Reads s.heap v d as) us ds
  | [], _, _, rv, r, _ => by
    cases rv
    cases r
    exact .nil
  | x :: xs, _, _, rv, r, hd => by
    cases rv with
    | cons rv1 rv2 =>
      cases r with
      | cons r1 r2 => exact .cons ⟨⟨x, rv1, r1⟩, reads_vw I rv1 (hd _ List.mem_cons_self) (.inl r1)⟩ (each_shp I rv2 r2 fun d h => hd d (List.mem_cons_of_mem _ h))
theorem fn_sorted (hu : roomC X) : CallR X (.builtin "sorted") (rF X.K (fnD .sorted)) := by
  unfold roomC at hu
  intro pins s σ H vs us Q I r h
  obtain ⟨F, x, d, z, rfl, hd, hg, q⟩ := h
  obtain ⟨u, rfl, rx⟩ := vals1 r
  cases d <;> try (exact (not_stk hg).elim)
  rename_i ds
  have hg : grd (sortOk ds) (PyData.list (ds.mergeSort leD)) = .ok z := hg
  obtain ⟨g1, rfl⟩ := grd_ok hg
  obtain ⟨g1, g6⟩ := ba2 g1
  obtain ⟨g1, g4⟩ := ba2 g1
  obtain ⟨g1, g3⟩ := ba2 g1
  obtain ⟨g1, g2⟩ := ba2 g1
  have g6 := of_decide_eq_true g6
  have hal : AllAlike ds := fun x hx y hy => List.all_eq_true.mp (List.all_eq_true.mp g1 x hx) y hy
  have hshp := List.all_eq_true.mp g2
  have hdep : ∀ d ∈ ds, d.depth ≤ 8 := fun d hd => of_decide_eq_true (List.all_eq_true.mp g3 d hd)
  obtain ⟨a, xs, rfl, h1, h2⟩ := hd.lst
  cases rx
  obtain ⟨its, rv, pl, hz⟩ := I.list h1
  have each := each_shp I rv h2 hshp
  have er0 : EachIs (fun v d => ∃ as, Reads s.heap v d as) its ds := each.mono fun v d q => q.2
  have eR : EachIs (fun v d => ∃ x, RelV x v ∧ Rp X.K F H x d) its ds := each.mono fun v d q => q.1
  have er' : EachIs (fun v d => ∃ as, Reads (sortingHeap (copyHeap s.heap its) (s.heap.objs.size + 1) its) v d as) its ds := er0.mono fun _ _ ⟨as, r⟩ => ⟨as, PyProof.Rows.Reads.keeps (fun _ _ => sorting_copy_old) r⟩
  have hu' : ∀ d, d ∈ ds → X.A.in1.in1.units + d.depth < cLine := fun d hd => by
    have := hdep d hd
    show X.A.units + 2 + d.depth < cLine
    omega
  have hS : SortsAt X.prog X.w X.A.in1.in1 { s with heap := sortingHeap (copyHeap s.heap its) (s.heap.objs.size + 1) its } (dataKind (sortingHeap (copyHeap s.heap its) (s.heap.objs.size + 1) its) ds) its := by
    rcases Bool.or_eq_true_iff.mp g4 with hk | hk
    · rcases Bool.or_eq_true_iff.mp hk with hk | hk
      · exact SortsAt.data (s := { s with heap := sortingHeap (copyHeap s.heap its) (s.heap.objs.size + 1) its }) er' hal (.inr fun d hd => by
          have := List.all_eq_true.mp hk d hd
          cases d <;> first | (cases this; done) | exact ⟨nofun, nofun⟩) hu'
      · exact SortsAt.tups (s := { s with heap := sortingHeap (copyHeap s.heap its) (s.heap.objs.size + 1) its }) er' hal (fun d hd => by
          have := List.all_eq_true.mp hk d hd
          cases d <;> first | (cases this; done) | exact ⟨_, rfl⟩) hu'
    · exact SortsAt.data (s := { s with heap := sortingHeap (copyHeap s.heap its) (s.heap.objs.size + 1) its }) er' hal (.inr fun d hd => by
          have := List.all_eq_true.mp hk d hd
          cases d <;> first | (cases this; done) | exact ⟨nofun, nofun⟩) hu'
  have fin : EachIs (fun v d => ∃ x, RelV x v ∧ Rp X.K F H x d) (sortVals (dataKind (sortingHeap (copyHeap s.heap its) (s.heap.objs.size + 1) its) ds) false its its) (ds.mergeSort leD) := by
    have q := sortVals_data (h' := sortingHeap (copyHeap s.heap its) (s.heap.objs.size + 1) its) (R := fun v d => ∃ x, RelV x v ∧ Rp X.K F H x d) (enc := id) (bs := ds) false eR er' (by rw [List.map_id]; exact hal)
    rw [List.map_id] at q
    exact q
  have hlen : its.length ≤ sizeLine := by
    rw [er0.length]
    exact Nat.le_trans g6 lim_line
  refine sorted_vals pl.isList hS hlen ?_
  obtain ⟨vxs', rv', rp'⟩ := each_back fin
  obtain ⟨c, hc⟩ := sortedAll_at s.heap its (sortVals (dataKind (sortingHeap (copyHeap s.heap its) (s.heap.objs.size + 1) its) ds) false its its).toArray
  have hp : s.heap.objs.size ≤ s.heap.objs.size + 1 := Nat.le_succ _
  have hn : H (s.heap.objs.size + 1) = none := I.hok.fresh hp
  have hl : vxs'.length ≤ sizeLine := by
    rw [rp'.len, List.length_mergeSort]
    exact Nat.le_trans g6 lim_line
  have J : Inv X pins σ (upd H (s.heap.objs.size + 1) (.lst vxs')) { s with heap := sortedAll s.heap its (sortVals (dataKind (sortingHeap (copyHeap s.heap its) (s.heap.objs.size + 1) its) ds) false its its).toArray } :=
    I.call (ch := []) (Un.laid (fun _ _ => sortedAll_old) hp hn) (I.hok.laid (fun _ _ => sortedAll_old) hp ⟨hl, _, c, rv', hc⟩) I.bare (fun _ z => nomatch z)
  exact ⟨.ref _, _, J, rfl, q _ _ (mk_lst hn rp')⟩
end
end Qv

set_option maxRecDepth 100000
set_option maxHeartbeats 1000000
/-! Q15: does a PySem expression stand for an expression with places? and: it then does what the evaluator computes. -/
namespace Qv
open PySem PySem.Spec PyProof.Rows L2

/-- a def's table for the look: its names, the defs that are called (parameters, which may be changed), the call shapes, the built-in names, the constants -/
structure Mc where
  N : List Str
  sg : List (Str × List Str × List Bool)
  sh : List (Str × Nat × List Str)
  B : List Str
  C : List (Str × Key)
def plE : Expr → Bool
  | .Starred _ _ => false
  | .Slice _ _ _ _ => false
  | .Set _ _ _ => false
  | .NamedExpr _ _ _ => false
  | _ => true
def visB (sc : Scope) (x : Str) : Bool := match sc.names.lookup x with
  | some .local => true
  | some .cell => true
  | some .free => true
  | _ => false
def glB (sc : Scope) (x : Str) : Bool := match sc.names.lookup x with
  | some .globalImplicit => !(x == ("__debug__" : Str))
  | _ => false
def slB (N : List Str) (sc : Scope) (i : Nat) (x : Str) : Bool := decide (N[i]? = some x) && visB sc x && !(x == ("__debug__" : Str)) && !(x == ("__classdict__" : Str))
/-- a name of a place, of an expression -/
def nmSl (N : List Str) (sc : Scope) (i : Nat) : Expr → Bool
  | .Name x _ => slB N sc i x
  | _ => false
def cstB : PyData → Const → Bool
  | .none, .none => true
  | .bool b, .bool c => b == c
  | .int b, .int c => decide (b = c)
  | .str b, .str c => decide (b = c)
  | _, _ => false
def bltB (M : Mc) (sc : Scope) (x y : Str) : Bool := decide (x = y) && glB sc x && M.B.contains x
def bfN : BF → Str
  | .len => "len"
  | .all => "all"
  | .any => "any"
  | .tuple => "tuple"
  | .list => "list"
  | .int => "int"
  | .repr => "repr"
  | .sum => "sum"
  | .sorted => "sorted"
  | .sset => ""
  | .lset => ""
/-- built-in calls whose rule stands here -/
def bfOk : BF → Bool
  | .sset => false
  | .lset => false
  | _ => true
def notB : Expr → Bool
  | .BoolOp _ _ _ => false
  | .UnaryOp .Not _ _ => false
  | .IfExp _ _ _ _ => false
  | .Compare _ _ _ _ => false
  | _ => true
def exsLen : Exs → Nat
  | .nil => 0
  | .cons _ es => exsLen es + 1
  | .star _ es => exsLen es + 1
def ownOf (N : List Str) (vs : List Nat) : List (Str × Nat) := vs.map fun i => (N[i]?.getD (Str.ofString ""), i)
def locB (sc : Scope) (x : Str) : Bool := match sc.names.lookup x with
  | some .local => true
  | some .cell => true
  | _ => false
def nmB (N : List Str) (sc : Scope) : List Nat → List Expr → Bool
  | [], [] => true
  | i :: is, .Name x _ :: r => decide (N[i]? = some x) && locB sc x && nmB N sc is r
  | _, _ => false
def tgB (N : List Str) (sc : Scope) : Tg → Expr → Bool
  | .nm i, .Name x _ => decide (N[i]? = some x) && locB sc x
  | .tp is, .Tuple ts _ _ => nmB N sc is ts
  | _, _ => false
def tpOf : Tg → Bool
  | .tp _ => true
  | .nm _ => false
def compB : Comprehension → Bool
  | ⟨_, it, _, a⟩ => decide (a = 0) && plE it
def mthOk : Mth → Bool
  | .index => true
  | .join => true
  | .split => true
  | _ => false
def isNon : Ex → Bool
  | .cst .none => true
  | _ => false
/-- what may stand as a test -/
def tsB : Ex → Bool
  | .ite _ _ _ => false
  | .bad => false
  | _ => true
def tsL : Exs → Bool
  | .nil => true
  | .cons x xs => tsB x && tsL xs
  | .star _ _ => false
/-- a slice's bound -/
def mBd (b : Bool) (f : Expr → Bool) : Option Expr → Bool
  | none => b
  | some e => f e
/-- y(set(m)) -/
def mSet (M : Mc) (sc : Scope) (y x : Str) (l : Expr) (k : Expr → Bool) : Bool := match l with
  | .Call (.Name z _) [m] [] _ => bltB M sc y x && bltB M sc "set" z && nst m && k m
  | _ => false
/-- f(l), sorted(set(l)), len(set(l)) -/
def mFn (M : Mc) (sc : Scope) (f : BF) (x : Str) (l : Expr) (k : Expr → Bool) : Bool := match f with
  | .sset => mSet M sc "sorted" x l k
  | .lset => mSet M sc "len" x l k
  | f => bfOk f && bltB M sc (bfN f) x && nst l && k l
mutual
def mE (M : Mc) (sc : Scope) : Ex → Expr → Bool
  | .var i, .Name x _ => slB M.N sc i x
  | .cst d, .Constant c _ _ => cstB d c
  | .glb x k, .Name y _ => decide (x = y) && glB sc y && decide (M.C.lookup y = some k)
  | .bad, _ => true
  | .tup es, .Tuple l _ _ => mSs M sc es l
  | .lst es, .List l _ => mSs M sc es l
  | .dct ks es, .Dict keys vals _ => decide (keys.length = vals.length) && decide (keys.length ≤ 15) && decide (ks.length ≤ 15) && !keys.isEmpty && decide ks.Nodup && (decide (exsLen es = ks.length) && noStar es) && keys.all (·.isSome) && mD M sc es ks keys vals
  | .bin op a b, .BinOp l o r _ => decide (o = opOf op) && mE M sc a l && mE M sc b r
  | .neg a, .UnaryOp .USub l _ => mE M sc a l
  | .cmp op a b, .Compare l [o] [r] _ => decide (o = cmpOf op) && !behindInMarks o r && mE M sc a l && mE M sc b r
  | .chn o1 o2 a b c, .Compare l [p1, p2] [r, t] _ => decide (p1 = cmpOf o1) && decide (p2 = cmpOf o2) && !lastMarks [p1, p2] [r, t] && mE M sc a l && mE M sc b r && mE M sc c t
  | .and es, .BoolOp .And l _ => !l.isEmpty && tsL es && mEs M sc es l
  | .or es, .BoolOp .Or l _ => !l.isEmpty && tsL es && mEs M sc es l
  | .not a, .UnaryOp .Not l _ => tsB a && mE M sc a l
  | .ite c a b, .IfExp t l r _ => tsB c && mE M sc c t && mE M sc a l && mE M sc b r
  | .sub a i, .Subscript l r _ => plE r && mE M sc a l && mE M sc i r
  | .slc a lo hi, .Subscript l (.Slice x y none _) _ => mE M sc a l && mBd (isNon lo) (fun e => mE M sc lo e) x && mBd (isNon hi) (fun e => mE M sc hi e) y
  | .rev a, .Subscript l (.Slice none none (some (.UnaryOp .USub (.Constant (.int 1) _ _) _)) _) _ => mE M sc a l
  | .fn f a, .Call (.Name x _) [l] [] _ => mFn M sc f x l fun e => mE M sc a e
  | .inst a t, .Call (.Name x _) [l, .Name y _] [] _ => bltB M sc "isinstance" x && bltB M sc (tyName t) y && nst l && mE M sc a l
  | .call f es ks kes, .Call (.Name x _) l kws _ => decide (f = x) && glB sc x && l.all nst && kwB kws && decide (kwN kws = ks) && decide ((f, exsLen es, ks) ∈ M.sh) && (match M.sg.lookup f with
    | some (ps, io) => mA M sc es (ps.map fun p => ((ps.zip io).lookup p).getD false) l && mK M sc kes (ks.map fun p => ((ps.zip io).lookup p).getD false) kws
    | none => false)
  | .meth m a es, .Call (.Attribute l n p) r [] q => decide (n = mName m) && mthOk m && baseOk l && decide (p.endLine = q.line) && r.all nst && decide (r.length < 30) && !r.isEmpty && mE M sc a l && mEs M sc es r
  | .pop i a, .Call (.Attribute (.Name x _) n p) [v] [] q => slB M.N sc i x && decide (n = ("pop" : Str)) && decide (p.endLine = q.line) && nst v && mE M sc a v
  | .mm mx a b, .Call (.Name x _) [l, r] [] _ => bltB M sc (mmN mx) x && nst l && nst r && mE M sc a l && mE M sc b r
  | .lc vs elt tg it ifs, .ListComp e [g] scope _ => compB g && blkC M.N sc scope (ownOf M.N vs) && tgB M.N scope tg g.target && tg.sl.all (fun i => vs.contains i) && mI M sc (tpOf tg) it g.iter && mI1 M (relS scope sc) ifs g.ifs && mE M (relS scope sc) elt e
  | .lc2 vs vs1 elt tg it ifs tg1 it1 ifs1, .ListComp e [g, g1] scope _ => compB g && compB g1 && blkC M.N sc scope (ownOf M.N vs) && tgB M.N scope tg g.target && tgB M.N scope tg1 g1.target && tg.sl.all (fun i => vs.contains i) && tg1.sl.all (fun i => vs1.contains i) && vs1.all (fun i => vs.contains i) &&
      mI M sc (tpOf tg) it g.iter && mI1 M (relS scope sc) ifs g.ifs && mI M (relS scope sc) (tpOf tg1) it1 g1.iter && mI1 M (relS scope sc) ifs1 g1.ifs && mE M (relS scope sc) elt e
  | .lcO i vs elt tg ifs, .ListComp e [g] scope _ => compB g && blkC M.N sc scope (ownOf M.N vs) && tgB M.N scope tg g.target && tg.sl.all (fun i => vs.contains i) && nmSl M.N sc i g.iter && mI1 M (relS scope sc) ifs g.ifs && mE M (relS scope sc) elt e
  | _, _ => false
def mEs (M : Mc) (sc : Scope) : Exs → List Expr → Bool
  | .nil, [] => true
  | .cons x xs, e :: es => mE M sc x e && mEs M sc xs es
  | _, _ => false
/-- a display's items, stars among them -/
def mSs (M : Mc) (sc : Scope) : Exs → List Expr → Bool
  | .nil, [] => true
  | .star x xs, .Starred e _ :: es => mE M sc x e && mSs M sc xs es
  | .cons x xs, e :: es => nst e && mE M sc x e && mSs M sc xs es
  | _, _ => false
/-- a comprehension's tests: none or one -/
def mI1 (M : Mc) (sc : Scope) : Exs → List Expr → Bool
  | .nil, [] => true
  | .cons x .nil, [e] => tsB x && mE M sc x e
  | _, _ => false
def mD (M : Mc) (sc : Scope) : Exs → List Str → List (Option Expr) → List Expr → Bool
  | .nil, [], [], [] => true
  | .cons x xs, k :: ks, some (.Constant (.str y) _ _) :: keys, e :: es => decide (k = y) && mE M sc x e && mD M sc xs ks keys es
  | _, _, _, _ => false
def mA (M : Mc) (sc : Scope) : Exs → List Bool → List Expr → Bool
  | .nil, _, [] => true
  | .cons x xs, io, e :: es => mE M sc x e && mA M sc xs io.tail es
  | _, _, _ => false
def mK (M : Mc) (sc : Scope) : Exs → List Bool → List Keyword → Bool
  | .nil, _, [] => true
  | .cons x xs, io, ⟨_, e, _⟩ :: es => mE M sc x e && mK M sc xs io.tail es
  | _, _, _ => false
def mI (M : Mc) (sc : Scope) : Bool → Itr → Expr → Bool
  | _, .src x, e => mE M sc x e
  | _, .rng1 a, .Call (.Name f _) [x] [] _ => bltB M sc "range" f && nst x && mE M sc a x
  | _, .rng2 a b, .Call (.Name f _) [x, y] [] _ => bltB M sc "range" f && nst x && nst y && mE M sc a x && mE M sc b y
  | tp, .enu a, .Call (.Name f _) [x] [] _ => tp && bltB M sc "enumerate" f && nst x && mE M sc a x
  | tp, .zip a b, .Call (.Name f _) [x, y] [] _ => tp && bltB M sc "zip" f && nst x && nst y && mE M sc a x && mE M sc b y
  | _, _, _ => false
end
end Qv

set_option maxRecDepth 100000
set_option maxHeartbeats 1000000
/-! Q16: an expression that fits does what the evaluator computes. -/
namespace Qv
open PySem PySem.Spec PyProof.Rows L2
theorem nof {b : Bool} {P : Prop} (h : b = true) (e : b = false) : P := by rw [e] at h; cases h
/-- where code runs: the context X, what an exception asks W, k levels of calls below -/
structure Amb (M : Mc) (T : Tb) (k : Nat) (X : Cx) (W : WX) : Prop where
  nm : X.N = M.N
  nd : X.N.Nodup
  calm : X.calm = true
  room : Room k X.A
  gd : X.A.guards = some []
  tk : Takes X W
  bl : ∀ x ∈ M.B, X.mg x = none
  cs : ∀ x c, M.C.lookup x = some c → ∃ u, X.mg x = some u ∧ RelV (kV c) u
  fs : ∀ f fd, T.lookup f = some fd → M.sg.lookup f = some (fd.ps, fd.io) ∧ ∃ fa dt, FnG X.prog X.w X.K X.mg X.base (CX X.prog X.w) k f fd fa dt ∧ ∀ n ks, (f, n, ks) ∈ M.sh → BnG X.K fd dt n ks
section
variable {M : Mc} {T : Tb} {k : Nat} {X : Cx} {W : WX} {sc : Scope}
theorem Amb.rc (A : Amb M T k X W) : roomC X := by
  have := A.room.un
  unfold roomC
  omega
theorem Amb.blk (A : Amb M T k X W) (s : Shared) (H : Hp) (scope : Scope) (C : Addr) (cl : List (Str × Addr)) (fp : List Addr) : Amb M T k (X.blk s H scope (compEnvC scope cl C X.env) fp) noW :=
  ⟨A.nm, A.nd, A.calm, A.room, A.gd, fun u s' h => by obtain ⟨_, _, _, _, _, _, _, _, _, _, _, _, _, _, _, _, z⟩ := h; exact z, A.bl, A.cs, A.fs⟩
theorem sl_of {i : Nat} {x : Str} (A : Amb M T k X W) (hs : X.env.scope = sc) (h : slB M.N sc i x = true) : X.N[i]? = some x ∧ Vis X.env.scope x ∧ (x == ("__debug__" : Str)) = false ∧ (x == ("__classdict__" : Str)) = false := by
  unfold slB at h
  obtain ⟨h, h4⟩ := ba2 h
  obtain ⟨h, h3⟩ := ba2 h
  obtain ⟨h1, h2⟩ := ba2 h
  refine ⟨by rw [A.nm]; exact of_decide_eq_true h1, ?_, by simpa using h3, by simpa using h4⟩
  rw [hs]
  unfold visB at h2
  unfold Vis
  split at h2
  · rename_i e; exact .inl e
  · rename_i e; exact .inr (.inl e)
  · rename_i e; exact .inr (.inr e)
  · cases h2
theorem gl_of {x : Str} (hs : X.env.scope = sc) (h : glB sc x = true) : Gl X x ∧ (x == ("__debug__" : Str)) = false := by
  unfold glB at h
  split at h
  · rename_i e
    exact ⟨by unfold Gl Env.kindOf; rw [hs]; exact e, by simpa using h⟩
  · cases h
theorem blt_of {x y : Str} (A : Amb M T k X W) (hs : X.env.scope = sc) (h : bltB M sc x y = true) : x = y ∧ Gl X x ∧ X.mg x = none := by
  unfold bltB at h
  obtain ⟨h, h3⟩ := ba2 h
  obtain ⟨h1, h2⟩ := ba2 h
  have e := of_decide_eq_true h1
  subst e
  exact ⟨rfl, (gl_of hs h2).1, A.bl _ (by simpa using h3)⟩
theorem pl_nst {e : Expr} (h : plE e = true) : nst e = true := by cases e <;> first | rfl | exact nof h rfl

/-- .. as a value, as a test -/
structure Fit (M : Mc) (T : Tb) (k : Nat) (x : Ex) (X : Cx) (W : WX) (e : Expr) : Prop where
  val : PE X e (tE X.K W (ev T x))
  opd : PE X e (tO X.K W (opd x.isVar (ev T x)))
  tst : tsB x = true → PT X e (tT X.K W (asT (ev T x)))
def FX (M : Mc) (T : Tb) (k : Nat) (x : Ex) : Prop := ∀ (X : Cx) (W : WX) (sc : Scope) (e : Expr), Amb M T k X W → X.env.scope = sc → mE M sc x e = true → Fit M T k x X W e
/-- a plain one: no name, no test of its own form -/
theorem Fit.of {x : Ex} {e : Expr} (h : PE X e (tE X.K W (ev T x))) (hv : x.isVar = none) (hn : notB e = true) : Fit M T k x X W e :=
  ⟨h, by rw [hv]; exact o_any h, fun _ => t_val h fun whole => by
    cases e <;> first | rfl | exact nof hn rfl | (rename_i op _ _; cases op <;> first | rfl | exact nof hn rfl)⟩
theorem fx_var {i : Nat} : FX M T k (.var i) := by
  intro X W sc e A hs h
  cases e with
  | Name x p =>
    obtain ⟨h1, h2, h3, h4⟩ := sl_of A hs h
    have v : PE X (.Name x p) (tE X.K W (ev T (.var i))) := s_var h1 h2 h3 h4
    exact ⟨v, o_var h1 h2 h3 h4 fun env => rfl, fun _ => t_val v fun _ => rfl⟩
  | _ => exact nof h rfl
theorem fx_cst {d : PyData} : FX M T k (.cst d) := by
  intro X W sc e A hs h
  cases e with
  | Constant c j p =>
    have h : cstB d c = true := h
    have v : PE X (.Constant c j p) (tE X.K W (ev T (.cst d))) := by
      cases d <;> cases c <;> first | exact nof h rfl | skip
      · exact s_cst pe_non fun F H => .non
      · have e := beq_iff_eq.mp h
        subst e
        exact s_cst pe_bl fun F H => .bl _
      · have e := of_decide_eq_true h
        subst e
        exact s_cst pe_int fun F H => .int _
      · have e := of_decide_eq_true h
        subst e
        exact s_cst pe_str fun F H => .str _
    exact Fit.of v rfl rfl
  | _ => exact nof h rfl
theorem fx_glb {x : Str} {c : Key} : FX M T k (.glb x c) := by
  intro X W sc e A hs h
  cases e with
  | Name y p =>
    have h : (decide (x = y) && glB sc y && decide (M.C.lookup y = some c)) = true := h
    obtain ⟨h, h3⟩ := ba2 h
    obtain ⟨h1, h2⟩ := ba2 h
    obtain ⟨u, h4, h5⟩ := A.cs _ _ (of_decide_eq_true h3)
    obtain ⟨g1, g2⟩ := gl_of hs h2
    have v : PE X (.Name y p) (tE X.K W (ev T (.glb x c))) := by
      cases c with
      | inl i => exact s_cst (d := .int i) (pe_glob g1 h4 h5 g2) fun F H => .int _
      | inr z => exact s_cst (d := .str z) (pe_glob g1 h4 h5 g2) fun F H => .str _
    exact Fit.of v rfl rfl
  | _ => exact nof h rfl
theorem fx_bad : FX M T k .bad := by
  intro X W sc e A hs h
  have v : PE X e (tE X.K W (ev T .bad)) := ⟨fun pins s σ H Q I ⟨F, env, G, po⟩ => po.elim⟩
  exact ⟨v, o_any v, fun h => nof h rfl⟩
theorem or_bin (hr : roomC X) (op : BOp) : OpR X (binaryOp (opOf op)) (rD X.K (binD op)) := by
  cases op
  · exact or_add
  · exact or_sub
  · exact or_mul
  · exact or_fdiv
  · exact or_mod
  · exact or_pow
theorem fx_bin {op : BOp} {a b : Ex} (ha : FX M T k a) (hb : FX M T k b) : FX M T k (.bin op a b) := by
  intro X W sc e A hs h
  cases e with
  | BinOp l o r p =>
    have h : (decide (o = opOf op) && mE M sc a l && mE M sc b r) = true := h
    obtain ⟨h, h3⟩ := ba2 h
    obtain ⟨h1, h2⟩ := ba2 h
    have h1 := of_decide_eq_true h1
    subst h1
    have v : PE X (.BinOp l (opOf op) r p) (tE X.K W (ev T (.bin op a b))) := s_bin (or_bin A.rc op) (ha X W sc l A hs h2).opd (hb X W sc r A hs h3).opd
    exact Fit.of v rfl rfl
  | _ => exact nof h rfl
theorem fx_neg {a : Ex} (ha : FX M T k a) : FX M T k (.neg a) := by
  intro X W sc e A hs h
  cases e with
  | UnaryOp o l p =>
    cases o with
    | USub =>
      have v : PE X (.UnaryOp .USub l p) (tE X.K W (ev T (.neg a))) := s_neg (ha X W sc l A hs h).val
      exact Fit.of v rfl rfl
    | _ => exact nof h rfl
  | _ => exact nof h rfl
theorem fx_cmp {op : COp} {a b : Ex} (ha : FX M T k a) (hb : FX M T k b) : FX M T k (.cmp op a b) := by
  intro X W sc e A hs h
  cases e with
  | Compare l os rs p =>
    match os, rs, h with
    | [o], [r], h =>
      have h : (decide (o = cmpOf op) && !behindInMarks o r && mE M sc a l && mE M sc b r) = true := h
      obtain ⟨h, h4⟩ := ba2 h
      obtain ⟨h, h3⟩ := ba2 h
      obtain ⟨h1, h2⟩ := ba2 h
      have h1 := of_decide_eq_true h1
      subst h1
      have hm : behindInMarks (cmpOf op) r = false := by simpa using h2
      have fa := (ha X W sc l A hs h3).opd
      have fb := (hb X W sc r A hs h4).opd
      have v : PE X (.Compare l [cmpOf op] [r] p) (tE X.K W (ev T (.cmp op a b))) := s_cmp (oc_all A.rc op) fa fb hm
      exact ⟨v, o_any v, fun _ => t_cmp (oc_all A.rc op) fa fb hm⟩
    | [], _, h => exact nof h rfl
    | [_], [], h => exact nof h rfl
    | [_], _ :: _ :: _, h => exact nof h rfl
    | _ :: _ :: _, [], h => exact nof h rfl
    | _ :: _ :: _, [_], h => exact nof h rfl
    | [_, _], [_, _], h => exact nof h rfl
    | [_, _], _ :: _ :: _ :: _, h => exact nof h rfl
    | _ :: _ :: _ :: _, _ :: _ :: _, h => exact nof h rfl
  | _ => exact nof h rfl
theorem fx_chn {o1 o2 : COp} {a b c : Ex} (ha : FX M T k a) (hb : FX M T k b) (hc : FX M T k c) : FX M T k (.chn o1 o2 a b c) := by
  intro X W sc e A hs h
  have : ∃ l p1 p2 r t p, e = .Compare l [p1, p2] [r, t] p ∧ (decide (p1 = cmpOf o1) && decide (p2 = cmpOf o2) && !lastMarks [p1, p2] [r, t] && mE M sc a l && mE M sc b r && mE M sc c t) = true := by
    unfold mE at h
    split at h
    all_goals first | (exact nof h rfl) | skip
    all_goals first | contradiction | skip
    all_goals rename_i heq
    all_goals first | (cases heq; exact ⟨_, _, _, _, _, _, rfl, h⟩) | cases heq
  obtain ⟨l, p1, p2, r, t, p, rfl, h⟩ := this
  obtain ⟨h, h6⟩ := ba2 h
  obtain ⟨h, h5⟩ := ba2 h
  obtain ⟨h, h4⟩ := ba2 h
  obtain ⟨h, h3⟩ := ba2 h
  obtain ⟨h1, h2⟩ := ba2 h
  have h1 := of_decide_eq_true h1
  have h2 := of_decide_eq_true h2
  subst h1 h2
  have hm : lastMarks [cmpOf o1, cmpOf o2] [r, t] = false := by simpa using h3
  have fa := (ha X W sc l A hs h4).opd
  have fb := (hb X W sc r A hs h5).opd
  have fc := (hc X W sc t A hs h6).opd
  have v : PE X (.Compare l [cmpOf o1, cmpOf o2] [r, t] p) (tE X.K W (ev T (.chn o1 o2 a b c))) := s_chn (oc_all A.rc o1) (oc_all A.rc o2) fa fb fc hm
  exact ⟨v, o_any v, fun _ => t_chn (oc_all A.rc o1) (oc_all A.rc o2) fa fb fc hm⟩
theorem asT_from {ft : Evn → Rs (Bool × Evn)} : asT (fromT ft) = ft := by
  funext env
  unfold asT fromT
  cases ft env with
  | error x => rfl
  | ok p => rfl
theorem fx_not {a : Ex} (ha : FX M T k a) : FX M T k (.not a) := by
  intro X W sc e A hs h
  cases e with
  | UnaryOp o l p =>
    cases o with
    | Not =>
      obtain ⟨h1, h⟩ := ba2 (show (tsB a && mE M sc a l) = true from h)
      have f := ha X W sc l A hs h
      have e : ev T (.not a) = fromT (notF (ev T a)) := by
        funext env
        show (asT (fun e => ev T a e) env >>= fun p => _) = _
        unfold fromT notF
        dsimp only
        generalize asT (ev T a) env = m
        cases m <;> rfl
      have v : PE X (.UnaryOp .Not l p) (tE X.K W (ev T (.not a))) := by rw [e]; exact s_not f.val
      refine ⟨v, o_any v, fun _ => ?_⟩
      rw [e, asT_from]
      exact t_not (f.tst h1)
    | _ => exact nof h rfl
  | _ => exact nof h rfl
theorem fx_ite {c a b : Ex} (hc : FX M T k c) (ha : FX M T k a) (hb : FX M T k b) : FX M T k (.ite c a b) := by
  intro X W sc e A hs h
  cases e with
  | IfExp t l r p =>
    have h : (tsB c && mE M sc c t && mE M sc a l && mE M sc b r) = true := h
    obtain ⟨h, h3⟩ := ba2 h
    obtain ⟨h, h5⟩ := ba2 h
    obtain ⟨h1, h4⟩ := ba2 h
    have v : PE X (.IfExp t l r p) (tE X.K W (ev T (.ite c a b))) := s_ite ((hc X W sc t A hs h4).tst h1) (ha X W sc l A hs h5).val (hb X W sc r A hs h3).val
    exact ⟨v, o_any v, fun h => nof h rfl⟩
  | _ => exact nof h rfl
theorem plainIx {e : Expr} (h : plE e = true) : PlainIx e := by
  intro o i
  cases e <;> first | rfl | exact nof h rfl
theorem fx_sub {a i : Ex} (ha : FX M T k a) (hi : FX M T k i) : FX M T k (.sub a i) := by
  intro X W sc e A hs h
  cases e with
  | Subscript l r p =>
    have h : (plE r && mE M sc a l && mE M sc i r) = true := h
    obtain ⟨h, h3⟩ := ba2 h
    obtain ⟨h1, h2⟩ := ba2 h
    have v : PE X (.Subscript l r p) (tE X.K W (ev T (.sub a i))) := s_sub A.rc (ha X W sc l A hs h2).opd (hi X W sc r A hs h3).opd (plainIx h1)
    exact Fit.of v rfl rfl
  | _ => exact nof h rfl
theorem bd_of {x : Ex} {o : Option Expr} (hx : FX M T k x) (A : Amb M T k X W) (hs : X.env.scope = sc) (h : mBd (isNon x) (fun e => mE M sc x e) o = true) : Bd X W o (ev T x) := by
  cases o with
  | none =>
    cases x <;> first | exact nof h rfl | skip
    rename_i c
    cases c <;> first | exact nof h rfl | skip
    exact .no
  | some e => exact .so (hx X W sc e A hs h).val
theorem fx_slc {a lo hi : Ex} (ha : FX M T k a) (hl : FX M T k lo) (hh : FX M T k hi) : FX M T k (.slc a lo hi) := by
  intro X W sc e A hs h
  cases e with
  | Subscript l r p =>
    cases r with
    | Slice x y z q =>
      cases z with
      | none =>
        have h : (mE M sc a l && mBd (isNon lo) (fun e => mE M sc lo e) x && mBd (isNon hi) (fun e => mE M sc hi e) y) = true := h
        obtain ⟨h, h3⟩ := ba2 h
        obtain ⟨h1, h2⟩ := ba2 h
        have v : PE X (.Subscript l (.Slice x y none q) p) (tE X.K W (ev T (.slc a lo hi))) := s_slc (ha X W sc l A hs h1).opd (bd_of hl A hs h2) (bd_of hh A hs h3)
        exact Fit.of v rfl rfl
      | some z => cases x <;> cases y <;> cases z <;> exact nof h rfl
    | _ => exact nof h rfl
  | _ => exact nof h rfl
theorem fx_rev {a : Ex} (ha : FX M T k a) : FX M T k (.rev a) := by
  intro X W sc e A hs h
  have : ∃ l j p1 p2 p3 p, e = .Subscript l (.Slice none none (some (.UnaryOp .USub (.Constant (.int 1) j p1) p2)) p3) p ∧ mE M sc a l = true := by
    unfold mE at h
    split at h
    all_goals first | (exact nof h rfl) | skip
    all_goals first | contradiction | skip
    all_goals rename_i heq
    all_goals first | (cases heq; exact ⟨_, _, _, _, _, _, rfl, h⟩) | cases heq
  obtain ⟨l, j, p1, p2, p3, p, rfl, h⟩ := this
  have v : PE X (.Subscript l (.Slice none none (some (.UnaryOp .USub (.Constant (.int 1) j p1) p2)) p3) p) (tE X.K W (ev T (.rev a))) := s_rev (ha X W sc l A hs h).opd
  exact Fit.of v rfl rfl
theorem mset_of {y x : Str} {l : Expr} {k : Expr → Bool} (h : mSet M sc y x l k = true) : ∃ z p2 m q, l = .Call (.Name z p2) [m] [] q ∧ bltB M sc y x = true ∧ bltB M sc "set" z = true ∧ nst m = true ∧ k m = true := by
  unfold mSet at h
  split at h
  · obtain ⟨h, h4⟩ := ba2 h
    obtain ⟨h, h3⟩ := ba2 h
    obtain ⟨h1, h2⟩ := ba2 h
    exact ⟨_, _, _, _, rfl, h1, h2, h3, h4⟩
  · cases h
theorem fx_fn {f : BF} {a : Ex} (ha : FX M T k a) : FX M T k (.fn f a) := by
  intro X W sc e A hs h
  cases e with
  | Call fn l kws p =>
    cases fn with
    | Name x px =>
      match l, kws, h with
      | [l], [], h =>
        have h : mFn M sc f x l (fun e => mE M sc a e) = true := h
        have gen : ∀ f, (bfOk f && bltB M sc (bfN f) x && nst l && mE M sc a l) = true → Fit M T k (.fn f a) X W (.Call (.Name x px) [l] [] p) := fun f h => by
          obtain ⟨h, h4⟩ := ba2 h
          obtain ⟨h, h3⟩ := ba2 h
          obtain ⟨h1, h2⟩ := ba2 h
          obtain ⟨e1, g1, g2⟩ := blt_of A hs h2
          subst e1
          have o := (ha X W sc l A hs h4).opd
          have s1 := star_cons (es := []) (env := X.env) h3
          have v : PE X (.Call (.Name (bfN f) px) [l] [] p) (tE X.K W (ev T (.fn f a))) := by
            cases f <;> first | exact nof h1 rfl | skip
            · exact s_fnB fn_len g1 g2 (by rfl) (by decide) (by decide) s1 o
            · exact s_fnB (fn_all A.calm) g1 g2 (by rfl) (by decide) (by decide) s1 o
            · exact s_fnB (fn_any A.calm) g1 g2 (by rfl) (by decide) (by decide) s1 o
            · exact s_fnT fn_tuple g1 g2 (by rfl) (by decide) (by decide) s1 o
            · exact s_fnT fn_list g1 g2 (by rfl) (by decide) (by decide) s1 o
            · exact s_fnT fn_int g1 g2 (by rfl) (by decide) (by decide) s1 o
            · exact s_fnB (fn_repr A.gd A.rc) g1 g2 (by rfl) (by decide) (by decide) s1 o
            · exact s_fnB (fn_sum A.calm) g1 g2 (by rfl) (by decide) (by decide) s1 o
            · exact s_fnB (fn_sorted A.rc) g1 g2 (by rfl) (by decide) (by decide) s1 o
          exact Fit.of v rfl rfl
        cases f
        case sset =>
          obtain ⟨z, p2, m, q, rfl, h1, h2, h3, h4⟩ := mset_of h
          obtain ⟨e1, g1, g2⟩ := blt_of A hs h1
          obtain ⟨e2, g3, g4⟩ := blt_of A hs h2
          subst e1
          subst e2
          have v : PE X (.Call (.Name "sorted" px) [.Call (.Name "set" p2) [m] [] q] [] p) (tE X.K W (ev T (.fn .sset a))) := s_sset A.calm A.rc g1 g2 g3 g4 (star_cons (es := []) (env := X.env) h3) (ha X W sc m A hs h4).opd
          exact Fit.of v rfl rfl
        case lset =>
          obtain ⟨z, p2, m, q, rfl, h1, h2, h3, h4⟩ := mset_of h
          obtain ⟨e1, g1, g2⟩ := blt_of A hs h1
          obtain ⟨e2, g3, g4⟩ := blt_of A hs h2
          subst e1
          subst e2
          have v : PE X (.Call (.Name "len" px) [.Call (.Name "set" p2) [m] [] q] [] p) (tE X.K W (ev T (.fn .lset a))) := s_lset A.calm A.rc g1 g2 g3 g4 (star_cons (es := []) (env := X.env) h3) (ha X W sc m A hs h4).opd
          exact Fit.of v rfl rfl
        all_goals exact gen _ h
      | [], _, h => exact nof h rfl
      | [_], _ :: _, h => exact nof h rfl
      | _ :: _ :: _, _, h => exact nof h rfl
    | _ => exact nof h rfl
  | _ => exact nof h rfl
theorem fx_inst {a : Ex} {t : Ty} (ha : FX M T k a) : FX M T k (.inst a t) := by
  intro X W sc e A hs h
  have : ∃ x px l y py p, e = .Call (.Name x px) [l, .Name y py] [] p ∧ (bltB M sc "isinstance" x && bltB M sc (tyName t) y && nst l && mE M sc a l) = true := by
    unfold mE at h
    split at h
    all_goals first | (exact nof h rfl) | skip
    all_goals first | contradiction | skip
    all_goals rename_i heq
    all_goals first | (cases heq; exact ⟨_, _, _, _, _, _, rfl, h⟩) | cases heq
  obtain ⟨x, px, l, y, py, p, rfl, h⟩ := this
  obtain ⟨h, h4⟩ := ba2 h
  obtain ⟨h, h3⟩ := ba2 h
  obtain ⟨h1, h2⟩ := ba2 h
  obtain ⟨e1, g1, g2⟩ := blt_of A hs h1
  obtain ⟨e2, g3, g4⟩ := blt_of A hs h2
  subst e1 e2
  have v : PE X (.Call (.Name "isinstance" px) [l, .Name (tyName t) py] [] p) (tE X.K W (ev T (.inst a t))) := s_inst g1 g2 g3 g4 (ha X W sc l A hs h4).val h3
  exact Fit.of v rfl rfl

/-! ### rows of expressions -/
structure Fits (M : Mc) (T : Tb) (k : Nat) (xs : Exs) : Prop where
  all : ∀ (X : Cx) (W : WX) (sc : Scope) (es : List Expr), Amb M T k X W → X.env.scope = sc → mEs M sc xs es = true → es.all nst = true → PA X es (tL X.K W (evs T xs))
  spl : ∀ (X : Cx) (W : WX) (sc : Scope) (es : List Expr), Amb M T k X W → X.env.scope = sc → mSs M sc xs es = true → PA X es (tL X.K W (evs T xs))
  andV : ∀ (X : Cx) (W : WX) (sc : Scope) (es : List Expr) (p : Pos), Amb M T k X W → X.env.scope = sc → mEs M sc xs es = true → es ≠ [] → PE X (.BoolOp .And es p) (tE X.K W (fromT (evAnd T xs)))
  andT : ∀ (X : Cx) (W : WX) (sc : Scope) (es : List Expr) (p : Pos), Amb M T k X W → X.env.scope = sc → mEs M sc xs es = true → tsL xs = true → es ≠ [] → PW X (.BoolOp .And es p) (tT X.K W (evAnd T xs))
  orV : ∀ (X : Cx) (W : WX) (sc : Scope) (es : List Expr) (p : Pos), Amb M T k X W → X.env.scope = sc → mEs M sc xs es = true → es ≠ [] → PE X (.BoolOp .Or es p) (tE X.K W (fromT (evOr T xs)))
  orT : ∀ (X : Cx) (W : WX) (sc : Scope) (es : List Expr) (p : Pos), Amb M T k X W → X.env.scope = sc → mEs M sc xs es = true → tsL xs = true → es ≠ [] → PW X (.BoolOp .Or es p) (tT X.K W (evOr T xs))
  one : ∀ (X : Cx) (W : WX) (sc : Scope) (es : List Expr), Amb M T k X W → X.env.scope = sc → mI1 M sc xs es = true → PTs X es (tT X.K W (evAnd T xs))
  dsp : ∀ (X : Cx) (W : WX) (sc : Scope) (p : Pos) (ks : List Str) (keys : List (Option Expr)) (vals : List Expr), Amb M T k X W → X.env.scope = sc → mD M sc xs ks keys vals = true → Dsp X W p keys vals ks (evs T xs)
  arg : ∀ (X : Cx) (W : WX) (sc : Scope) (io : List Bool) (es : List Expr), Amb M T k X W → X.env.scope = sc → mA M sc xs io es = true → es.all nst = true → PA X es (tAr X.K W fun env => evA T xs io env)
  kwa : ∀ (X : Cx) (W : WX) (sc : Scope) (io : List Bool) (kws : List Keyword), Amb M T k X W → X.env.scope = sc → mK M sc xs io kws = true → PK X kws (tAr X.K W fun env => evA T xs io env)
theorem nst_of {x : Ex} {e : Expr} (h : mE M sc x e = true) (hb : x ≠ .bad) : nst e = true := by
  cases e with
  | Starred l p => cases x <;> first | exact nof h rfl | exact absurd rfl hb
  | _ => rfl
theorem fits_nil : Fits M T k .nil where
  all := fun X W sc es A hs h _ => by
    cases es with
    | nil => exact a_nil
    | cons e es => exact nof h rfl
  spl := fun X W sc es A hs h => by
    cases es with
    | nil => exact a_nil
    | cons e es => exact nof h rfl
  andV := fun X W sc es p A hs h hn => by
    cases es with
    | nil => exact absurd rfl hn
    | cons e es => exact nof h rfl
  andT := fun X W sc es p A hs h _ hn => by
    cases es with
    | nil => exact absurd rfl hn
    | cons e es => exact nof h rfl
  orV := fun X W sc es p A hs h hn => by
    cases es with
    | nil => exact absurd rfl hn
    | cons e es => exact nof h rfl
  orT := fun X W sc es p A hs h _ hn => by
    cases es with
    | nil => exact absurd rfl hn
    | cons e es => exact nof h rfl
  one := fun X W sc es A hs h => by
    cases es with
    | nil => exact ⟨fun pins s σ H Q I ⟨F, env, G, po⟩ => pts_nil.run pins s σ H Q I (PoK.now (PoK.of po) (.refl G) rfl)⟩
    | cons e es => exact nof h rfl
  dsp := fun X W sc p ks keys vals A hs h => by
    match ks, keys, vals, h with
    | [], [], [], _ => exact dsp_nil
    | [], [], _ :: _, h => exact nof h rfl
    | [], _ :: _, _, h => exact nof h rfl
    | _ :: _, _, _, h => exact nof h rfl
  arg := fun X W sc io es A hs h _ => by
    cases es with
    | nil => exact aa_nil
    | cons e es => exact nof h rfl
  kwa := fun X W sc io es A hs h => by
    cases es with
    | nil => exact ak_nil
    | cons e es => exact nof h rfl
theorem cons_and {x : Ex} {xs : Exs} : evAnd T (.cons x xs) = andF (ev T x) (evAnd T xs) := by
  funext env
  show (asT (fun e => ev T x e) env >>= fun p => _) = _
  unfold andF
  generalize asT (ev T x) env = m
  cases m <;> rfl
theorem cons_or {x : Ex} {xs : Exs} : evOr T (.cons x xs) = orF (ev T x) (evOr T xs) := by
  funext env
  show (asT (fun e => ev T x e) env >>= fun p => _) = _
  unfold orF
  generalize asT (ev T x) env = m
  cases m <;> rfl
theorem cons_evs {x : Ex} {xs : Exs} : evs T (.cons x xs) = consL (ev T x) (evs T xs) := by
  funext env
  show (ev T x env >>= fun p => _) = _
  unfold consL
  generalize ev T x env = m
  cases m with
  | error y => rfl
  | ok p =>
    show (evs T xs p.2 >>= fun q => _) = (evs T xs p.2 >>= fun q => _)
    generalize evs T xs p.2 = m
    cases m <;> rfl
theorem cons_arg {x : Ex} {xs : Exs} {io : List Bool} : (fun env => evA T (.cons x xs) io env) = (match io.headD false, x.isVar with
    | true, some i => consS i fun env => evA T xs io.tail env
    | true, none => fun _ => stk
    | false, _ => consD (ev T x) fun env => evA T xs io.tail env) := by
  funext env
  show (match io.headD false, x.isVar with
    | true, some i => _
    | true, none => _
    | false, _ => _) = _
  cases io.headD false with
  | true =>
    cases x.isVar with
    | none => rfl
    | some i =>
      show (match env[i]? with
        | some (some (.o _)) => _
        | _ => _) = consS i (fun env => evA T xs io.tail env) env
      unfold consS
      cases env[i]? with
      | none => rfl
      | some o =>
        cases o with
        | none => rfl
        | some v =>
          cases v with
          | d y => rfl
          | o y =>
            show (evA T xs io.tail env >>= fun q => _) = (evA T xs io.tail env >>= fun q => _)
            generalize evA T xs io.tail env = m
            cases m <;> rfl
  | false =>
    show (ev T x env >>= fun p => _) = consD (ev T x) (fun env => evA T xs io.tail env) env
    unfold consD
    generalize ev T x env = m
    cases m with
    | error y => rfl
    | ok p =>
      show (evA T xs io.tail p.2 >>= fun q => _) = (evA T xs io.tail p.2 >>= fun q => _)
      generalize evA T xs io.tail p.2 = m
      cases m <;> rfl
theorem var_at {x : Ex} {i : Nat} {e : Expr} (hx : x.isVar = some i) (A : Amb M T k X W) (hs : X.env.scope = sc) (h : mE M sc x e = true) : PE X e (tVar i) := by
  cases x <;> first | (cases hx; done) | skip
  cases hx
  cases e with
  | Name y p =>
    obtain ⟨h1, h2, h3, h4⟩ := sl_of A hs h
    exact pe_var h1 h2 h3 h4
  | _ => exact nof h rfl
theorem fits_cons {x : Ex} {xs : Exs} (hx : FX M T k x) (hxs : Fits M T k xs) : Fits M T k (.cons x xs) where
  all := fun X W sc es A hs h hn => by
    cases es with
    | nil => exact nof h rfl
    | cons e es =>
      obtain ⟨h1, h2⟩ := ba2 (show (mE M sc x e && mEs M sc xs es) = true from h)
      rw [List.all_cons, Bool.and_eq_true] at hn
      rw [cons_evs]
      exact a_cons (hx X W sc e A hs h1).val (hxs.all X W sc es A hs h2 hn.2) (star_cons hn.1)
  spl := fun X W sc es A hs h => by
    cases es with
    | nil => exact nof h rfl
    | cons e es =>
      obtain ⟨h, h3⟩ := ba2 (show (nst e && mE M sc x e && mSs M sc xs es) = true from h)
      obtain ⟨h1, h2⟩ := ba2 h
      rw [cons_evs]
      exact a_cons (hx X W sc e A hs h2).val (hxs.spl X W sc es A hs h3) (star_cons h1)
  andV := fun X W sc es p A hs h _ => by
    cases es with
    | nil => exact nof h rfl
    | cons e es =>
      obtain ⟨h1, h2⟩ := ba2 (show (mE M sc x e && mEs M sc xs es) = true from h)
      rw [cons_and]
      cases es with
      | nil =>
        cases xs with
        | nil => exact s_and1 (hx X W sc e A hs h1).val
        | cons y ys => exact nof h2 rfl
        | star y ys => exact nof h2 rfl
      | cons e' es' => exact s_and (hx X W sc e A hs h1).val (hxs.andV X W sc _ p A hs h2 (by simp))
  andT := fun X W sc es p A hs h ht _ => by
    obtain ⟨t1, t2⟩ := ba2 (show (tsB x && tsL xs) = true from ht)
    cases es with
    | nil => exact nof h rfl
    | cons e es =>
      obtain ⟨h1, h2⟩ := ba2 (show (mE M sc x e && mEs M sc xs es) = true from h)
      rw [cons_and]
      cases es with
      | nil =>
        cases xs with
        | nil => exact w_and1 ((hx X W sc e A hs h1).tst t1)
        | cons y ys => exact nof h2 rfl
        | star y ys => exact nof h2 rfl
      | cons e' es' => exact w_and ((hx X W sc e A hs h1).tst t1) (hxs.andT X W sc _ p A hs h2 t2 (by simp))
  orV := fun X W sc es p A hs h _ => by
    cases es with
    | nil => exact nof h rfl
    | cons e es =>
      obtain ⟨h1, h2⟩ := ba2 (show (mE M sc x e && mEs M sc xs es) = true from h)
      rw [cons_or]
      cases es with
      | nil =>
        cases xs with
        | nil => exact s_or1 (hx X W sc e A hs h1).val
        | cons y ys => exact nof h2 rfl
        | star y ys => exact nof h2 rfl
      | cons e' es' => exact s_or (hx X W sc e A hs h1).val (hxs.orV X W sc _ p A hs h2 (by simp))
  orT := fun X W sc es p A hs h ht _ => by
    obtain ⟨t1, t2⟩ := ba2 (show (tsB x && tsL xs) = true from ht)
    cases es with
    | nil => exact nof h rfl
    | cons e es =>
      obtain ⟨h1, h2⟩ := ba2 (show (mE M sc x e && mEs M sc xs es) = true from h)
      rw [cons_or]
      cases es with
      | nil =>
        cases xs with
        | nil => exact w_or1 ((hx X W sc e A hs h1).tst t1)
        | cons y ys => exact nof h2 rfl
        | star y ys => exact nof h2 rfl
      | cons e' es' => exact w_or ((hx X W sc e A hs h1).tst t1) (hxs.orT X W sc _ p A hs h2 t2 (by simp))
  one := fun X W sc es A hs h => by
    cases xs with
    | cons y ys => cases es with
      | nil => exact nof h rfl
      | cons e es => cases es <;> exact nof h rfl
    | star y ys => cases es with
      | nil => exact nof h rfl
      | cons e es => cases es <;> exact nof h rfl
    | nil =>
      match es, h with
      | [], h => exact nof h rfl
      | [e], h =>
        obtain ⟨t1, h1⟩ := ba2 (show (tsB x && mE M sc x e) = true from h)
        rw [cons_and]
        have f := (hx X W sc e A hs h1).tst t1
        refine ⟨fun pins s σ H Q I q => (pts_one f).run pins s σ H Q I ?_⟩
        obtain ⟨F, env, G, po⟩ := q
        refine ⟨F, env, G, po.mapF ?_⟩
        show (asT (ev T x) env >>= fun p => if p.1 then yesF p.2 else .ok (false, p.2)) = asT (ev T x) env
        generalize asT (ev T x) env = m
        cases m with
        | error y => rfl
        | ok p =>
          obtain ⟨b, e⟩ := p
          cases b <;> rfl
      | _ :: _ :: _, h => exact nof h rfl
  dsp := fun X W sc p ks keys vals A hs h => by
    have : ∃ k' ks' y j p' keys' e es, ks = k' :: ks' ∧ keys = some (.Constant (.str y) j p') :: keys' ∧ vals = e :: es ∧ (decide (k' = y) && mE M sc x e && mD M sc xs ks' keys' es) = true := by
      unfold mD at h
      split at h
      all_goals first | (exact nof h rfl) | skip
      · rename_i heq
        cases heq
      · rename_i heq
        cases heq
        exact ⟨_, _, _, _, _, _, _, _, rfl, rfl, rfl, h⟩
    obtain ⟨k', ks', y, j, p', keys', e, es, rfl, rfl, rfl, h⟩ := this
    obtain ⟨h, h3⟩ := ba2 h
    obtain ⟨h1, h2⟩ := ba2 h
    have h1 := of_decide_eq_true h1
    subst h1
    rw [cons_evs]
    exact dsp_cons (hx X W sc e A hs h2).val (hxs.dsp X W sc p ks' keys' es A hs h3)
  arg := fun X W sc io es A hs h hn => by
    cases es with
    | nil => exact nof h rfl
    | cons e es =>
      obtain ⟨h1, h2⟩ := ba2 (show (mE M sc x e && mA M sc xs io.tail es) = true from h)
      rw [List.all_cons, Bool.and_eq_true] at hn
      rw [cons_arg]
      have r := hxs.arg X W sc io.tail es A hs h2 hn.2
      cases io.headD false with
      | false => exact aa_consD (hx X W sc e A hs h1).val r hn.1
      | true =>
        cases hv : x.isVar with
        | some i => exact aa_consS (var_at hv A hs h1) r hn.1
        | none => exact ⟨fun pos pins s σ H Q I ⟨F, env, G, po⟩ => po.elim⟩
  kwa := fun X W sc io kws A hs h => by
    cases kws with
    | nil => exact nof h rfl
    | cons kw kws =>
      obtain ⟨nm, e, kp⟩ := kw
      obtain ⟨h1, h2⟩ := ba2 (show (mE M sc x e && mK M sc xs io.tail kws) = true from h)
      rw [cons_arg]
      have r := hxs.kwa X W sc io.tail kws A hs h2
      cases io.headD false with
      | false => exact ak_consD (hx X W sc e A hs h1).val r
      | true =>
        cases hv : x.isVar with
        | some i => exact ak_consS (var_at hv A hs h1) r
        | none => exact ⟨fun pos pins s σ H Q I ⟨F, env, G, po⟩ => po.elim⟩
theorem fits_star {x : Ex} {xs : Exs} (hx : FX M T k x) (hxs : Fits M T k xs) : Fits M T k (.star x xs) where
  all := fun X W sc es A hs h _ => by cases es <;> exact nof h rfl
  spl := fun X W sc es A hs h => by
    cases es with
    | nil => exact nof h rfl
    | cons e es =>
      cases e with
      | Starred e p =>
        obtain ⟨h1, h2⟩ := ba2 (show (mE M sc x e && mSs M sc xs es) = true from h)
        have e1 : evs T (.star x xs) = starF (ev T x) (evs T xs) := by
          funext env
          show (ev T x env >>= fun p => _) = _
          unfold starF
          generalize ev T x env = m
          cases m <;> rfl
        rw [e1]
        exact a_star (hx X W sc e A hs h1).val (hxs.spl X W sc es A hs h2)
      | _ => exact nof h rfl
  andV := fun X W sc es p A hs h _ => by cases es <;> exact nof h rfl
  andT := fun X W sc es p A hs h _ _ => by cases es <;> exact nof h rfl
  orV := fun X W sc es p A hs h _ => by cases es <;> exact nof h rfl
  orT := fun X W sc es p A hs h _ _ => by cases es <;> exact nof h rfl
  one := fun X W sc es A hs h => by cases es <;> exact nof h rfl
  dsp := fun X W sc p ks keys vals A hs h => nof h rfl
  arg := fun X W sc io es A hs h _ => by
    cases es <;> exact nof h rfl
  kwa := fun X W sc io kws A hs h => by
    cases kws <;> exact nof h rfl
end
end Qv

set_option maxRecDepth 100000
set_option maxHeartbeats 1000000
/-! Q17: the rest of the expressions; all of them. -/
namespace Qv
open PySem PySem.Spec PyProof.Rows L2
section
variable {M : Mc} {T : Tb} {k : Nat} {X : Cx} {W : WX} {sc : Scope}
theorem fx_tup {es : Exs} (h1 : Fits M T k es) : FX M T k (.tup es) := by
  intro X W sc e A hs h
  cases e with
  | Tuple l j p =>
    have v : PE X (.Tuple l j p) (tE X.K W (ev T (.tup es))) := s_tup (h1.spl X W sc l A hs h)
    exact Fit.of v rfl rfl
  | _ => exact nof h rfl
theorem fx_lst {es : Exs} (h1 : Fits M T k es) : FX M T k (.lst es) := by
  intro X W sc e A hs h
  cases e with
  | List l p =>
    have v : PE X (.List l p) (tE X.K W (ev T (.lst es))) := s_lst (h1.spl X W sc l A hs h)
    exact Fit.of v rfl rfl
  | _ => exact nof h rfl
theorem evs_len : ∀ {es : Exs} {env e : Evn} {as : List PyData}, noStar es = true → evs T es env = .ok (as, e) → as.length = exsLen es
  | .nil, _, _, _, _, h => by cases ok_in h; rfl
  | .star _ _, _, _, _, hn, _ => nomatch hn
  | .cons x xs, env, e, as, hn, h => by
    obtain ⟨p, h1, h⟩ := bindR (show (ev T x env >>= fun p => evs T xs p.2 >>= fun q => .ok (p.1.x :: q.1, q.2)) = .ok (as, e) from h)
    obtain ⟨q, h2, h⟩ := bindR h
    cases ok_in h
    exact congrArg Nat.succ (evs_len hn h2)
theorem evA_len : ∀ {es : Exs} {io : List Bool} {env e : Evn} {as : List Arg'}, evA T es io env = .ok (as, e) → as.length = exsLen es
  | .nil, _, _, _, _, h => by cases ok_in h; rfl
  | .star _ _, _, _, _, _, h => (not_stk h).elim
  | .cons x xs, io, env, e, as, h => by
    have h := (congrFun (cons_arg (T := T) (x := x) (xs := xs) (io := io)) env).symm.trans h
    cases hio : io.headD false with
    | true =>
      rw [hio] at h
      cases hv : x.isVar with
      | none => rw [hv] at h; exact (not_stk h).elim
      | some i =>
        rw [hv] at h
        simp only [consS] at h
        split at h
        · obtain ⟨q, h2, h⟩ := bindR h
          cases ok_in h
          exact congrArg Nat.succ (evA_len h2)
        · exact (not_stk h).elim
    | false =>
      rw [hio] at h
      obtain ⟨p, h1, h⟩ := bindR (show (ev T x env >>= fun p => evA T xs io.tail p.2 >>= fun q => .ok (.dt p.1.x :: q.1, q.2)) = .ok (as, e) from h)
      obtain ⟨q, h2, h⟩ := bindR h
      cases ok_in h
      exact congrArg Nat.succ (evA_len h2)
theorem fx_dct {ks : List Str} {es : Exs} (h1 : Fits M T k es) : FX M T k (.dct ks es) := by
  intro X W sc e A hs h
  cases e with
  | Dict keys vals p =>
    have h : (decide (keys.length = vals.length) && decide (keys.length ≤ 15) && decide (ks.length ≤ 15) && !keys.isEmpty && decide ks.Nodup && (decide (exsLen es = ks.length) && noStar es) && keys.all (·.isSome) && mD M sc es ks keys vals) = true := h
    obtain ⟨h, h9⟩ := ba2 h
    obtain ⟨h, h8⟩ := ba2 h
    obtain ⟨h, h7⟩ := ba2 h
    obtain ⟨h, h6⟩ := ba2 h
    obtain ⟨h, h5⟩ := ba2 h
    obtain ⟨h, h4⟩ := ba2 h
    obtain ⟨h2, h3⟩ := ba2 h
    have e : ev T (.dct ks es) = dctF ks (evs T es) := by
      funext env
      show (evs T es env >>= fun p => _) = _
      unfold dctF
      generalize evs T es env = m
      cases m <;> rfl
    have v : PE X (.Dict keys vals p) (tE X.K W (ev T (.dct ks es))) := by
      rw [e]
      exact s_dct (h1.dsp X W sc p ks keys vals A hs h9) h8 (of_decide_eq_true h2) (by simpa using h5) (of_decide_eq_true h3) (of_decide_eq_true h4) (of_decide_eq_true h6) fun env as e' h => (evs_len (ba2 h7).2 h).trans (of_decide_eq_true (ba2 h7).1)
    exact Fit.of v rfl rfl
  | _ => exact nof h rfl
theorem ne_of_emp {α : Type} {l : List α} (h : (!l.isEmpty) = true) : l ≠ [] := by
  intro e
  rw [e] at h
  cases h
theorem ev_and {es : Exs} : ev T (.and es) = fromT (evAnd T es) := by
  funext env
  show (evAnd T es env >>= fun p => _) = _
  unfold fromT
  generalize evAnd T es env = m
  cases m <;> rfl
theorem ev_or {es : Exs} : ev T (.or es) = fromT (evOr T es) := by
  funext env
  show (evOr T es env >>= fun p => _) = _
  unfold fromT
  generalize evOr T es env = m
  cases m <;> rfl
theorem fx_and {es : Exs} (h1 : Fits M T k es) : FX M T k (.and es) := by
  intro X W sc e A hs h
  cases e with
  | BoolOp o l p =>
    cases o with
    | And =>
      obtain ⟨h, h4⟩ := ba2 (show (!l.isEmpty && tsL es && mEs M sc es l) = true from h)
      obtain ⟨h2, h3⟩ := ba2 h
      have v : PE X (.BoolOp .And l p) (tE X.K W (ev T (.and es))) := by rw [ev_and]; exact h1.andV X W sc l p A hs h4 (ne_of_emp h2)
      refine ⟨v, o_any v, fun _ => ?_⟩
      rw [ev_and, asT_from]
      exact pt_pw (h1.andT X W sc l p A hs h4 h3 (ne_of_emp h2))
    | Or => exact nof h rfl
  | _ => exact nof h rfl
theorem fx_or {es : Exs} (h1 : Fits M T k es) : FX M T k (.or es) := by
  intro X W sc e A hs h
  cases e with
  | BoolOp o l p =>
    cases o with
    | Or =>
      obtain ⟨h, h4⟩ := ba2 (show (!l.isEmpty && tsL es && mEs M sc es l) = true from h)
      obtain ⟨h2, h3⟩ := ba2 h
      have v : PE X (.BoolOp .Or l p) (tE X.K W (ev T (.or es))) := by rw [ev_or]; exact h1.orV X W sc l p A hs h4 (ne_of_emp h2)
      refine ⟨v, o_any v, fun _ => ?_⟩
      rw [ev_or, asT_from]
      exact pt_pw (h1.orT X W sc l p A hs h4 h3 (ne_of_emp h2))
    | And => exact nof h rfl
  | _ => exact nof h rfl
theorem fx_meth {m : Mth} {a : Ex} {es : Exs} (ha : FX M T k a) (hes : Fits M T k es) : FX M T k (.meth m a es) := by
  intro X W sc e A hs h
  have : ∃ l n p r q, e = .Call (.Attribute l n p) r [] q ∧ (decide (n = mName m) && mthOk m && baseOk l && decide (p.endLine = q.line) && r.all nst && decide (r.length < 30) && !r.isEmpty && mE M sc a l && mEs M sc es r) = true := by
    unfold mE at h
    split at h
    all_goals first | (exact nof h rfl) | skip
    all_goals first | contradiction | skip
    all_goals rename_i heq
    all_goals first | (cases heq; exact ⟨_, _, _, _, _, rfl, h⟩) | cases heq
  obtain ⟨l, n, p, r, q, rfl, h⟩ := this
  obtain ⟨h, h9⟩ := ba2 h
  obtain ⟨h, h8⟩ := ba2 h
  obtain ⟨h, h7⟩ := ba2 h
  obtain ⟨h, h6⟩ := ba2 h
  obtain ⟨h, h5⟩ := ba2 h
  obtain ⟨h, h4⟩ := ba2 h
  obtain ⟨h, h3⟩ := ba2 h
  obtain ⟨h1, h2⟩ := ba2 h
  have h1 := of_decide_eq_true h1
  subst h1
  have e : ev T (.meth m a es) = fun env => opd a.isVar (ev T a) env >>= fun p => der p.2 p.1 >>= fun x0 => grd (mOk m x0) () >>= fun _ => evs T es p.2 >>= fun q => fin1 mkV (fun x => if sameTy x0 x then methD m x q.1 else stk) p.1 q.2 := by
    funext env
    show (opd a.isVar (ev T a) env >>= fun p => _) = _
    generalize opd a.isVar (ev T a) env = m
    cases m <;> rfl
  have v : PE X (.Call (.Attribute l (mName m) p) r [] q) (tE X.K W (ev T (.meth m a es))) := by
    rw [e]
    exact s_mth A.rc (ha X W sc l A hs h8).opd (hes.all X W sc r A hs h9 h5) h3 h5 (of_decide_eq_true h6) (ne_of_emp h7) (by rw [beq_iff_eq]; exact of_decide_eq_true h4)
  exact Fit.of v rfl rfl
theorem fx_call {f : Str} {es kes : Exs} {ks : List Str} (hes : Fits M T k es) (hks : Fits M T k kes) : FX M T k (.call f es ks kes) := by
  intro X W sc e A hs h
  have : ∃ x px l kws p, e = .Call (.Name x px) l kws p ∧ (decide (f = x) && glB sc x && l.all nst && kwB kws && decide (kwN kws = ks) && decide ((f, exsLen es, ks) ∈ M.sh) && (match M.sg.lookup f with
    | some (ps, io) => mA M sc es (ps.map fun p => ((ps.zip io).lookup p).getD false) l && mK M sc kes (ks.map fun p => ((ps.zip io).lookup p).getD false) kws
    | none => false)) = true := by
    unfold mE at h
    split at h
    all_goals first | (exact nof h rfl) | skip
    all_goals first | contradiction | skip
    all_goals rename_i heq
    all_goals first | (cases heq; exact ⟨_, _, _, _, _, rfl, h⟩) | cases heq
  obtain ⟨x, px, l, kws, p, rfl, h⟩ := this
  obtain ⟨h, h7⟩ := ba2 h
  obtain ⟨h, h6⟩ := ba2 h
  obtain ⟨h, h5⟩ := ba2 h
  obtain ⟨h, h4⟩ := ba2 h
  obtain ⟨h, h3⟩ := ba2 h
  obtain ⟨h1, h2⟩ := ba2 h
  have h1 := of_decide_eq_true h1
  subst h1
  have h5 := of_decide_eq_true h5
  have h6 := of_decide_eq_true h6
  have v : PE X (.Call (.Name f px) l kws p) (tE X.K W (ev T (.call f es ks kes))) := by
    cases hT : T.lookup f with
    | none =>
      refine ⟨fun pins s σ H Q I ⟨F, env, G, po⟩ => ?_⟩
      have e : ev T (.call f es ks kes) env = stk := by
        show (match T.lookup f with
          | none => stk
          | some fd => _) = _
        rw [hT]
      have po := PoK.of po
      rw [e] at po
      exact po.elim
    | some fd =>
      obtain ⟨g1, fa, dt, Fg, hb⟩ := A.fs f fd hT
      rw [g1] at h7
      obtain ⟨h8, h9⟩ := ba2 h7
      have e : ev T (.call f es ks kes) = callE fd ks (fun env => evA T es (ioOf fd fd.ps) env) (fun env => evA T kes (ioOf fd ks) env) := by
        funext env
        show (match T.lookup f with
          | none => stk
          | some fd => _) = _
        rw [hT]
        show (evA T es (ioOf fd fd.ps) env >>= fun p => _) = _
        unfold callE
        dsimp only
      rw [e]
      have hlen : ∀ {xs : Exs} {io : List Bool} {l : List Expr}, mA M sc xs io l = true → exsLen xs = l.length := by
        intro xs io l
        induction l generalizing xs io with
        | nil => intro h; cases xs <;> first | rfl | exact nof h rfl
        | cons a r ih =>
          intro h
          cases xs with
          | nil => exact nof h rfl
          | cons x xs => exact congrArg Nat.succ (ih (ba2 (show (mE M sc x a && mA M sc xs io.tail r) = true from h)).2)
          | star x xs => exact nof h rfl
      have klen : ∀ {xs : Exs} {io : List Bool} {kws : List Keyword}, mK M sc xs io kws = true → exsLen xs = kws.length := by
        intro xs io kws
        induction kws generalizing xs io with
        | nil => intro h; cases xs <;> first | rfl | exact nof h rfl
        | cons a r ih =>
          intro h
          obtain ⟨nm, e, kp⟩ := a
          cases xs with
          | nil => exact nof h rfl
          | cons x xs => exact congrArg Nat.succ (ih (ba2 (show (mE M sc x e && mK M sc xs io.tail r) = true from h)).2)
          | star x xs => exact nof h rfl
      have kwl : ∀ {kws : List Keyword}, kwB kws = true → (kwN kws).length = kws.length := by
        intro kws
        induction kws with
        | nil => intro _; rfl
        | cons a r ih =>
          intro h
          obtain ⟨nm, e, kp⟩ := a
          cases nm with
          | none => exact nof h rfl
          | some n => exact congrArg Nat.succ (ih h)
      obtain ⟨q1, q2⟩ := gl_of hs h2
      have l1 := hlen h8
      refine s_call Fg A.room A.gd (by rw [← l1]; exact hb _ _ h6) (passAt A.tk) q1 q2 (hes.arg X W sc _ l A hs h8 h3) (hks.kwa X W sc _ kws A hs h9) h3 h4 h5 (fun e env => ?_) (fun env as e h => (evA_len h).trans l1) (fun env as e h => ?_)
      · subst e
        cases es with
        | nil => rfl
        | cons x xs => cases l1
        | star x xs => cases l1
      · rw [evA_len h, klen h9, ← h5, kwl h4]
  exact Fit.of v rfl rfl

theorem fx_pop {i : Nat} {a : Ex} (ha : FX M T k a) : FX M T k (.pop i a) := by
  intro X W sc e A hs h
  have : ∃ x px n p v q, e = .Call (.Attribute (.Name x px) n p) [v] [] q ∧ (slB M.N sc i x && decide (n = ("pop" : Str)) && decide (p.endLine = q.line) && nst v && mE M sc a v) = true := by
    unfold mE at h
    split at h
    all_goals first | (exact nof h rfl) | skip
    all_goals first | contradiction | skip
    all_goals rename_i heq
    all_goals first | (cases heq; exact ⟨_, _, _, _, _, _, rfl, h⟩) | cases heq
  obtain ⟨x, px, n, p, v, q, rfl, h⟩ := this
  obtain ⟨h, h5⟩ := ba2 h
  obtain ⟨h, h4⟩ := ba2 h
  obtain ⟨h, h3⟩ := ba2 h
  obtain ⟨h1, h2⟩ := ba2 h
  have h2 := of_decide_eq_true h2
  subst h2
  obtain ⟨q1, q2, q3, q4⟩ := sl_of A hs h1
  have e1 : ev T (.pop i a) = popF i (ev T a) := by
    funext env
    show (match env[i]? with
      | some (some (.o (.list _))) => _
      | _ => stk) = popF i (ev T a) env
    unfold popF
    cases env[i]? with
    | none => rfl
    | some o =>
      cases o with
      | none => rfl
      | some w =>
        cases w with
        | d y => rfl
        | o y =>
          cases y <;> first
            | rfl
            | (show (ev T a env >>= fun p => _) = _
               generalize ev T a env = m
               cases m <;> rfl)
  have v : PE X (.Call (.Attribute (.Name x px) "pop" p) [v] [] q) (tE X.K W (ev T (.pop i a))) := by
    rw [e1]
    exact s_pop q1 q2 q3 q4 (ha X W sc v A hs h5).val h4 (by rw [beq_iff_eq]; exact of_decide_eq_true h3)
  exact Fit.of v rfl rfl
theorem fx_mm {mx : Bool} {a b : Ex} (ha : FX M T k a) (hb : FX M T k b) : FX M T k (.mm mx a b) := by
  intro X W sc e A hs h
  have : ∃ x px l r p, e = .Call (.Name x px) [l, r] [] p ∧ (bltB M sc (mmN mx) x && nst l && nst r && mE M sc a l && mE M sc b r) = true := by
    unfold mE at h
    split at h
    all_goals first | (exact nof h rfl) | skip
    all_goals first | contradiction | skip
    all_goals rename_i heq
    all_goals first | (cases heq; exact ⟨_, _, _, _, _, rfl, h⟩) | cases heq
  obtain ⟨x, px, l, r, p, rfl, h⟩ := this
  obtain ⟨h, h5⟩ := ba2 h
  obtain ⟨h, h4⟩ := ba2 h
  obtain ⟨h, h3⟩ := ba2 h
  obtain ⟨h1, h2⟩ := ba2 h
  obtain ⟨e1, g1, g2⟩ := blt_of A hs h1
  subst e1
  have e1 : ev T (.mm mx a b) = mmF mx (ev T a) (ev T b) := by
    funext env
    show (ev T a env >>= fun p => _) = _
    unfold mmF
    generalize ev T a env = m
    cases m with
    | error y => rfl
    | ok p =>
      show (ev T b p.2 >>= fun p => _) = (ev T b p.2 >>= fun p => _)
      generalize ev T b p.2 = m
      cases m <;> rfl
  have v : PE X (.Call (.Name (mmN mx) px) [l, r] [] p) (tE X.K W (ev T (.mm mx a b))) := by
    rw [e1]
    exact s_mm A.calm g1 g2 (ha X W sc l A hs h4).val (hb X W sc r A hs h5).val h2 h3
  exact Fit.of v rfl rfl
/-! ### iterators -/
def FI (M : Mc) (T : Tb) (k : Nat) (it : Itr) : Prop := ∀ (X : Cx) (W : WX) (sc : Scope) (tp : Bool) (tg e : Expr), Amb M T k X W → X.env.scope = sc → mI M sc tp it e = true → (tp = true → ∃ es j p, tg = .Tuple es j p) → PI X tg e (tI X.K W tp (evI T it))
theorem fi_src {x : Ex} (hx : FX M T k x) : FI M T k (.src x) := by
  intro X W sc tp tg e A hs h ht
  have e1 : evI T (.src x) = srcF (ev T x) := by
    funext env
    show (ev T x env >>= fun p => _) = _
    unfold srcF
    generalize ev T x env = m
    cases m <;> rfl
  rw [e1]
  exact i_src (hx X W sc e A hs h).val
theorem fi_rng1 {a : Ex} (ha : FX M T k a) : FI M T k (.rng1 a) := by
  intro X W sc tp tg e A hs h ht
  have : ∃ f pf x p, e = .Call (.Name f pf) [x] [] p ∧ (bltB M sc "range" f && nst x && mE M sc a x) = true := by
    unfold mI at h
    split at h
    all_goals first | (exact nof h rfl) | skip
    all_goals first | contradiction | skip
    all_goals rename_i heq
    all_goals first | (cases heq; exact ⟨_, _, _, _, rfl, h⟩) | cases heq
  obtain ⟨f, pf, x, p, rfl, h⟩ := this
  obtain ⟨h, h3⟩ := ba2 h
  obtain ⟨h1, h2⟩ := ba2 h
  obtain ⟨e1, g1, g2⟩ := blt_of A hs h1
  subst e1
  have e1 : evI T (.rng1 a) = rng1F (ev T a) := by
    funext env
    show (ev T a env >>= fun p => _) = _
    unfold rng1F
    generalize ev T a env = m
    cases m <;> rfl
  rw [e1]
  exact i_rng1 g1 g2 (ha X W sc x A hs h3).val h2
theorem fi_rng2 {a b : Ex} (ha : FX M T k a) (hb : FX M T k b) : FI M T k (.rng2 a b) := by
  intro X W sc tp tg e A hs h ht
  have : ∃ f pf x y p, e = .Call (.Name f pf) [x, y] [] p ∧ (bltB M sc "range" f && nst x && nst y && mE M sc a x && mE M sc b y) = true := by
    unfold mI at h
    split at h
    all_goals first | (exact nof h rfl) | skip
    all_goals first | contradiction | skip
    all_goals rename_i heq
    all_goals first | (cases heq; exact ⟨_, _, _, _, _, rfl, h⟩) | cases heq
  obtain ⟨f, pf, x, y, p, rfl, h⟩ := this
  obtain ⟨h, h5⟩ := ba2 h
  obtain ⟨h, h4⟩ := ba2 h
  obtain ⟨h, h3⟩ := ba2 h
  obtain ⟨h1, h2⟩ := ba2 h
  obtain ⟨e1, g1, g2⟩ := blt_of A hs h1
  subst e1
  have e1 : evI T (.rng2 a b) = rng2F (ev T a) (ev T b) := by
    funext env
    show (ev T a env >>= fun p => _) = _
    unfold rng2F
    generalize ev T a env = m
    cases m with
    | error y => rfl
    | ok p =>
      show (ev T b p.2 >>= fun p => _) = (ev T b p.2 >>= fun p => _)
      generalize ev T b p.2 = m
      cases m <;> rfl
  rw [e1]
  exact i_rng2 g1 g2 (ha X W sc x A hs h4).val (hb X W sc y A hs h5).val h2 h3
theorem fi_enu {a : Ex} (ha : FX M T k a) : FI M T k (.enu a) := by
  intro X W sc tp tg e A hs h ht
  have : ∃ f pf x p, e = .Call (.Name f pf) [x] [] p ∧ (tp && bltB M sc "enumerate" f && nst x && mE M sc a x) = true := by
    unfold mI at h
    split at h
    all_goals first | (exact nof h rfl) | skip
    all_goals first | contradiction | skip
    all_goals rename_i heq
    all_goals first | (cases heq; exact ⟨_, _, _, _, rfl, h⟩) | cases heq
  obtain ⟨f, pf, x, p, rfl, h⟩ := this
  obtain ⟨h, h3⟩ := ba2 h
  obtain ⟨h, h2⟩ := ba2 h
  obtain ⟨h0, h1⟩ := ba2 h
  subst h0
  obtain ⟨ts, j, pt, rfl⟩ := ht rfl
  obtain ⟨e1, g1, g2⟩ := blt_of A hs h1
  subst e1
  have e1 : evI T (.enu a) = enuF (ev T a) := by
    funext env
    show (ev T a env >>= fun p => _) = _
    unfold enuF
    generalize ev T a env = m
    cases m <;> rfl
  rw [e1]
  exact i_enu g1 g2 (ha X W sc x A hs h3).val h2
theorem fi_zip {a b : Ex} (ha : FX M T k a) (hb : FX M T k b) : FI M T k (.zip a b) := by
  intro X W sc tp tg e A hs h ht
  have : ∃ f pf x y p, e = .Call (.Name f pf) [x, y] [] p ∧ (tp && bltB M sc "zip" f && nst x && nst y && mE M sc a x && mE M sc b y) = true := by
    unfold mI at h
    split at h
    all_goals first | (exact nof h rfl) | skip
    all_goals first | contradiction | skip
    all_goals rename_i heq
    all_goals first | (cases heq; exact ⟨_, _, _, _, _, rfl, h⟩) | cases heq
  obtain ⟨f, pf, x, y, p, rfl, h⟩ := this
  obtain ⟨h, h5⟩ := ba2 h
  obtain ⟨h, h4⟩ := ba2 h
  obtain ⟨h, h3⟩ := ba2 h
  obtain ⟨h, h2⟩ := ba2 h
  obtain ⟨h0, h1⟩ := ba2 h
  subst h0
  obtain ⟨ts, j, pt, rfl⟩ := ht rfl
  obtain ⟨e1, g1, g2⟩ := blt_of A hs h1
  subst e1
  have e1 : evI T (.zip a b) = zipF (ev T a) (ev T b) := by
    funext env
    show (ev T a env >>= fun p => _) = _
    unfold zipF
    generalize ev T a env = m
    cases m with
    | error y => rfl
    | ok p =>
      show (ev T b p.2 >>= fun p => _) = (ev T b p.2 >>= fun p => _)
      generalize ev T b p.2 = m
      cases m <;> rfl
  rw [e1]
  exact i_zip g1 g2 (ha X W sc x A hs h4).val (hb X W sc y A hs h5).val h2 h3
/-! ### comprehensions -/
theorem comp_eq {g : Comprehension} (h : compB g = true) : g = ⟨g.target, g.iter, g.ifs, 0⟩ ∧ plE g.iter = true := by
  obtain ⟨t, i, fs, a⟩ := g
  obtain ⟨h1, h2⟩ := ba2 (show (decide (a = 0) && plE i) = true from h)
  have h1 := of_decide_eq_true h1
  subst h1
  exact ⟨rfl, h2⟩
theorem fold_it {e : Expr} {env : Env} (h : plE e = true) (x : Value) : foldedSetIterable e env x = pure x := by
  cases e <;> first | rfl | exact nof h rfl
theorem own_ix {N : List Str} {vs : List Nat} : (ownOf N vs).map (·.2) = vs := by
  unfold ownOf
  rw [List.map_map]
  exact List.map_id'' (fun _ => rfl) vs
theorem loc_of {scope : Scope} {x : Str} (h : locB scope x = true) : (scope.names.lookup x = some .local ∨ scope.names.lookup x = some .cell) := by
  unfold locB at h
  split at h
  · rename_i e; exact .inl e
  · rename_i e; exact .inr e
  · cases h
/-- where a block's own names are stored -/
theorem pg_nms {X : Cx} (hN : X.N.Nodup) (sto : ∀ x, locB sc x = true → Loc X.env.scope x ∧ (X.fn x = true ∨ X.env.scope.names.lookup x = some .local)) : ∀ {is : List Nat} {ts : List Expr}, nmB X.N sc is ts = true → PGs X ts (gNms is) ∧ is.length = ts.length ∧ (assignEach ts X.env).findIdx? (·.1) = none ∧ (assignEach ts X.env).length = ts.length
  | [], [], _ => ⟨pgs_nil, rfl, rfl, rfl⟩
  | [], _ :: _, h => nof h (by simp [nmB])
  | _ :: _, [], h => nof h (by simp [nmB])
  | i :: is, t :: ts, h => by
    cases t with
    | Name x p =>
      obtain ⟨h, h3⟩ := ba2 (show (decide (X.N[i]? = some x) && locB sc x && nmB X.N sc is ts) = true from h)
      obtain ⟨h1, h2⟩ := ba2 h
      obtain ⟨q1, q2⟩ := sto x h2
      obtain ⟨g1, g2, g3, g4⟩ := pg_nms hN sto h3
      refine ⟨pgs_cons (pg_name hN (of_decide_eq_true h1) q1 q2) g1 rfl, congrArg Nat.succ g2, ?_, congrArg Nat.succ g4⟩
      show List.findIdx? (·.1) ((false, assign (.Name x p) X.env) :: assignEach ts X.env) = none
      rw [List.findIdx?_cons]
      simp [g3]
    | _ => exact nof h rfl
theorem pg_tg {X : Cx} (hN : X.N.Nodup) (hc : X.calm = true) (sto : ∀ x, locB sc x = true → Loc X.env.scope x ∧ (X.fn x = true ∨ X.env.scope.names.lookup x = some .local)) {tg : Tg} {t : Expr} (h : tgB X.N sc tg t = true) : PG X t (gT X.K tg) := by
  cases tg with
  | nm i =>
    cases t with
    | Name x p =>
      obtain ⟨h1, h2⟩ := ba2 (show (decide (X.N[i]? = some x) && locB sc x) = true from h)
      obtain ⟨q1, q2⟩ := sto x h2
      exact pg_name hN (of_decide_eq_true h1) q1 q2
    | _ => exact nof h rfl
  | tp is =>
    cases t with
    | Tuple ts j p =>
      obtain ⟨g1, g2, g3, g4⟩ := pg_nms hN sto (show nmB X.N sc is ts = true from h)
      exact pg_tup hc g1 (g4.trans g2.symm) g3
    | _ => exact nof h rfl
theorem sto_blk {scope : Scope} (s : Shared) (H : Hp) (C : Addr) (cl : List (Str × Addr)) (fp : List Addr) : ∀ x, locB scope x = true → Loc (X.blk s H scope (compEnvC scope cl C X.env) fp).env.scope x ∧ ((X.blk s H scope (compEnvC scope cl C X.env) fp).fn x = true ∨ (X.blk s H scope (compEnvC scope cl C X.env) fp).env.scope.names.lookup x = some .local) := by
  intro x h
  rcases loc_of h with h | h
  · have e : (relS scope X.env.scope).names.lookup x = some .local := lookup_relS_keep (by decide) h
    exact ⟨.inl e, .inr e⟩
  · have e : (relS scope X.env.scope).names.lookup x = some .cell := lookup_relS_keep (by decide) h
    refine ⟨.inr e, .inl ?_⟩
    show (scope.names.lookup x == some .cell) = true
    rw [h]
    rfl
theorem tp_tg {N : List Str} {tg : Tg} {t : Expr} (h : tgB N sc tg t = true) : (tpOf tg = false ∨ ∃ is, tg = .tp is) ∧ (tpOf tg = true → ∃ es j p, t = .Tuple es j p) := by
  cases tg with
  | nm i => exact ⟨.inl rfl, fun h => nof h rfl⟩
  | tp is =>
    refine ⟨.inr ⟨is, rfl⟩, fun _ => ?_⟩
    cases t with
    | Tuple ts j p => exact ⟨ts, j, p, rfl⟩
    | _ => exact nof h rfl
theorem all_in {a b : List Nat} (h : a.all (fun i => b.contains i) = true) : ∀ i ∈ a, i ∈ b := fun i hi => by
  have := List.all_eq_true.mp h i hi
  simpa using this
theorem ev_lc {vs : List Nat} {elt : Ex} {tg : Tg} {it : Itr} {ifs : Exs} : ev T (.lc vs elt tg it ifs) = lcF vs (ev T elt) tg (evI T it) (evAnd T ifs) := by
  funext env
  show (evI T it env >>= fun p => _) = _
  unfold lcF
  generalize evI T it env = m
  cases m with
  | error y => rfl
  | ok p =>
    show (quiet (lcLoop vs (ev T elt) tg (evAnd T ifs) p.1 [] (wipeE p.2 vs)) >>= fun q => _) = (quiet (lcLoop vs (ev T elt) tg (evAnd T ifs) p.1 [] (wipeE p.2 vs)) >>= fun q => _)
    generalize quiet (lcLoop vs (ev T elt) tg (evAnd T ifs) p.1 [] (wipeE p.2 vs)) = m
    cases m <;> rfl
theorem ev_lc2 {vs vs1 : List Nat} {elt : Ex} {tg tg1 : Tg} {it it1 : Itr} {ifs ifs1 : Exs} : ev T (.lc2 vs vs1 elt tg it ifs tg1 it1 ifs1) = lc2F vs vs1 (ev T elt) tg (evI T it) (evAnd T ifs) tg1 (evI T it1) (evAnd T ifs1) := by
  funext env
  show (evI T it env >>= fun p => _) = _
  unfold lc2F
  generalize evI T it env = m
  cases m with
  | error y => rfl
  | ok p =>
    show (quiet (lc2Loop vs vs1 (ev T elt) tg (evAnd T ifs) (evI T it1) tg1 (evAnd T ifs1) p.1 [] (wipeE p.2 vs)) >>= fun q => _) = (quiet (lc2Loop vs vs1 (ev T elt) tg (evAnd T ifs) (evI T it1) tg1 (evAnd T ifs1) p.1 [] (wipeE p.2 vs)) >>= fun q => _)
    generalize quiet (lc2Loop vs vs1 (ev T elt) tg (evAnd T ifs) (evI T it1) tg1 (evAnd T ifs1) p.1 [] (wipeE p.2 vs)) = m
    cases m <;> rfl
/-- what a comprehension's parts fit gives -/
theorem lc_inv {vs : List Nat} {elt : Ex} {tg : Tg} {it : Itr} {ifs : Exs} {e : Expr} (h : mE M sc (.lc vs elt tg it ifs) e = true) : ∃ el t i fs scope p, e = .ListComp el [⟨t, i, fs, 0⟩] scope p ∧ plE i = true ∧ blkC M.N sc scope (ownOf M.N vs) = true ∧ tgB M.N scope tg t = true ∧ (∀ i ∈ tg.sl, i ∈ vs) ∧ mI M sc (tpOf tg) it i = true ∧ mI1 M (relS scope sc) ifs fs = true ∧ mE M (relS scope sc) elt el = true := by
  have : ∃ el g scope p, e = .ListComp el [g] scope p ∧ (compB g && blkC M.N sc scope (ownOf M.N vs) && tgB M.N scope tg g.target && tg.sl.all (fun i => vs.contains i) && mI M sc (tpOf tg) it g.iter && mI1 M (relS scope sc) ifs g.ifs && mE M (relS scope sc) elt el) = true := by
    unfold mE at h
    split at h
    all_goals first | (exact nof h rfl) | skip
    all_goals first | contradiction | skip
    all_goals rename_i heq
    all_goals first | (cases heq; exact ⟨_, _, _, _, rfl, h⟩) | cases heq
  obtain ⟨el, g, scope, p, rfl, h⟩ := this
  obtain ⟨h, h7⟩ := ba2 h
  obtain ⟨h, h6⟩ := ba2 h
  obtain ⟨h, h5⟩ := ba2 h
  obtain ⟨h, h4⟩ := ba2 h
  obtain ⟨h, h3⟩ := ba2 h
  obtain ⟨h1, h2⟩ := ba2 h
  obtain ⟨e1, e2⟩ := comp_eq h1
  exact ⟨el, g.target, g.iter, g.ifs, scope, p, by rw [← e1], e2, h2, h3, all_in h4, h5, h6, h7⟩
theorem fx_lc {vs : List Nat} {elt : Ex} {tg : Tg} {it : Itr} {ifs : Exs} (he : FX M T k elt) (hi : FI M T k it) (hf : Fits M T k ifs) : FX M T k (.lc vs elt tg it ifs) := by
  intro X W sc e A hs h
  obtain ⟨el, t, i, fs, scope, p, rfl, h1, h2, h3, h4, h5, h6, h7⟩ := lc_inv h
  have bo : BlkOk X.N X.env.scope scope (ownOf M.N vs) := by rw [A.nm, hs]; exact blkOk_by h2
  obtain ⟨t1, t2⟩ := tp_tg h3
  have v : PE X (.ListComp el [⟨t, i, fs, 0⟩] scope p) (tE X.K W (ev T (.lc vs elt tg it ifs))) := by
    rw [ev_lc]
    have r := pe_lc (elt := el) (ifs := fs) (pos := p) (g := gT X.K tg) (tt := tT X.K noW (evAnd T ifs)) (te := tE X.K noW (ev T elt)) A.calm A.nd (hi X W sc _ t i A hs h5 t2) bo (fun s H C cl fp => pg_tg (X := X.blk s H scope (compEnvC scope cl C X.env) fp) (sc := scope) A.nd A.calm (sto_blk s H C cl fp) (by show tgB X.N scope tg t = true; rw [A.nm]; exact h3))
      (fun s H C cl fp => hf.one _ noW _ fs (A.blk s H scope C cl fp) (by show relS scope X.env.scope = _; rw [hs]) h6) (fun s H C cl fp => (he _ noW _ el (A.blk s H scope C cl fp) (by show relS scope X.env.scope = _; rw [hs]) h7).val) (fun x => fold_it h1 x)
    rw [own_ix] at r
    exact peOf r fun σ H Q q => e_lc t1 h4 q
  exact Fit.of v rfl rfl
theorem ev_lcO {i : Nat} {vs : List Nat} {elt : Ex} {tg : Tg} {ifs : Exs} : ev T (.lcO i vs elt tg ifs) = lcOF i vs (ev T elt) tg (evAnd T ifs) := by
  funext env
  show (match env[i]? with
    | some (some (.o (.list xs))) => if vs.contains i then stk else (quiet (lcLoopO i vs (fun e => ev T elt e) tg (fun e => evAnd T ifs e) xs.length 0 [] (wipeE env vs)) >>= fun p => Except.ok (Vl.o (.list p.1), restE env p.2 vs))
    | _ => stk) = _
  rfl
theorem lcO_inv {j : Nat} {vs : List Nat} {elt : Ex} {tg : Tg} {ifs : Exs} {e : Expr} (h : mE M sc (.lcO j vs elt tg ifs) e = true) : ∃ el t x xp fs scope p, e = .ListComp el [⟨t, .Name x xp, fs, 0⟩] scope p ∧ plE (.Name x xp) = true ∧ blkC M.N sc scope (ownOf M.N vs) = true ∧ tgB M.N scope tg t = true ∧ (∀ i ∈ tg.sl, i ∈ vs) ∧ slB M.N sc j x = true ∧ mI1 M (relS scope sc) ifs fs = true ∧ mE M (relS scope sc) elt el = true := by
  have : ∃ el g scope p, e = .ListComp el [g] scope p ∧ (compB g && blkC M.N sc scope (ownOf M.N vs) && tgB M.N scope tg g.target && tg.sl.all (fun i => vs.contains i) && nmSl M.N sc j g.iter && mI1 M (relS scope sc) ifs g.ifs && mE M (relS scope sc) elt el) = true := by
    unfold mE at h
    split at h
    all_goals first | (exact nof h rfl) | skip
    all_goals first | contradiction | skip
    all_goals rename_i heq
    all_goals first | (cases heq; exact ⟨_, _, _, _, rfl, h⟩) | cases heq
  obtain ⟨el, g, scope, p, rfl, h⟩ := this
  obtain ⟨h, h7⟩ := ba2 h
  obtain ⟨h, h6⟩ := ba2 h
  obtain ⟨h, h5⟩ := ba2 h
  obtain ⟨h, h4⟩ := ba2 h
  obtain ⟨h, h3⟩ := ba2 h
  obtain ⟨h1, h2⟩ := ba2 h
  obtain ⟨e1, e2⟩ := comp_eq h1
  obtain ⟨x, xp, e3, h5⟩ : ∃ x xp, g.iter = .Name x xp ∧ slB M.N sc j x = true := by
    cases e3 : g.iter with
    | Name x xp => rw [e3] at h5; exact ⟨x, xp, rfl, h5⟩
    | _ => rw [e3] at h5; exact nof h5 rfl
  rw [e3] at e1 e2
  exact ⟨el, g.target, x, xp, g.ifs, scope, p, by rw [← e1], e2, h2, h3, all_in h4, h5, h6, h7⟩
theorem fx_lcO {j : Nat} {vs : List Nat} {elt : Ex} {tg : Tg} {ifs : Exs} (he : FX M T k elt) (hf : Fits M T k ifs) : FX M T k (.lcO j vs elt tg ifs) := by
  intro X W sc e A hs h
  obtain ⟨el, t, x, xp, fs, scope, p, rfl, h1, h2, h3, h4, h5, h6, h7⟩ := lcO_inv h
  have bo : BlkOk X.N X.env.scope scope (ownOf M.N vs) := by rw [A.nm, hs]; exact blkOk_by h2
  obtain ⟨n1, n2, n3, n4⟩ := sl_of A hs h5
  have v : PE X (.ListComp el [⟨t, .Name x xp, fs, 0⟩] scope p) (tE X.K W (ev T (.lcO j vs elt tg ifs))) := by
    rw [ev_lcO]
    have r := pe_lc (elt := el) (ifs := fs) (pos := p) (g := gT X.K tg) (tt := tT X.K noW (evAnd T ifs)) (te := tE X.K noW (ev T elt)) A.calm A.nd (i_own (tg := t) (pe_var n1 n2 n3 n4)) bo (fun s H C cl fp => pg_tg (X := X.blk s H scope (compEnvC scope cl C X.env) fp) (sc := scope) A.nd A.calm (sto_blk s H C cl fp) (by show tgB X.N scope tg t = true; rw [A.nm]; exact h3))
      (fun s H C cl fp => hf.one _ noW _ fs (A.blk s H scope C cl fp) (by show relS scope X.env.scope = _; rw [hs]) h6) (fun s H C cl fp => (he _ noW _ el (A.blk s H scope C cl fp) (by show relS scope X.env.scope = _; rw [hs]) h7).val) (fun x => fold_it h1 x)
    rw [own_ix] at r
    exact peOf r fun σ H Q q => e_lcO h4 q
  exact Fit.of v rfl rfl
theorem fx_lc2 {vs vs1 : List Nat} {elt : Ex} {tg tg1 : Tg} {it it1 : Itr} {ifs ifs1 : Exs} (he : FX M T k elt) (hi : FI M T k it) (hf : Fits M T k ifs) (hi1 : FI M T k it1) (hf1 : Fits M T k ifs1) : FX M T k (.lc2 vs vs1 elt tg it ifs tg1 it1 ifs1) := by
  intro X W sc e A hs h
  have : ∃ el g g1 scope p, e = .ListComp el [g, g1] scope p ∧ (compB g && compB g1 && blkC M.N sc scope (ownOf M.N vs) && tgB M.N scope tg g.target && tgB M.N scope tg1 g1.target && tg.sl.all (fun i => vs.contains i) && tg1.sl.all (fun i => vs1.contains i) && vs1.all (fun i => vs.contains i) &&
      mI M sc (tpOf tg) it g.iter && mI1 M (relS scope sc) ifs g.ifs && mI M (relS scope sc) (tpOf tg1) it1 g1.iter && mI1 M (relS scope sc) ifs1 g1.ifs && mE M (relS scope sc) elt el) = true := by
    unfold mE at h
    split at h
    all_goals first | (exact nof h rfl) | skip
    all_goals first | contradiction | skip
    all_goals rename_i heq
    all_goals first | (cases heq; exact ⟨_, _, _, _, _, rfl, h⟩) | cases heq
  obtain ⟨el, ⟨t, i, fs, a⟩, ⟨t', i', fs', a'⟩, scope, p, rfl, h⟩ := this
  obtain ⟨h, h13⟩ := ba2 h
  obtain ⟨h, h12⟩ := ba2 h
  obtain ⟨h, h11⟩ := ba2 h
  obtain ⟨h, h10⟩ := ba2 h
  obtain ⟨h, h9⟩ := ba2 h
  obtain ⟨h, h8⟩ := ba2 h
  obtain ⟨h, h7⟩ := ba2 h
  obtain ⟨h, h6⟩ := ba2 h
  obtain ⟨h, h5⟩ := ba2 h
  obtain ⟨h, h4⟩ := ba2 h
  obtain ⟨h, h3⟩ := ba2 h
  obtain ⟨h1, h2⟩ := ba2 h
  obtain ⟨e1, p1⟩ := ba2 (show (decide (a = 0) && plE i) = true from h1)
  obtain ⟨e2, p2⟩ := ba2 (show (decide (a' = 0) && plE i') = true from h2)
  have e1 := of_decide_eq_true e1
  have e2 := of_decide_eq_true e2
  subst e1 e2
  have bo : BlkOk X.N X.env.scope scope (ownOf M.N vs) := by rw [A.nm, hs]; exact blkOk_by h3
  obtain ⟨t1, t2⟩ := tp_tg h4
  obtain ⟨t3, t4⟩ := tp_tg h5
  have sb : ∀ (s : Shared) (H : Hp) (C : Addr) (cl : List (Str × Addr)) (fp : List Addr), (X.blk s H scope (compEnvC scope cl C X.env) fp).env.scope = relS scope sc := fun s H C cl fp => by show relS scope X.env.scope = _; rw [hs]
  have v : PE X (.ListComp el [⟨t, i, fs, 0⟩, ⟨t', i', fs', 0⟩] scope p) (tE X.K W (ev T (.lc2 vs vs1 elt tg it ifs tg1 it1 ifs1))) := by
    rw [ev_lc2]
    have r := pe_lc2 (elt := el) (ifs := fs) (ifs1 := fs') (pos := p) (vs1 := vs1) (g := gT X.K tg) (tt := tT X.K noW (evAnd T ifs)) (te := tE X.K noW (ev T elt)) (wi1 := tI X.K noW (tpOf tg1) (evI T it1)) (g1 := gT X.K tg1) (tt1 := tT X.K noW (evAnd T ifs1)) A.calm A.nd (hi X W sc _ t i A hs h9 t2) bo (by rw [own_ix]; exact all_in h8)
      (fun s H C cl fp => pg_tg (X := X.blk s H scope (compEnvC scope cl C X.env) fp) (sc := scope) A.nd A.calm (sto_blk s H C cl fp) (by show tgB X.N scope tg t = true; rw [A.nm]; exact h4))
      (fun s H C cl fp => hf.one _ noW _ fs (A.blk s H scope C cl fp) (sb s H C cl fp) h10)
      (fun s H C cl fp => hi1 _ noW _ _ t' i' (A.blk s H scope C cl fp) (sb s H C cl fp) h11 t4)
      (fun s H C cl fp => pg_tg (X := X.blk s H scope (compEnvC scope cl C X.env) fp) (sc := scope) A.nd A.calm (sto_blk s H C cl fp) (by show tgB X.N scope tg1 t' = true; rw [A.nm]; exact h5))
      (fun s H C cl fp => hf1.one _ noW _ fs' (A.blk s H scope C cl fp) (sb s H C cl fp) h12)
      (fun s H C cl fp => (he _ noW _ el (A.blk s H scope C cl fp) (sb s H C cl fp) h13).val) (fun x => fold_it p1 x) (fun env x => fold_it p2 x)
    rw [own_ix] at r
    exact peOf r fun σ H Q q => e_lc2 t1 (all_in h6) t3 (all_in h7) (all_in h8) q
  exact Fit.of v rfl rfl
end
/-! ### all -/
section
variable (M : Mc) (T : Tb) (k : Nat)
mutual
theorem fx : ∀ x : Ex, FX M T k x
  | .var i => fx_var
  | .cst d => fx_cst
  | .glb x c => fx_glb
  | .bad => fx_bad
  | .tup es => fx_tup (fxs es)
  | .lst es => fx_lst (fxs es)
  | .dct ks es => fx_dct (fxs es)
  | .bin op a b => fx_bin (fx a) (fx b)
  | .neg a => fx_neg (fx a)
  | .cmp op a b => fx_cmp (fx a) (fx b)
  | .chn o1 o2 a b c => fx_chn (fx a) (fx b) (fx c)
  | .and es => fx_and (fxs es)
  | .or es => fx_or (fxs es)
  | .not a => fx_not (fx a)
  | .ite c a b => fx_ite (fx c) (fx a) (fx b)
  | .sub a i => fx_sub (fx a) (fx i)
  | .slc a lo hi => fx_slc (fx a) (fx lo) (fx hi)
  | .rev a => fx_rev (fx a)
  | .fn f a => fx_fn (fx a)
  | .inst a t => fx_inst (fx a)
  | .call f es ks kes => fx_call (fxs es) (fxs kes)
  | .meth m a es => fx_meth (fx a) (fxs es)
  | .pop i a => fx_pop (fx a)
  | .mm mx a b => fx_mm (fx a) (fx b)
  | .lc vs elt tg it ifs => fx_lc (fx elt) (fi it) (fxs ifs)
  | .lc2 vs vs1 elt tg it ifs tg1 it1 ifs1 => fx_lc2 (fx elt) (fi it) (fxs ifs) (fi it1) (fxs ifs1)
  | .lcO i vs elt tg ifs => fx_lcO (fx elt) (fxs ifs)
theorem fxs : ∀ xs : Exs, Fits M T k xs
  | .nil => fits_nil
  | .cons x xs => fits_cons (fx x) (fxs xs)
  | .star x xs => fits_star (fx x) (fxs xs)
theorem fi : ∀ it : Itr, FI M T k it
  | .src x => fi_src (fx x)
  | .rng1 a => fi_rng1 (fx a)
  | .rng2 a b => fi_rng2 (fx a) (fx b)
  | .enu a => fi_enu (fx a)
  | .zip a b => fi_zip (fx a) (fx b)
end
end
end Qv

set_option maxRecDepth 100000
set_option maxHeartbeats 1000000
/-! Q18: statements that fit. -/
namespace Qv
open PySem PySem.Spec PyProof.Rows L2
def swB (sc : Scope) (x : Str) (px : Pos) : Expr → Bool
  | .ListComp _ _ s p => decide (sc.names.lookup x = some .local) && (px.line == p.line) && !(s.names.any fun (n, k) => n == x && (k == .local || k == .cell))
  | _ => false
def cmpB : Expr → Bool
  | .ListComp _ _ _ _ => true
  | .SetComp _ _ _ _ => true
  | .DictComp _ _ _ _ _ => true
  | _ => false
def lcB : Ex → Bool
  | .lc _ _ _ _ _ => true
  | _ => false
def noTup : Expr → Bool
  | .Tuple vs _ _ => vs.all (foldedForSure 8)
  | _ => true
def stoB (N : List Str) (sc : Scope) (pr : List Nat) (i : Nat) (x : Str) : Bool := decide (N[i]? = some x) && locB sc x && !pr.contains i
mutual
def mS (M : Mc) (sc : Scope) (pr : List Nat) : Sm → Stmt → Bool
  | .asg i e, .Assign [.Name x px] v p => stoB M.N sc pr i x && mE M sc e v && (!cmpB v || (lcB e && swB sc x px v) || (match v with
    | .ListComp _ _ s q => !(decide (sc.names.lookup x = some .local) && (px.line == q.line) && !(s.names.any fun (n, k) => n == x && (k == .local || k == .cell)))
    | _ => false))
  | .asgT is e, .Assign [.Tuple ts _ _] v _ => nmB M.N sc is ts && is.all (fun i => !pr.contains i) && mE M sc e v && !cmpB v && noTup v
  | .asg2 i j a b, .Assign [.Tuple [.Name x px, .Name y py] _ _] (.Tuple [l, r] _ _) _ => (stoB M.N sc pr i x && stoB M.N sc pr j y && decide (i ≠ j) && decide (x ≠ y) && decide (sc.names.lookup x = some .local) && decide (sc.names.lookup y = some .local) && (py.line == px.line) && nst l && nst r &&
      !(foldedForSure 8 l && foldedForSure 8 r) && !(constantsAlone 8 l && constantsAlone 8 r) && mE M sc a l && mE M sc b r) ||
      (stoB M.N sc pr i x && stoB M.N sc pr j y && !(decide (sc.names.lookup x = some .local) && decide (sc.names.lookup y = some .local) && (py.line == px.line)) && nst l && nst r && mE M sc a l && mE M sc b r)
  | .asg3 i j m a b c, .Assign [.Tuple [.Name x px, .Name y py, .Name z pz] _ _] (.Tuple [l, r, t] _ _) _ => (stoB M.N sc pr i x && stoB M.N sc pr j y && stoB M.N sc pr m z && decide (i ≠ j) && decide (i ≠ m) && decide (j ≠ m) && decide (([x, y, z] : List Str).eraseDups.length = 3) && decide (sc.names.lookup x = some .local) && decide (sc.names.lookup y = some .local) && decide (sc.names.lookup z = some .local) && (py.line == px.line) && (pz.line == px.line) && nst l && nst r && nst t &&
      !([l, r, t].all (foldedForSure 8)) && !([l, r, t].all (constantsAlone 8)) && mE M sc a l && mE M sc b r && mE M sc c t) ||
      (stoB M.N sc pr i x && stoB M.N sc pr j y && stoB M.N sc pr m z && !(decide (sc.names.lookup x = some .local) && decide (sc.names.lookup y = some .local) && (py.line == px.line) && decide (sc.names.lookup z = some .local) && (pz.line == px.line)) && nst l && nst r && nst t && mE M sc a l && mE M sc b r && mE M sc c t)
  | .ext i e, .Expr (.Call (.Attribute (.Name x _) n q) [v] [] p) _ => slB M.N sc i x && decide (n = ("extend" : Str)) && decide (q.endLine = p.line) && nst v && mE M sc e v
  | .put i k e, .Assign [.Subscript (.Name x _) (.Constant (.str k') _ _) _] v _ => slB M.N sc i x && decide (k = k') && !cmpB v && mE M sc e v
  | .aug i op e, .AugAssign (.Name x _) o v _ => stoB M.N sc pr i x && decide (o = opOf op) && (decide (op = .add) || decide (op = .sub)) && mE M sc e v
  | .app i e, .Expr (.Call (.Attribute (.Name x _) n q) [v] [] p) _ => slB M.N sc i x && decide (n = ("append" : Str)) && decide (q.endLine = p.line) && nst v && mE M sc e v
  | .exp e, .Expr v _ => !cmpB v && mE M sc e v
  | .ret e, .Return (some v) _ => mE M sc e v
  | .retN, .Return none _ => true
  | .iff c a b, .If t x y _ => tsB c && mE M sc c t && mB M sc pr a x && mB M sc pr b y
  | .for tg it body, .For t i x [] _ => tgB M.N sc tg t && tg.sl.all (fun i => !pr.contains i) && plE i && mI M sc (tpOf tg) it i && mB M sc pr body x
  | .whl c body, .While t x [] _ => tsB c && mE M sc c t && mB M sc pr body x
  | .brk, .Break _ => true
  | .cnt, .Continue _ => true
  | .pass, .Pass _ => true
  | .pass, .Expr (.Constant (.str _) _ _) _ => true
  | .nev, _ => true
  | _, _ => false
def mB (M : Mc) (sc : Scope) (pr : List Nat) : Sms → List Stmt → Bool
  | .nil, [] => true
  | .cons s ss, t :: ts => mS M sc pr s t && mB M sc pr ss ts
  | _, _ => false
end
theorem sw_none {v : Expr} {t : Option Expr} {l : Nat} {env : Env} (h : (!cmpB v) = true) : swapsWith v t l env = pure false := by
  cases v <;> first | rfl | exact nof h rfl
theorem sw_lc {el : Expr} {gs : List Comprehension} {s : Scope} {p px : Pos} {x : Str} {l : Nat} {env : Env} (hk : env.scope.kind = .function) : swapsWith (.ListComp el gs s p) (some (.Name x px)) l env = pure (decide (env.scope.names.lookup x = some .local) && (px.line == p.line) && !(s.names.any fun (n, k) => n == x && (k == .local || k == .cell))) := by
  have hb : env.blockKind = .function := by unfold Env.blockKind; rw [hk]; rfl
  unfold swapsWith
  simp only [hb, Expr.pos]
  show pure (((ScopeKind.function == ScopeKind.function) && (env.kindOf x == some NameKind.local) && (px.line == p.line)) && _) = _
  have e : (env.kindOf x == some NameKind.local) = decide (env.scope.names.lookup x = some NameKind.local) := by
    unfold Env.kindOf
    exact Bool.beq_eq_decide_eq ..
  rw [e]
  rfl
theorem swT {ts : List Expr} {kt : Nat} {pt : Pos} {v : Expr} {l : Nat} {env : Env} (h : (!cmpB v) = true) : swapsWithSole [.Tuple ts kt pt] v l env = pure false := by
  show swapsWith v (some (.Tuple ts kt pt)) l env = pure false
  exact sw_none h
theorem ss_none {ts : List Expr} {kt : Nat} {pt : Pos} {v : Expr} {env : Env} (h : noTup v = true) : swappedStores [.Tuple ts kt pt] v env = pure none := by
  cases v with
  | Tuple vs j p =>
    have h : vs.all (foldedForSure 8) = true := h
    unfold swappedStores
    simp only [h, if_true]
    split
    · rfl
    · split
      · rfl
      · split
        · rfl
        · rfl
  | _ => rfl
def isSt : Expr → Bool
  | .Starred _ _ => true
  | _ => false
theorem ss_two {x y : Str} {px py pt p2 : Pos} {kt k2 : Nat} {a b : Expr} {env : Env} (hk : env.scope.kind = .function) (hx : env.scope.names.lookup x = some .local) (hy : env.scope.names.lookup y = some .local) (hl : (py.line == px.line) = true) (hxy : x ≠ y) (ha : nst a = true) (hb : nst b = true)
    (hf : (foldedForSure 8 a && foldedForSure 8 b) = false) (hc : (constantsAlone 8 a && constantsAlone 8 b) = false) : swappedStores [.Tuple [.Name x px, .Name y py] kt pt] (.Tuple [a, b] k2 p2) env = pure (some [x, y]) := by
  have hbk : env.blockKind = .function := by unfold Env.blockKind; rw [hk]; rfl
  have kx : env.kindOf x = some .local := hx
  have ky : env.kindOf y = some .local := hy
  have sa : ∀ e : Expr, nst e = true → ¬ (isSt e = true) := fun e h q => by
    cases e <;> first | exact nof h rfl | cases q
  have n2 : ¬ ([a, b].all (foldedForSure 8) = true) := by simp only [List.all_cons, List.all_nil, Bool.and_true]; rw [hf]; exact Bool.false_ne_true
  have n3 : ¬ ([a, b].all (constantsAlone 8) = true) := by simp only [List.all_cons, List.all_nil, Bool.and_true]; rw [hc]; exact Bool.false_ne_true
  have n4 : ([x, y] : List Str).eraseDups.length = 2 := by
    have : (y == x) = false := beq_eq_false_iff_ne.mpr (Ne.symm hxy)
    simp [List.eraseDups_cons, this]
  have pl : (px.line == px.line) = true := by simp
  have nm : ([Expr.Name x px, Expr.Name y py].filterMap fun
    | .Name id pos => if env.kindOf id == some .local && pos.line == px.line then some id else none
    | _ => none) = [x, y] := by
    simp [kx, ky, beq_iff_eq.mp hl]
  unfold swappedStores
  dsimp only [List.length_cons, List.length_nil]
  rw [hbk]
  refine (if_neg (by decide)).trans ?_
  refine (if_neg ?_).trans ?_
  · intro h
    have h : (isSt a || (isSt b || false)) = true := h
    rw [Bool.or_false, Bool.or_eq_true] at h
    exact h.elim (sa a ha) (sa b hb)
  · have nm' := nm
    show (if (List.length (List.filterMap _ [Expr.Name x px, Expr.Name y py]) != 2 || _) = true then _ else _) = _
    refine (if_neg ?_).trans ?_
    · intro h
      have h' : (([x, y] : List Str).length != 2 || ([x, y] : List Str).eraseDups.length != ([x, y] : List Str).length) = true := by
        rw [← nm]
        exact h
      rw [n4] at h'
      simp at h'
    · refine (if_neg n2).trans ?_
      refine (if_neg n3).trans ?_
      exact congrArg (fun l => pure (some l)) nm

theorem ss_two0 {x y : Str} {px py pt p2 : Pos} {kt k2 : Nat} {a b : Expr} {env : Env} (h : (decide (env.scope.names.lookup x = some .local) && decide (env.scope.names.lookup y = some .local) && (py.line == px.line)) = false) : swappedStores [.Tuple [.Name x px, .Name y py] kt pt] (.Tuple [a, b] k2 p2) env = pure none := by
  have pl : (px.line == px.line) = true := by simp
  have n : (([Expr.Name x px, Expr.Name y py].filterMap fun
    | .Name id pos => if env.kindOf id == some .local && pos.line == px.line then some id else none
    | _ => none)).length ≠ 2 := by
    have kx : (env.kindOf x == some NameKind.local) = decide (env.scope.names.lookup x = some .local) := by
      unfold Env.kindOf
      by_cases e : env.scope.names.lookup x = some .local <;> simp [e]
    have ky : (env.kindOf y == some NameKind.local) = decide (env.scope.names.lookup y = some .local) := by
      unfold Env.kindOf
      by_cases e : env.scope.names.lookup y = some .local <;> simp [e]
    simp only [List.filterMap_cons, List.filterMap_nil, kx, ky, pl, Bool.and_true]
    revert h
    cases decide (env.scope.names.lookup x = some .local) <;> cases decide (env.scope.names.lookup y = some .local) <;> cases (py.line == px.line) <;> simp
  unfold swappedStores
  dsimp only [List.length_cons, List.length_nil]
  split
  · rfl
  split
  · rfl
  refine (if_pos ?_)
  rw [Bool.or_eq_true]
  exact .inl (by rw [bne_iff_ne]; exact n)
theorem ss_three0 {x y z : Str} {px py pz pt p2 : Pos} {kt k2 : Nat} {a b c : Expr} {env : Env} (h : (decide (env.scope.names.lookup x = some .local) && decide (env.scope.names.lookup y = some .local) && (py.line == px.line) && decide (env.scope.names.lookup z = some .local) && (pz.line == px.line)) = false) : swappedStores [.Tuple [.Name x px, .Name y py, .Name z pz] kt pt] (.Tuple [a, b, c] k2 p2) env = pure none := by
  have pl : (px.line == px.line) = true := by simp
  have n : (([Expr.Name x px, Expr.Name y py, Expr.Name z pz].filterMap fun
    | .Name id pos => if env.kindOf id == some .local && pos.line == px.line then some id else none
    | _ => none)).length ≠ 3 := by
    have kk : ∀ x : Str, (env.kindOf x == some NameKind.local) = decide (env.scope.names.lookup x = some .local) := fun x => by
      unfold Env.kindOf
      by_cases e : env.scope.names.lookup x = some .local <;> simp [e]
    simp only [List.filterMap_cons, List.filterMap_nil, kk, pl, Bool.and_true]
    revert h
    cases decide (env.scope.names.lookup x = some .local) <;> cases decide (env.scope.names.lookup y = some .local) <;> cases (py.line == px.line) <;> cases decide (env.scope.names.lookup z = some .local) <;> cases (pz.line == px.line) <;> simp
  unfold swappedStores
  dsimp only [List.length_cons, List.length_nil]
  split
  · rfl
  split
  · rfl
  refine (if_pos ?_)
  rw [Bool.or_eq_true]
  exact .inl (by rw [bne_iff_ne]; exact n)
theorem ss_three {x y z : Str} {px py pz pt p2 : Pos} {kt k2 : Nat} {a b c : Expr} {env : Env} (hk : env.scope.kind = .function) (hx : env.scope.names.lookup x = some .local) (hy : env.scope.names.lookup y = some .local) (hz : env.scope.names.lookup z = some .local) (hl : (py.line == px.line) = true) (hl2 : (pz.line == px.line) = true)
    (n4 : ([x, y, z] : List Str).eraseDups.length = 3) (ha : nst a = true) (hb : nst b = true) (hcc : nst c = true)
    (hf : [a, b, c].all (foldedForSure 8) = false) (hc : [a, b, c].all (constantsAlone 8) = false) : swappedStores [.Tuple [.Name x px, .Name y py, .Name z pz] kt pt] (.Tuple [a, b, c] k2 p2) env = pure (some [x, y, z]) := by
  have hbk : env.blockKind = .function := by unfold Env.blockKind; rw [hk]; rfl
  have kx : env.kindOf x = some .local := hx
  have ky : env.kindOf y = some .local := hy
  have kz : env.kindOf z = some .local := hz
  have sa : ∀ e : Expr, nst e = true → ¬ (isSt e = true) := fun e h q => by
    cases e <;> first | exact nof h rfl | cases q
  have n2 : ¬ ([a, b, c].all (foldedForSure 8) = true) := by rw [hf]; exact Bool.false_ne_true
  have n3 : ¬ ([a, b, c].all (constantsAlone 8) = true) := by rw [hc]; exact Bool.false_ne_true
  have nm : ([Expr.Name x px, Expr.Name y py, Expr.Name z pz].filterMap fun
    | .Name id pos => if env.kindOf id == some .local && pos.line == px.line then some id else none
    | _ => none) = [x, y, z] := by
    simp [kx, ky, kz, beq_iff_eq.mp hl, beq_iff_eq.mp hl2]
  unfold swappedStores
  dsimp only [List.length_cons, List.length_nil]
  rw [hbk]
  refine (if_neg (by decide)).trans ?_
  refine (if_neg ?_).trans ?_
  · intro h
    have h : (isSt a || (isSt b || (isSt c || false))) = true := h
    rw [Bool.or_false, Bool.or_eq_true, Bool.or_eq_true] at h
    exact h.elim (sa a ha) fun h => h.elim (sa b hb) (sa c hcc)
  · show (if (List.length (List.filterMap _ [Expr.Name x px, Expr.Name y py, Expr.Name z pz]) != 3 || _) = true then _ else _) = _
    refine (if_neg ?_).trans ?_
    · intro h
      have h' : (([x, y, z] : List Str).length != 3 || ([x, y, z] : List Str).eraseDups.length != ([x, y, z] : List Str).length) = true := by
        rw [← nm]
        exact h
      rw [n4] at h'
      simp at h'
    · refine (if_neg n2).trans ?_
      refine (if_neg n3).trans ?_
      exact congrArg (fun l => pure (some l)) nm

/-- a def's body: names are stored, nothing is left to say of exceptions but W -/
structure AmbS (M : Mc) (T : Tb) (k : Nat) (X : Cx) (W : WX) (sc : Scope) : Prop extends Amb M T k X W where
  scq : X.env.scope = sc
  kind : sc.kind = ScopeKind.function
  fn : ∀ x, X.fn x = true
  po : PassesOwn (model X.prog X.w) X.A X.env X.xe
section
variable {M : Mc} {T : Tb} {Xc : Xcs} {k : Nat} {X : Cx} {W : WX} {sc : Scope} {pr : List Nat}
def FS (M : Mc) (T : Tb) (Xc : Xcs) (k : Nat) (pr : List Nat) (s : Sm) : Prop := ∀ (X : Cx) (W : WX) (sc : Scope) (st : Stmt), AmbS M T k X W sc → mS M sc pr s st = true → PS X st (tS X.K W pr (exS T Xc s))
def FB (M : Mc) (T : Tb) (Xc : Xcs) (k : Nat) (pr : List Nat) (s : Sms) : Prop := ∀ (X : Cx) (W : WX) (sc : Scope) (st : List Stmt), AmbS M T k X W sc → mB M sc pr s st = true → PSs X st (tS X.K W pr (exB T Xc s))
theorem sto_of {i : Nat} {x : Str} (A : AmbS M T k X W sc) (h : stoB M.N sc pr i x = true) : i ∉ pr ∧ X.N[i]? = some x ∧ Loc X.env.scope x := by
  obtain ⟨h, h3⟩ := ba2 (show (decide (M.N[i]? = some x) && locB sc x && !pr.contains i) = true from h)
  obtain ⟨h1, h2⟩ := ba2 h
  exact ⟨by simpa using h3, by rw [A.nm]; exact of_decide_eq_true h1, by rw [A.scq]; exact loc_of h2⟩
theorem sto_def (A : AmbS M T k X W sc) : ∀ x, locB sc x = true → Loc X.env.scope x ∧ (X.fn x = true ∨ X.env.scope.names.lookup x = some .local) := fun x h => ⟨by rw [A.scq]; exact loc_of h, .inl (A.fn x)⟩
theorem ex_asg {i : Nat} {e : Ex} : exS T Xc (.asg i e) = asgF i (ev T e) := by
  funext env
  show (ev T e env >>= fun p => _) = _
  unfold asgF
  generalize ev T e env = m
  cases m <;> rfl
/-- name = [..] on one line -/
theorem s_asgLc {i : Nat} {x : Str} {px p : Pos} {e : Ex} {v : Expr} (A : AmbS M T k X W sc) (hi : i ∉ pr) (hx : X.N[i]? = some x) (he : mE M sc e v = true) (hl : lcB e = true) (hs : swB sc x px v = true) : PS X (.Assign [.Name x px] v p) (tS X.K W pr (asgF i (ev T e))) := by
  cases e <;> first | exact nof hl rfl | skip
  rename_i vs elt tg it ifs
  obtain ⟨el, t, it', fs, scope, p', rfl, h1, h2, h3, h4, h5, h6, h7⟩ := lc_inv he
  have bo : BlkOk X.N X.env.scope scope (ownOf M.N vs) := by rw [A.nm, A.scq]; exact blkOk_by h2
  obtain ⟨t1, t2⟩ := tp_tg h3
  obtain ⟨q, q3⟩ := ba2 (show (decide (sc.names.lookup x = some .local) && (px.line == p'.line) && !(scope.names.any fun (n, k) => n == x && (k == .local || k == .cell))) = true from hs)
  obtain ⟨q1, q2⟩ := ba2 q
  have hloc : X.env.scope.names.lookup x = some .local := by rw [A.scq]; exact of_decide_eq_true q1
  have hsw : swapsWith (.ListComp el [⟨t, it', fs, 0⟩] scope p') (some (.Name x px)) p.line X.env = pure true := by
    rw [sw_lc (by rw [A.scq]; exact A.kind), A.scq]
    have hs : (decide (sc.names.lookup x = some .local) && (px.line == p'.line) && !(scope.names.any fun (n, k) => n == x && (k == .local || k == .cell))) = true := hs
    rw [hs]
  have sb : ∀ (s : Shared) (H : Hp) (C : Addr) (cl : List (Str × Addr)) (fp : List Addr), (X.blk s H scope (compEnvC scope cl C X.env) fp).env.scope = relS scope sc := fun s H C cl fp => by show relS scope X.env.scope = _; rw [A.scq]
  have r := ps_setLc (elt := el) (ifs := fs) (pos := p') (spos := p) (g := gT X.K tg) (tt := tT X.K noW (evAnd T ifs)) (te := tE X.K noW (ev T elt)) A.calm A.nd hx hloc hsw ((fi M T k it) X W sc _ t it' A.toAmb A.scq h5 t2) bo
    (fun s H C cl fp => pg_tg (X := X.blk s H scope (compEnvC scope cl C X.env) fp) (sc := scope) A.nd A.calm (sto_blk s H C cl fp) (by show tgB X.N scope tg t = true; rw [A.nm]; exact h3))
    (fun s H C cl fp => (fxs M T k ifs).one _ noW _ fs (A.toAmb.blk s H scope C cl fp) (sb s H C cl fp) h6) (fun s H C cl fp => ((fx M T k elt) _ noW _ el (A.toAmb.blk s H scope C cl fp) (sb s H C cl fp) h7).val) (fun x => fold_it h1 x)
  rw [own_ix] at r
  rw [ev_lc]
  exact psOf r fun D σ H q => asg_t hi (fun Q q => e_lc t1 h4 q) q
theorem fs_asg {i : Nat} {e : Ex} : FS M T Xc k pr (.asg i e) := by
  intro X W sc st A h
  have : ∃ x px v p, st = .Assign [.Name x px] v p ∧ (stoB M.N sc pr i x && mE M sc e v && (!cmpB v || (lcB e && swB sc x px v) || (match v with
    | .ListComp _ _ s q => !(decide (sc.names.lookup x = some .local) && (px.line == q.line) && !(s.names.any fun (n, k) => n == x && (k == .local || k == .cell)))
    | _ => false))) = true := by
    unfold mS at h
    split at h
    all_goals first | (exact nof h rfl) | skip
    all_goals first | contradiction | skip
    all_goals rename_i heq
    all_goals first | (cases heq; exact ⟨_, _, _, _, rfl, h⟩) | cases heq
  obtain ⟨x, px, v, p, rfl, h⟩ := this
  obtain ⟨h, h3⟩ := ba2 h
  obtain ⟨h1, h2⟩ := ba2 h
  obtain ⟨q1, q2, q3⟩ := sto_of A h1
  rw [ex_asg]
  rcases Bool.or_eq_true_iff.mp h3 with h3 | h3
  · rcases Bool.or_eq_true_iff.mp h3 with h3 | h3
    · exact s_asg q1 A.nd q2 q3 ((fx M T k e) X W sc v A.toAmb A.scq h2).val (sw_none h3) (.inl (A.fn x))
    · obtain ⟨h4, h5⟩ := ba2 h3
      exact s_asgLc A q1 q2 h2 h4 h5
  · cases v with
    | ListComp el gs s q =>
      refine s_asg q1 A.nd q2 q3 ((fx M T k e) X W sc _ A.toAmb A.scq h2).val ?_ (.inl (A.fn x))
      rw [sw_lc (by rw [A.scq]; exact A.kind), A.scq]
      have h3 : (!(decide (sc.names.lookup x = some .local) && (px.line == q.line) && !(s.names.any fun (n, k) => n == x && (k == .local || k == .cell)))) = true := h3
      rw [Bool.not_eq_true'] at h3
      rw [h3]
    | _ => exact nof h3 rfl
theorem fs_asgT {is : List Nat} {e : Ex} : FS M T Xc k pr (.asgT is e) := by
  intro X W sc st A h
  have : ∃ ts kt pt v p, st = .Assign [.Tuple ts kt pt] v p ∧ (nmB M.N sc is ts && is.all (fun i => !pr.contains i) && mE M sc e v && !cmpB v && noTup v) = true := by
    unfold mS at h
    split at h
    all_goals first | (exact nof h rfl) | skip
    all_goals first | contradiction | skip
    all_goals rename_i heq
    all_goals first | (cases heq; exact ⟨_, _, _, _, _, rfl, h⟩) | cases heq
  obtain ⟨ts, kt, pt, v, p, rfl, h⟩ := this
  obtain ⟨h, h5⟩ := ba2 h
  obtain ⟨h, h4⟩ := ba2 h
  obtain ⟨h, h3⟩ := ba2 h
  obtain ⟨h1, h2⟩ := ba2 h
  have e1 : exS T Xc (.asgT is e) = asgTF is (ev T e) := by
    funext env
    show (ev T e env >>= fun p => _) = _
    unfold asgTF
    generalize ev T e env = m
    cases m <;> rfl
  rw [e1]
  have hg : PG X (.Tuple ts kt pt) (gT X.K (.tp is)) := pg_tg (sc := sc) A.nd A.calm (sto_def A) (by show nmB X.N sc is ts = true; rw [A.nm]; exact h1)
  exact s_asgT (fun i hi => by simpa using List.all_eq_true.mp h2 i hi) hg ((fx M T k e) X W sc v A.toAmb A.scq h3).val (swT h4) (ss_none h5)
theorem fs_asg2 {i j : Nat} {a b : Ex} : FS M T Xc k pr (.asg2 i j a b) := by
  intro X W sc st A h
  have : ∃ x px y py kt pt l r k2 p2 p, st = .Assign [.Tuple [.Name x px, .Name y py] kt pt] (.Tuple [l, r] k2 p2) p ∧ (((stoB M.N sc pr i x && stoB M.N sc pr j y && decide (i ≠ j) && decide (x ≠ y) && decide (sc.names.lookup x = some .local) && decide (sc.names.lookup y = some .local) && (py.line == px.line) && nst l && nst r &&
      !(foldedForSure 8 l && foldedForSure 8 r) && !(constantsAlone 8 l && constantsAlone 8 r) && mE M sc a l && mE M sc b r) ||
      (stoB M.N sc pr i x && stoB M.N sc pr j y && !(decide (sc.names.lookup x = some .local) && decide (sc.names.lookup y = some .local) && (py.line == px.line)) && nst l && nst r && mE M sc a l && mE M sc b r)) : Bool) = true := by
    unfold mS at h
    split at h
    all_goals first | (exact nof h rfl) | skip
    all_goals first | contradiction | skip
    all_goals rename_i heq
    all_goals first | (cases heq; exact ⟨_, _, _, _, _, _, _, _, _, _, _, rfl, h⟩) | cases heq
  obtain ⟨x, px, y, py, kt, pt, l, r, k2, p2, p, rfl, h⟩ := this
  have e1 : exS T Xc (.asg2 i j a b) = asg2F i j (ev T a) (ev T b) := by
    funext env
    show (ev T a env >>= fun p => _) = _
    unfold asg2F
    generalize ev T a env = m
    cases m with
    | error y => rfl
    | ok p =>
      show (ev T b p.2 >>= fun p => _) = (ev T b p.2 >>= fun p => _)
      generalize ev T b p.2 = m
      cases m <;> rfl
  rcases Bool.or_eq_true_iff.mp h with h | h
  rotate_left
  · obtain ⟨h, h7⟩ := ba2 h
    obtain ⟨h, h6⟩ := ba2 h
    obtain ⟨h, h5⟩ := ba2 h
    obtain ⟨h, h4⟩ := ba2 h
    obtain ⟨h, h3⟩ := ba2 h
    obtain ⟨h1, h2⟩ := ba2 h
    obtain ⟨a1, a2, a3⟩ := sto_of A h1
    obtain ⟨b1, b2, b3⟩ := sto_of A h2
    have hnm : nmB X.N sc [i, j] [.Name x px, .Name y py] = true := by
      have c1 := (ba2 (ba2 h1).1)
      have c2 := (ba2 (ba2 h2).1)
      show (decide (X.N[i]? = some x) && locB sc x && (decide (X.N[j]? = some y) && locB sc y && true)) = true
      rw [A.nm, c1.1, c1.2, c2.1, c2.2]
      rfl
    have hg : PG X (.Tuple [.Name x px, .Name y py] kt pt) (gT X.K (.tp [i, j])) := pg_tg (sc := sc) A.nd A.calm (sto_def A) hnm
    rw [e1]
    exact s_asg2c a1 b1 hg ((fx M T k a) X W sc l A.toAmb A.scq h6).val ((fx M T k b) X W sc r A.toAmb A.scq h7).val h4 h5 (swT rfl) (ss_two0 (by rw [A.scq]; rw [Bool.not_eq_true'] at h3; exact h3))
  obtain ⟨h, h13⟩ := ba2 h
  obtain ⟨h, h12⟩ := ba2 h
  obtain ⟨h, h11⟩ := ba2 h
  obtain ⟨h, h10⟩ := ba2 h
  obtain ⟨h, h9⟩ := ba2 h
  obtain ⟨h, h8⟩ := ba2 h
  obtain ⟨h, h7⟩ := ba2 h
  obtain ⟨h, h6⟩ := ba2 h
  obtain ⟨h, h5⟩ := ba2 h
  obtain ⟨h, h4⟩ := ba2 h
  obtain ⟨h, h3⟩ := ba2 h
  obtain ⟨h1, h2⟩ := ba2 h
  obtain ⟨a1, a2, a3⟩ := sto_of A h1
  obtain ⟨b1, b2, b3⟩ := sto_of A h2
  have hx : X.env.scope.names.lookup x = some .local := by rw [A.scq]; exact of_decide_eq_true h5
  have hy : X.env.scope.names.lookup y = some .local := by rw [A.scq]; exact of_decide_eq_true h6
  have e1 : exS T Xc (.asg2 i j a b) = asg2F i j (ev T a) (ev T b) := by
    funext env
    show (ev T a env >>= fun p => _) = _
    unfold asg2F
    generalize ev T a env = m
    cases m with
    | error y => rfl
    | ok p =>
      show (ev T b p.2 >>= fun p => _) = (ev T b p.2 >>= fun p => _)
      generalize ev T b p.2 = m
      cases m <;> rfl
  rw [e1]
  exact s_asg2 a1 b1 A.calm A.nd a2 b2 (of_decide_eq_true h3) hx hy ((fx M T k a) X W sc l A.toAmb A.scq h12).val ((fx M T k b) X W sc r A.toAmb A.scq h13).val h8 h9 (ss_two (by rw [A.scq]; exact A.kind) hx hy h7 (of_decide_eq_true h4) h8 h9 (by rw [Bool.not_eq_true'] at h10; exact h10) (by rw [Bool.not_eq_true'] at h11; exact h11))
theorem fs_put {i : Nat} {key : Str} {e : Ex} : FS M T Xc k pr (.put i key e) := by
  intro X W sc st A h
  have : ∃ x px k' j pk p2 v p, st = .Assign [.Subscript (.Name x px) (.Constant (.str k') j pk) p2] v p ∧ (slB M.N sc i x && decide (key = k') && !cmpB v && mE M sc e v) = true := by
    unfold mS at h
    split at h
    all_goals first | (exact nof h rfl) | skip
    all_goals first | contradiction | skip
    all_goals rename_i heq
    all_goals first | (cases heq; exact ⟨_, _, _, _, _, _, _, _, rfl, h⟩) | cases heq
  obtain ⟨x, px, k', j, pk, p2, v, p, rfl, h⟩ := this
  obtain ⟨h, h4⟩ := ba2 h
  obtain ⟨h, h3⟩ := ba2 h
  obtain ⟨h1, h2⟩ := ba2 h
  have h2 := of_decide_eq_true h2
  subst h2
  obtain ⟨q1, q2, q3, q4⟩ := sl_of A.toAmb A.scq h1
  have e1 : exS T Xc (.put i key e) = putF i key (ev T e) := by
    funext env
    show (ev T e env >>= fun p => _) = _
    unfold putF
    generalize ev T e env = m
    cases m <;> rfl
  rw [e1]
  exact s_put A.toAmb.rc q1 q2 q3 q4 ((fx M T k e) X W sc v A.toAmb A.scq h4).val (sw_none h3)
theorem fs_aug {i : Nat} {op : BOp} {e : Ex} : FS M T Xc k pr (.aug i op e) := by
  intro X W sc st A h
  cases st with
  | AugAssign t o v p =>
    cases t with
    | Name x px =>
      obtain ⟨h, h4⟩ := ba2 (show (stoB M.N sc pr i x && decide (o = opOf op) && (decide (op = .add) || decide (op = .sub)) && mE M sc e v) = true from h)
      obtain ⟨h, h3⟩ := ba2 h
      obtain ⟨h1, h2⟩ := ba2 h
      have h2 := of_decide_eq_true h2
      subst h2
      obtain ⟨q1, q2, q3⟩ := sto_of A h1
      have e1 : exS T Xc (.aug i op e) = augF i op (ev T e) := by
        funext env
        show (match env[i]? with
          | some (some (.d (.int a))) => _
          | _ => stk) = augF i op (ev T e) env
        unfold augF
        cases env[i]? with
        | none => rfl
        | some o =>
          cases o with
          | none => rfl
          | some w =>
            cases w with
            | o y => rfl
            | d y =>
              cases y with
              | int z =>
                show (ev T e env >>= fun p => _) = (ev T e env >>= fun p => _)
                generalize ev T e env = m
                cases m <;> rfl
              | _ => rfl
      rw [e1]
      exact s_aug ((Bool.or_eq_true_iff.mp h3).imp of_decide_eq_true of_decide_eq_true) q1 A.nd q2 q3 ((fx M T k e) X W sc v A.toAmb A.scq h4).val (.inl (A.fn x))
    | _ => exact nof h rfl
  | _ => exact nof h rfl
theorem fs_asg3 {i j m : Nat} {a b c : Ex} : FS M T Xc k pr (.asg3 i j m a b c) := by
  intro X W sc st A h
  have : ∃ x px y py z pz kt pt l r t k2 p2 p, st = .Assign [.Tuple [.Name x px, .Name y py, .Name z pz] kt pt] (.Tuple [l, r, t] k2 p2) p ∧ (((stoB M.N sc pr i x && stoB M.N sc pr j y && stoB M.N sc pr m z && decide (i ≠ j) && decide (i ≠ m) && decide (j ≠ m) && decide (([x, y, z] : List Str).eraseDups.length = 3) && decide (sc.names.lookup x = some .local) && decide (sc.names.lookup y = some .local) && decide (sc.names.lookup z = some .local) && (py.line == px.line) && (pz.line == px.line) && nst l && nst r && nst t &&
      !([l, r, t].all (foldedForSure 8)) && !([l, r, t].all (constantsAlone 8)) && mE M sc a l && mE M sc b r && mE M sc c t) ||
      (stoB M.N sc pr i x && stoB M.N sc pr j y && stoB M.N sc pr m z && !(decide (sc.names.lookup x = some .local) && decide (sc.names.lookup y = some .local) && (py.line == px.line) && decide (sc.names.lookup z = some .local) && (pz.line == px.line)) && nst l && nst r && nst t && mE M sc a l && mE M sc b r && mE M sc c t)) : Bool) = true := by
    unfold mS at h
    split at h
    all_goals first | (exact nof h rfl) | skip
    all_goals first | contradiction | skip
    all_goals rename_i heq
    all_goals first | (cases heq; exact ⟨_, _, _, _, _, _, _, _, _, _, _, _, _, _, rfl, h⟩) | cases heq
  obtain ⟨x, px, y, py, z, pz, kt, pt, l, r, t, k2, p2, p, rfl, h⟩ := this
  have e1 : exS T Xc (.asg3 i j m a b c) = asg3F i j m (ev T a) (ev T b) (ev T c) := by
    funext env
    show (ev T a env >>= fun p => _) = _
    unfold asg3F
    generalize ev T a env = m
    cases m with
    | error y => rfl
    | ok p =>
      show (ev T b p.2 >>= fun p => _) = (ev T b p.2 >>= fun p => _)
      generalize ev T b p.2 = m
      cases m with
      | error y => rfl
      | ok p =>
        show (ev T c p.2 >>= fun p => _) = (ev T c p.2 >>= fun p => _)
        generalize ev T c p.2 = m
        cases m <;> rfl
  rcases Bool.or_eq_true_iff.mp h with h | h
  rotate_left
  · obtain ⟨h, h10⟩ := ba2 h
    obtain ⟨h, h9⟩ := ba2 h
    obtain ⟨h, h8⟩ := ba2 h
    obtain ⟨h, h7⟩ := ba2 h
    obtain ⟨h, h6⟩ := ba2 h
    obtain ⟨h, h5⟩ := ba2 h
    obtain ⟨h, h4⟩ := ba2 h
    obtain ⟨h, h3⟩ := ba2 h
    obtain ⟨h1, h2⟩ := ba2 h
    obtain ⟨a1, a2, a3⟩ := sto_of A h1
    obtain ⟨b1, b2, b3⟩ := sto_of A h2
    obtain ⟨c1, c2, c3⟩ := sto_of A h3
    have hnm : nmB X.N sc [i, j, m] [.Name x px, .Name y py, .Name z pz] = true := by
      have c1 := (ba2 (ba2 h1).1)
      have c2 := (ba2 (ba2 h2).1)
      have c3 := (ba2 (ba2 h3).1)
      show (decide (X.N[i]? = some x) && locB sc x && (decide (X.N[j]? = some y) && locB sc y && (decide (X.N[m]? = some z) && locB sc z && true))) = true
      rw [A.nm, c1.1, c1.2, c2.1, c2.2, c3.1, c3.2]
      rfl
    have hg : PG X (.Tuple [.Name x px, .Name y py, .Name z pz] kt pt) (gT X.K (.tp [i, j, m])) := pg_tg (sc := sc) A.nd A.calm (sto_def A) hnm
    rw [e1]
    exact s_asg3c a1 b1 c1 hg ((fx M T k a) X W sc l A.toAmb A.scq h8).val ((fx M T k b) X W sc r A.toAmb A.scq h9).val ((fx M T k c) X W sc t A.toAmb A.scq h10).val h5 h6 h7 (swT rfl) (ss_three0 (by rw [A.scq]; rw [Bool.not_eq_true'] at h4; exact h4))
  obtain ⟨h, h20⟩ := ba2 h
  obtain ⟨h, h19⟩ := ba2 h
  obtain ⟨h, h18⟩ := ba2 h
  obtain ⟨h, h17⟩ := ba2 h
  obtain ⟨h, h16⟩ := ba2 h
  obtain ⟨h, h15⟩ := ba2 h
  obtain ⟨h, h14⟩ := ba2 h
  obtain ⟨h, h13⟩ := ba2 h
  obtain ⟨h, h12⟩ := ba2 h
  obtain ⟨h, h11⟩ := ba2 h
  obtain ⟨h, h10⟩ := ba2 h
  obtain ⟨h, h9⟩ := ba2 h
  obtain ⟨h, h8⟩ := ba2 h
  obtain ⟨h, h7⟩ := ba2 h
  obtain ⟨h, h6⟩ := ba2 h
  obtain ⟨h, h5⟩ := ba2 h
  obtain ⟨h, h4⟩ := ba2 h
  obtain ⟨h, h3⟩ := ba2 h
  obtain ⟨h1, h2⟩ := ba2 h
  obtain ⟨a1, a2, a3⟩ := sto_of A h1
  obtain ⟨b1, b2, b3⟩ := sto_of A h2
  obtain ⟨c1, c2, c3⟩ := sto_of A h3
  have hx : X.env.scope.names.lookup x = some .local := by rw [A.scq]; exact of_decide_eq_true h8
  have hy : X.env.scope.names.lookup y = some .local := by rw [A.scq]; exact of_decide_eq_true h9
  have hz : X.env.scope.names.lookup z = some .local := by rw [A.scq]; exact of_decide_eq_true h10
  have e1 : exS T Xc (.asg3 i j m a b c) = asg3F i j m (ev T a) (ev T b) (ev T c) := by
    funext env
    show (ev T a env >>= fun p => _) = _
    unfold asg3F
    generalize ev T a env = m
    cases m with
    | error y => rfl
    | ok p =>
      show (ev T b p.2 >>= fun p => _) = (ev T b p.2 >>= fun p => _)
      generalize ev T b p.2 = m
      cases m with
      | error y => rfl
      | ok p =>
        show (ev T c p.2 >>= fun p => _) = (ev T c p.2 >>= fun p => _)
        generalize ev T c p.2 = m
        cases m <;> rfl
  rw [e1]
  exact s_asg3 a1 b1 c1 A.calm A.nd a2 b2 c2 (of_decide_eq_true h4) (of_decide_eq_true h5) (of_decide_eq_true h6) hx hy hz ((fx M T k a) X W sc l A.toAmb A.scq h18).val ((fx M T k b) X W sc r A.toAmb A.scq h19).val ((fx M T k c) X W sc t A.toAmb A.scq h20).val h13 h14 h15
    (ss_three (by rw [A.scq]; exact A.kind) hx hy hz h11 h12 (of_decide_eq_true h7) h13 h14 h15 (by rw [Bool.not_eq_true'] at h16; exact h16) (by rw [Bool.not_eq_true'] at h17; exact h17))
theorem fs_ext {i : Nat} {e : Ex} : FS M T Xc k pr (.ext i e) := by
  intro X W sc st A h
  have : ∃ x px n q v p p2, st = .Expr (.Call (.Attribute (.Name x px) n q) [v] [] p) p2 ∧ (slB M.N sc i x && decide (n = ("extend" : Str)) && decide (q.endLine = p.line) && nst v && mE M sc e v) = true := by
    unfold mS at h
    split at h
    all_goals first | (exact nof h rfl) | skip
    all_goals first | contradiction | skip
    all_goals rename_i heq
    all_goals first | (cases heq; exact ⟨_, _, _, _, _, _, _, rfl, h⟩) | cases heq
  obtain ⟨x, px, n, q, v, p, p2, rfl, h⟩ := this
  obtain ⟨h, h5⟩ := ba2 h
  obtain ⟨h, h4⟩ := ba2 h
  obtain ⟨h, h3⟩ := ba2 h
  obtain ⟨h1, h2⟩ := ba2 h
  have h2 := of_decide_eq_true h2
  subst h2
  obtain ⟨q1, q2, q3, q4⟩ := sl_of A.toAmb A.scq h1
  have e1 : exS T Xc (.ext i e) = extF i (ev T e) := by
    funext env
    show (match env[i]? with
      | some (some (.o (.list _))) => _
      | _ => stk) = extF i (ev T e) env
    unfold extF
    cases env[i]? with
    | none => rfl
    | some o =>
      cases o with
      | none => rfl
      | some w =>
        cases w with
        | d y => rfl
        | o y =>
          cases y <;> first
            | rfl
            | (show (ev T e env >>= fun p => _) = _
               generalize ev T e env = m
               cases m <;> rfl)
  rw [e1]
  exact s_ext q1 q2 q3 q4 ((fx M T k e) X W sc v A.toAmb A.scq h5).val h4 (by rw [beq_iff_eq]; exact of_decide_eq_true h3)
theorem fs_app {i : Nat} {e : Ex} : FS M T Xc k pr (.app i e) := by
  intro X W sc st A h
  have : ∃ x px n q v p p2, st = .Expr (.Call (.Attribute (.Name x px) n q) [v] [] p) p2 ∧ (slB M.N sc i x && decide (n = ("append" : Str)) && decide (q.endLine = p.line) && nst v && mE M sc e v) = true := by
    unfold mS at h
    split at h
    all_goals first | (exact nof h rfl) | skip
    all_goals first | contradiction | skip
    all_goals rename_i heq
    all_goals first | (cases heq; exact ⟨_, _, _, _, _, _, _, rfl, h⟩) | cases heq
  obtain ⟨x, px, n, q, v, p, p2, rfl, h⟩ := this
  obtain ⟨h, h5⟩ := ba2 h
  obtain ⟨h, h4⟩ := ba2 h
  obtain ⟨h, h3⟩ := ba2 h
  obtain ⟨h1, h2⟩ := ba2 h
  have h2 := of_decide_eq_true h2
  subst h2
  obtain ⟨q1, q2, q3, q4⟩ := sl_of A.toAmb A.scq h1
  have e1 : exS T Xc (.app i e) = appF i (ev T e) := by
    funext env
    show (match env[i]? with
      | some (some (.o (.list _))) => _
      | _ => stk) = appF i (ev T e) env
    unfold appF
    cases env[i]? with
    | none => rfl
    | some o =>
      cases o with
      | none => rfl
      | some w =>
        cases w with
        | d y => rfl
        | o y =>
          cases y with
          | list z =>
            show (ev T e env >>= fun p => _) = (ev T e env >>= fun p => _)
            generalize ev T e env = m
            cases m <;> rfl
          | _ => rfl
  rw [e1]
  exact s_app q1 q2 q3 q4 ((fx M T k e) X W sc v A.toAmb A.scq h5).val h4 (by rw [beq_iff_eq]; exact of_decide_eq_true h3)
theorem fs_exp {e : Ex} : FS M T Xc k pr (.exp e) := by
  intro X W sc st A h
  cases st with
  | Expr v p =>
    obtain ⟨h1, h2⟩ := ba2 (show (!cmpB v && mE M sc e v) = true from h)
    have e1 : exS T Xc (.exp e) = fun env => ev T e env >>= fun p => .ok (.nx, p.2) := by
      funext env
      show (ev T e env >>= fun p => _) = _
      generalize ev T e env = m
      cases m <;> rfl
    rw [e1]
    exact s_exp ((fx M T k e) X W sc v A.toAmb A.scq h2).val (sw_none h1)
  | _ => exact nof h rfl
theorem fs_ret {e : Ex} : FS M T Xc k pr (.ret e) := by
  intro X W sc st A h
  cases st with
  | Return o p =>
    cases o with
    | none => exact nof h rfl
    | some v =>
      have h : mE M sc e v = true := h
      cases hv : e.isVar with
      | none =>
        have e1 : exS T Xc (.ret e) = fun env => ev T e env >>= fun p => .ok (.ret p.1, p.2) := by
          funext env
          show (match e.isVar with
            | some i => _
            | none => ev T e env >>= fun p => _) = _
          rw [hv]
        rw [e1]
        exact s_ret ((fx M T k e) X W sc v A.toAmb A.scq h).val
      | some i =>
        cases e <;> first | (cases hv; done) | skip
        cases hv
        cases v with
        | Name x px =>
          obtain ⟨q1, q2, q3, q4⟩ := sl_of A.toAmb A.scq h
          have e1 : exS T Xc (.ret (.var i)) = retV i := by
            funext env
            show (match env[i]? with
              | some (some (.o x)) => _
              | _ => getV i env >>= fun p => _) = retV i env
            unfold retV
            cases env[i]? with
            | none =>
              show (getV i env >>= fun p => _) = (getV i env >>= fun p => _)
              generalize getV i env = m
              cases m <;> rfl
            | some o =>
              cases o with
              | none =>
                show (getV i env >>= fun p => _) = (getV i env >>= fun p => _)
                generalize getV i env = m
                cases m <;> rfl
              | some w =>
                cases w with
                | o y => rfl
                | d y =>
                  show (getV i env >>= fun p => _) = (getV i env >>= fun p => _)
                  generalize getV i env = m
                  cases m <;> rfl
          rw [e1]
          exact s_retV q1 q2 q3 q4
        | _ => exact nof h rfl
  | _ => exact nof h rfl
theorem fs_retN : FS M T Xc k pr .retN := by
  intro X W sc st A h
  cases st with
  | Return o p =>
    cases o with
    | none => exact s_retN
    | some v => exact nof h rfl
  | _ => exact nof h rfl
theorem ex_iff {c : Ex} {a b : Sms} : exS T Xc (.iff c a b) = iteF (asT (ev T c)) (exB T Xc a) (exB T Xc b) := by
  funext env
  show (asT (fun e => ev T c e) env >>= fun p => _) = _
  unfold iteF
  generalize asT (ev T c) env = m
  cases m <;> rfl
theorem fs_iff {c : Ex} {a b : Sms} (ha : FB M T Xc k pr a) (hb : FB M T Xc k pr b) : FS M T Xc k pr (.iff c a b) := by
  intro X W sc st A h
  cases st with
  | If t x y p =>
    obtain ⟨h, h4⟩ := ba2 (show (tsB c && mE M sc c t && mB M sc pr a x && mB M sc pr b y) = true from h)
    obtain ⟨h, h3⟩ := ba2 h
    obtain ⟨h1, h2⟩ := ba2 h
    rw [ex_iff]
    exact s_if (((fx M T k c) X W sc t A.toAmb A.scq h2).tst h1) (ha X W sc x A h3) (hb X W sc y A h4)
  | _ => exact nof h rfl
theorem fs_for {tg : Tg} {it : Itr} {b : Sms} (hb : FB M T Xc k pr b) : FS M T Xc k pr (.for tg it b) := by
  intro X W sc st A h
  cases st with
  | For t i x el p =>
    cases el with
    | cons _ _ => exact nof h rfl
    | nil =>
      obtain ⟨h, h5⟩ := ba2 (show (tgB M.N sc tg t && tg.sl.all (fun i => !pr.contains i) && plE i && mI M sc (tpOf tg) it i && mB M sc pr b x) = true from h)
      obtain ⟨h, h4⟩ := ba2 h
      obtain ⟨h, h3⟩ := ba2 h
      obtain ⟨h1, h2⟩ := ba2 h
      obtain ⟨t1, t2⟩ := tp_tg h1
      have e1 : exS T Xc (.for tg it b) = forF tg (evI T it) (exB T Xc b) := by
        funext env
        show (evI T it env >>= fun p => _) = _
        unfold forF
        generalize evI T it env = m
        cases m <;> rfl
      rw [e1]
      exact s_for A.po A.calm ((fi M T k it) X W sc _ t i A.toAmb A.scq h4 t2) (pg_tg (sc := sc) A.nd A.calm (sto_def A) (by rw [A.nm]; exact h1)) (hb X W sc x A h5) (fun x => fold_it h3 x) t1 fun j hj => by simpa using List.all_eq_true.mp h2 j hj
  | _ => exact nof h rfl
theorem fs_whl {c : Ex} {b : Sms} (hb : FB M T Xc k pr b) : FS M T Xc k pr (.whl c b) := by
  intro X W sc st A h
  cases st with
  | While t x el p =>
    cases el with
    | cons _ _ => exact nof h rfl
    | nil =>
      obtain ⟨h, h3⟩ := ba2 (show (tsB c && mE M sc c t && mB M sc pr b x) = true from h)
      obtain ⟨h1, h2⟩ := ba2 h
      have e1 : exS T Xc (.whl c b) = whlLoop (asT (ev T c)) (exB T Xc b) fuel := by
        funext env
        rw [exS]
      rw [e1]
      exact s_whl A.po (((fx M T k c) X W sc t A.toAmb A.scq h2).tst h1) (hb X W sc x A h3)
  | _ => exact nof h rfl
theorem fs_pass : FS M T Xc k pr .pass := by
  intro X W sc st A h
  cases st with
  | Pass p => exact s_pass
  | Expr v p =>
    cases v with
    | Constant c j q =>
      cases c with
      | str x => exact s_doc
      | _ => exact nof h rfl
    | _ => exact nof h rfl
  | _ => exact nof h rfl
theorem fb_nil : FB M T Xc k pr .nil := by
  intro X W sc st A h
  cases st with
  | nil => exact b_nil
  | cons _ _ => exact nof h rfl
theorem fb_cons {s : Sm} {ss : Sms} (hs : FS M T Xc k pr s) (hss : FB M T Xc k pr ss) : FB M T Xc k pr (.cons s ss) := by
  intro X W sc st A h
  cases st with
  | nil => exact nof h rfl
  | cons t ts =>
    obtain ⟨h1, h2⟩ := ba2 (show (mS M sc pr s t && mB M sc pr ss ts) = true from h)
    have e1 : exB T Xc (.cons s ss) = seqF (exS T Xc s) (exB T Xc ss) := by
      funext env
      show (exS T Xc s env >>= fun p => _) = _
      unfold seqF
      generalize exS T Xc s env = m
      cases m with
      | error y => rfl
      | ok p =>
        obtain ⟨fl, e⟩ := p
        cases fl <;> rfl
    rw [e1]
    exact b_cons (hs X W sc t A h1) (hss X W sc ts A h2)
end
section
variable (M : Mc) (T : Tb) (Xc : Xcs) (k : Nat) (pr : List Nat)
mutual
theorem fs : ∀ s : Sm, FS M T Xc k pr s
  | .asg i e => fs_asg
  | .asgT is e => fs_asgT
  | .asg2 i j a b => fs_asg2
  | .put i key e => fs_put
  | .aug i op e => fs_aug
  | .app i e => fs_app
  | .ext i e => fs_ext
  | .asg3 i j m a b c => fs_asg3
  | .exp e => fs_exp
  | .ret e => fs_ret
  | .retN => fs_retN
  | .iff c a b => fs_iff (fb a) (fb b)
  | .for tg it b => fs_for (fb b)
  | .whl c b => fs_whl (fb b)
  | .brk => fun X W sc st A h => by cases st <;> first | exact nof h rfl | exact s_brk
  | .cnt => fun X W sc st A h => by cases st <;> first | exact nof h rfl | exact s_cnt
  | .pass => fs_pass
  | .rse c es => fun X W sc st A h => by cases st <;> exact nof h rfl
  | .nev => fun X W sc st A h => s_nev
theorem fb : ∀ s : Sms, FB M T Xc k pr s
  | .nil => fb_nil
  | .cons s ss => fb_cons (fs s) (fb ss)
end
end
end Qv

set_option maxRecDepth 100000
set_option maxHeartbeats 1000000
/-! Q19: a def whose body fits keeps its promise. -/
namespace Qv
open PySem PySem.Spec PyProof.Rows L2
section
variable {K : PySem.W.Frag} {F F' : Addr → Prop} {H H' : Hp} {env' : Evn} {σ' : L2.St} {as : List Vl} {vs : List V} {m : Nat}
theorem ext_at {α : Type} {as : List α} {m i : Nat} {x : α} : (as.map some ++ List.replicate m none)[i]? = some (some x) ↔ as[i]? = some x := by
  rw [List.getElem?_append]
  by_cases h : i < as.length
  · rw [if_pos (by rw [List.length_map]; exact h), List.getElem?_map]
    constructor
    · intro e
      obtain ⟨y, e1, e2⟩ := Option.map_eq_some_iff.mp e
      cases e2
      exact e1
    · intro e
      rw [e]
      rfl
  · rw [if_neg (by rw [List.length_map]; exact h), List.getElem?_replicate]
    constructor
    · intro e
      split at e <;> cases e
    · intro e
      rw [List.getElem?_eq_none (by omega)] at e
      cases e
theorem map_at {α : Type} {as : List α} {i : Nat} {x : α} : (as.map some)[i]? = some (some x) ↔ as[i]? = some x := by
  have := ext_at (as := as) (m := 0) (i := i) (x := x)
  simpa using this
theorem own_ext {a : Addr} : Ownd (as.map some ++ List.replicate m none) (vs.map some ++ List.replicate m none) a ↔ Ownd (as.map some) (vs.map some) a := by
  constructor
  · intro ⟨i, d, h1, h2⟩
    exact ⟨i, d, map_at.mpr (ext_at.mp h1), map_at.mpr (ext_at.mp h2)⟩
  · intro ⟨i, d, h1, h2⟩
    exact ⟨i, d, ext_at.mpr (map_at.mp h1), ext_at.mpr (map_at.mp h2)⟩
theorem good_ext (g : Good K F H (as.map some) (vs.map some)) : Good K F H (as.map some ++ List.replicate m none) (vs.map some ++ List.replicate m none) := by
  refine ⟨?_, fun i d h => ?_, fun i d h => ?_, fun i j d e a h1 h2 h3 h4 => g.inj i j d e a (map_at.mpr (ext_at.mp h1)) (map_at.mpr (ext_at.mp h2)) (map_at.mpr (ext_at.mp h3)) (map_at.mpr (ext_at.mp h4)), g.dom⟩
  · have := g.len
    simp only [List.length_append, List.length_replicate]
    omega
  · obtain ⟨v, h1, h2⟩ := g.sh i d (map_at.mpr (ext_at.mp h))
    exact ⟨v, ext_at.mpr (map_at.mp h1), h2⟩
  · obtain ⟨v, h1, h2⟩ := g.ow i d (map_at.mpr (ext_at.mp h))
    exact ⟨v, ext_at.mpr (map_at.mp h1), h2⟩
/-- the new contents stand where the body left them -/
theorem aft_env : ∀ {as : List Vl} {io : List Bool} {k : Nat} {outs : List PyData}, as.map Vl.isO = io → outsE env' (((io.zipIdx k).filter (·.1)).map (·.2)) = .ok outs →
    (aftA as outs).length = as.length ∧ ∀ i, (∀ d, as[i]? = some (.d d) → (aftA as outs)[i]? = some (.d d)) ∧ (∀ d, as[i]? = some (.o d) → (k + i) ∈ ((io.zipIdx k).filter (·.1)).map (·.2) ∧ ∃ d', (aftA as outs)[i]? = some (.o d') ∧ env'[k + i]? = some (some (.o d')))
  | [], io, k, outs, e, h => ⟨rfl, fun i => ⟨fun d h => by simp at h, fun d h => by simp at h⟩⟩
  | .d x :: r, io, k, outs, e, h => by
    subst e
    have h : outsE env' ((((r.map Vl.isO).zipIdx (k + 1)).filter (·.1)).map (·.2)) = .ok outs := h
    obtain ⟨h1, h2⟩ := aft_env rfl h
    refine ⟨congrArg Nat.succ h1, fun i => ?_⟩
    cases i with
    | zero => exact ⟨fun d h => h, fun d h => by cases h⟩
    | succ i =>
      obtain ⟨h3, h4⟩ := h2 i
      refine ⟨h3, fun d h => ?_⟩
      obtain ⟨h5, d', h6, h7⟩ := h4 d h
      rw [show k + 1 + i = k + (i + 1) by omega] at h5 h7
      exact ⟨h5, d', h6, h7⟩
  | .o x :: r, io, k, outs, e, h => by
    subst e
    have h : outsE env' (k :: (((r.map Vl.isO).zipIdx (k + 1)).filter (·.1)).map (·.2)) = .ok outs := h
    unfold outsE at h
    split at h
    · rename_i y ey
      obtain ⟨os, h1, h⟩ := bindR h
      obtain rfl := ok_in h
      obtain ⟨h1, h2⟩ := aft_env rfl h1
      refine ⟨congrArg Nat.succ h1, fun i => ?_⟩
      cases i with
      | zero =>
        refine ⟨fun d h => (by cases h), fun d h => ⟨?_, y, rfl, ey⟩⟩
        show k + 0 ∈ k :: _
        simp
      | succ i =>
        obtain ⟨h3, h4⟩ := h2 i
        refine ⟨h3, fun d h => ?_⟩
        obtain ⟨h5, d', h6, h7⟩ := h4 d h
        rw [show k + 1 + i = k + (i + 1) by omega] at h5 h7
        exact ⟨List.mem_cons_of_mem _ h5, d', h6, h7⟩
    · exact (not_stk h).elim
theorem lt_as {i : Nat} {as : List Vl} (h : i < as.length) : (∃ d, as[i]? = some (.d d)) ∨ ∃ d, as[i]? = some (.o d) := by
  rw [List.getElem?_eq_getElem h]
  cases as[i] with
  | d x => exact .inl ⟨x, rfl⟩
  | o x => exact .inr ⟨x, rfl⟩
/-- behind the body: the caller's things -/
theorem back {io : List Bool} {outs : List PyData} (g0 : Good K F H (as.map some) (vs.map some)) (hio : as.map Vl.isO = io) (A : AftS K (ioIx io) F H (as.map some ++ List.replicate m none) (vs.map some ++ List.replicate m none) F' H' env' σ') (ho : outsE env' (ioIx io) = .ok outs) :
    Good K F' H' ((aftA as outs).map some) (vs.map some) ∧ (∀ a, Ownd ((aftA as outs).map some) (vs.map some) a → Ownd env' σ' a) ∧ (∀ a, Ownd (as.map some) (vs.map some) a → Ownd env' σ' a) := by
  obtain ⟨hl, hat⟩ := aft_env hio (k := 0) ho
  have k : Kp F H F' H' := A.kp (good_ext g0)
  have dn : ∀ {i : Nat} {d : PyData}, (aftA as outs)[i]? = some (.d d) → as[i]? = some (.d d) := fun {i d} h => by
    have hi : i < as.length := by rw [← hl]; exact (List.getElem?_eq_some_iff.mp h).1
    rcases lt_as hi with ⟨e, he⟩ | ⟨e, he⟩
    · rw [(hat i).1 e he] at h
      cases h
      exact he
    · obtain ⟨_, d', h1, _⟩ := (hat i).2 e he
      rw [h1] at h
      cases h
  have on : ∀ {i : Nat} {d : PyData}, (aftA as outs)[i]? = some (.o d) → (∃ e, as[i]? = some (.o e)) ∧ env'[i]? = some (some (.o d)) ∧ ∀ v, vs[i]? = some v → σ'[i]? = some (some v) := fun {i d} h => by
    have hi : i < as.length := by rw [← hl]; exact (List.getElem?_eq_some_iff.mp h).1
    rcases lt_as hi with ⟨e, he⟩ | ⟨e, he⟩
    · rw [(hat i).1 e he] at h
      cases h
    · obtain ⟨h0, d', h1, h2⟩ := (hat i).2 e he
      rw [h1] at h
      cases h
      rw [Nat.zero_add] at h0 h2
      exact ⟨⟨e, he⟩, h2, fun v hv => by rw [A.pr i h0]; exact ext_at.mpr hv⟩
  refine ⟨⟨by have := g0.len; simp only [List.length_map] at this ⊢; omega, fun i d h => ?_, fun i d h => ?_, fun i j d e a h1 h2 h3 h4 => ?_, A.good.dom⟩, fun a ⟨i, d, h1, h2⟩ => ?_, fun a ⟨i, d, h1, h2⟩ => ?_⟩
  · obtain ⟨v, h1, h2⟩ := g0.sh i d (map_at.mpr (dn (map_at.mp h)))
    exact ⟨v, h1, h2.keep k⟩
  · obtain ⟨⟨e, he⟩, h2, h3⟩ := on (map_at.mp h)
    obtain ⟨a, ha, _⟩ := g0.ow i e (map_at.mpr he)
    obtain ⟨b, hb, n, c⟩ := A.good.ow i d h2
    rw [h3 _ (map_at.mp ha)] at hb
    cases hb
    exact ⟨a, ha, n, c⟩
  · obtain ⟨⟨x, hx⟩, _⟩ := on (map_at.mp h1)
    obtain ⟨⟨y, hy⟩, _⟩ := on (map_at.mp h2)
    exact g0.inj i j x y a (map_at.mpr hx) (map_at.mpr hy) h3 h4
  · obtain ⟨_, h3, h4⟩ := on (map_at.mp h1)
    exact ⟨i, d, h3, h4 _ (map_at.mp h2)⟩
  · obtain ⟨h0, d', h3, h4⟩ := (hat i).2 d (map_at.mp h1)
    rw [Nat.zero_add] at h0 h4
    exact ⟨i, d', h4, by rw [A.pr i h0]; exact ext_at.mpr (map_at.mp h2)⟩
end
section
variable {P : Program} {w : World} {K : PySem.W.Frag} {mg : Str → Option Value} {base : Heap} {k : Nat} {f : Addr} {x : Str} {name qual : Str} {params : Arguments} {body : List Stmt} {scope : Scope} {dV kV doc pm cdv ct oc : Value} {an od : Option Addr} {osl : Array (Option Value)}
/-- the promise, from the body's reading -/
theorem sp_body {T : Tb} {Xc : Xcs} {n : Nat} {io : List Bool} {bd : Sms} {N : List Str} {ps : List Str} {vs : List V} {H : Hp} {Q : VK} {E : XK} (hn : n = N.length) (h : spF K ps.length (runD T Xc n io bd) vs H Q E) :
    tS K (fun cls d _ H => E cls d H) (ioIx io) (exB T Xc bd) { nx := fun _ H' => Q .non H', rt := Q } (L2.start N vs) H := by
  obtain ⟨hl, F, as, g0, h⟩ := h
  have la : as.length = vs.length := by have := g0.len; simpa using this.symm
  have hrun : runD T Xc n io bd as = (grd (decide (as.map Vl.isO = io)) () >>= fun _ => exB T Xc bd (as.map some ++ List.replicate (n - as.length) none) >>= fun p => match p.1 with
    | .ret r => outsE p.2 (ioIx io) >>= fun os => .ok (r, os)
    | .nx => outsE p.2 (ioIx io) >>= fun os => .ok (.d .none, os)
    | _ => stk) := by
    unfold runD
    refine congrArg _ (funext fun _ => congrArg _ (funext fun p => ?_))
    obtain ⟨fl, e⟩ := p
    cases fl <;> rfl
  rw [hrun] at h
  cases hio : decide (as.map Vl.isO = io) with
  | false => rw [hio] at h; exact h.elim
  | true =>
    rw [hio] at h
    have hio := of_decide_eq_true hio
    have es : L2.start N vs = vs.map some ++ List.replicate (n - as.length) none := by unfold L2.start; rw [hn, la]
    rw [es]
    refine ⟨F, as.map some ++ List.replicate (n - as.length) none, good_ext g0, ?_⟩
    cases hb : exB T Xc bd (as.map some ++ List.replicate (n - as.length) none) with
    | error y =>
      rw [hb] at h
      cases y with
      | stuck => exact h
      | exc c fs => exact fun cls d σ' F' H' st ex => h cls d F' H' (st.weak fun a w => .inl (own_ext.mp w)) ex
    | ok p =>
      obtain ⟨fl, env'⟩ := p
      rw [hb] at h
      have noexc : ∀ {is : List Nat} c fs, outsE env' is ≠ .error (.exc c fs) := by
        intro is
        induction is with
        | nil => intro c fs; exact nofun
        | cons i r ih =>
          intro c fs e
          unfold outsE at e
          split at e
          · cases h1 : outsE env' r with
            | error y =>
              rw [h1] at e
              have e : (Except.error y : Rs (List PyData)) = .error (.exc c fs) := e
              cases e
              exact ih c fs h1
            | ok os => rw [h1] at e; cases e
          · cases e
      have fin : ∀ {r : Vl}, (match (outsE env' (ioIx io) >>= fun os => (.ok (r, os) : Rs (Vl × List PyData))) with
          | .ok (r, outs) => ∀ v F' H', Stp (Ownd (as.map some) (vs.map some)) F H F' H' → Good K F' H' ((aftA as outs).map some) (vs.map some) → ResV K (vs.map some) (fun a => H a = none) F' H' ((aftA as outs).map some) v r → Q v H'
          | .error (.exc c fs) => ∀ cls d F' H', Stp (Ownd (as.map some) (vs.map some)) F H F' H' → ExcR K F' H' cls d c fs → E cls d H'
          | .error .stuck => False) → ∀ v σ' F' H', AftS K (ioIx io) F H (as.map some ++ List.replicate (n - as.length) none) (vs.map some ++ List.replicate (n - as.length) none) F' H' env' σ' →
            ResV K σ' (Nw H (as.map some ++ List.replicate (n - as.length) none) (vs.map some ++ List.replicate (n - as.length) none)) F' H' env' v r → Q v H' := by
        intro r h v σ' F' H' A q
        cases ho : outsE env' (ioIx io) with
        | error y =>
          rw [ho] at h
          cases y with
          | stuck => exact h.elim
          | exc c fs => exact absurd ho (noexc c fs)
        | ok outs =>
          rw [ho] at h
          obtain ⟨g1, own1, own2⟩ := back g0 hio A ho
          refine h v F' H' (A.stp.weak fun a w => .inl (own_ext.mp w)) g1 ?_
          cases r with
          | d y => exact q
          | o y =>
            obtain ⟨a, e1, n1, n2, c, z⟩ := q
            refine ⟨a, e1, n1, fun w => n2 (own1 a w), c, ?_⟩
            rcases z with z | z
            · exact z
            · exact absurd (own2 a (own_ext.mp z)) n2
      cases fl with
      | nx => exact fun σ' F' H' A => fin (r := .d .none) h .non σ' F' H' A .non
      | ret r => exact fun v σ' F' H' A q => fin h v σ' F' H' A q
      | brk => exact h.elim
      | cnt => exact h.elim
/-- THE RULE for a def -/
theorem def_ok {M : Mc} {T : Tb} {Xc : Xcs} {io : List Bool} {dfl : List PyData} {bd : Sms} {ps : List Str} (lk : K.lookup f = some ⟨oc, od, .func (PySem.W.fnOf name qual params body scope dV kV doc pm an cdv ct), osl⟩) (hcd : PySem.W.codeIn K cdv qual = true) (S : FnScope M.N ps scope)
    (hm : mB M scope (ioIx io) bd body = true) (at' : mg x = some (.ref f)) (kp : PySem.W.keepIn K (.ref f) = true) (bl : ∀ y ∈ M.B, mg y = none) (cs : ∀ y c, M.C.lookup y = some c → ∃ u, mg y = some u ∧ RelV (L2.kV c) u)
    (fs : ∀ g fd, T.lookup g = some fd → M.sg.lookup g = some (fd.ps, fd.io) ∧ ∃ fa dt, FnG P w K mg base (CX P w) k g fd fa dt ∧ ∀ n ks, (g, n, ks) ∈ M.sh → BnG K fd dt n ks) :
    FnG P w K mg base (CX P w) (k + 1) x ⟨ps, io, dfl, runD T Xc M.N.length io bd⟩ f (PySem.W.fnOf name qual params body scope dV kV doc pm an cdv ct) := by
  refine ⟨at', kp, fun A outer s H args us vs Q E hr hg e0 hb r hsp => ?_⟩
  have hl : vs.length = ps.length := hsp.1
  have KX : K.In s.heap := e0.mod.kin.keeps fun b o e => (e0.bs b o e).1
  have lim : s.heap.NoLimit := e0.mod.nolimit.keeps fun b o e => (e0.bs b o e).1
  have hkind : ∀ y ∈ ps.zip us, scope.names.lookup y.1 = some .local ∨ (scope.names.lookup y.1 = some .cell ∧ ((cellsFrom (s.heap.objs.size + 1) scope.names []).lookup y.1).isSome = true) := fun ⟨n, v⟩ hy =>
    (S.par n (List.of_mem_zip hy).1).imp id fun q => ⟨q, PySem.W.cellsFrom_some _ _ _ (.inl q)⟩
  refine codeAny_call_function hr.depth (KX _ _ lk) rfl S.co S.gen rfl (PySem.W.codeRec_of KX hcd) (hb _ _ _ _ ?_)
  refine wpAny_newFunctionEnv_cells S.kind hkind fun env he s1 x => ?_
  subst he
  refine ⟨lim.keeps x.toInCall.keep, codeAny_func ?_⟩
  have I : Inv (cxOf (CX P w) P w K mg base M.N qual scope f cdv A outer s H E) [] (L2.start M.N vs) H s1 := inv_start S hr.hd e0 hl r x
  have AS : AmbS M T k (cxOf (CX P w) P w K mg base M.N qual scope f cdv A outer s H E) (fun cls d _ H => E cls d H) scope :=
    { nm := rfl, nd := S.nd, calm := rfl, room := hr.deeper _, gd := hg, tk := takes_of rfl rfl rfl rfl, bl := bl, cs := cs, fs := fs, scq := rfl, kind := S.kind, fn := fun _ => rfl, po := passes_of rfl }
  have hB := fb M T Xc k (ioIx io) bd _ _ scope body AS hm
  refine wpAny_mono (hB.run [] s1 (L2.start M.N vs) H _ I (sp_body (ps := ps) rfl hsp)) (fun fl s' hs => ?_) fun e s' hs => hs
  have fin : ∀ {σ' : L2.St} {H' : Hp} {v : V} {u : Value}, Inv (cxOf (CX P w) P w K mg base M.N qual scope f cdv A outer s H E) [] σ' H' s' → RelV v u → Q v H' → CE outer P w H s Q u s' :=
    fun {σ' H' v u} J rv q => ⟨v, H', J.os, J.bare, J.base, J.hok, rv, q⟩
  cases fl with
  | ret u => obtain ⟨v, σ', H', J, rv, q⟩ := hs; exact fin J rv q
  | next => obtain ⟨σ', H', J, q⟩ := hs; exact fin (v := V.non) (u := Value.none) J rfl q
  | brk => obtain ⟨_, _, _, q⟩ := hs; exact q.elim
  | cont => obtain ⟨_, _, _, q⟩ := hs; exact q.elim
end
end Qv

set_option maxRecDepth 100000
set_option maxHeartbeats 1000000
/-! Q20: a law's end. -/
namespace Qv
open PySem PySem.Spec PyProof.Rows L2
theorem rp_ints {K : PySem.W.Frag} {F : Addr → Prop} {H : Hp} : ∀ ns : List Int, RpA K F H (ns.map V.int) (ns.map PyData.int)
  | [] => .nil
  | n :: ns => .cons (.int n) (rp_ints ns)
/-- the law's def, called from outside -/
theorem law_callG {P : Program} {w : World} {K : PySem.W.Frag} {mg mb : Str → Option Value} {k : Nat} {fa a : Addr} {x nm : Str} {fd : Fd} {dt : FuncData} {s₁ : Shared} {vs : List Value} {ns : List Int}
    (KX : K.In s₁.heap) (hns : s₁.heap.Ns mainGlobals mg) (hb : s₁.heap.Ns builtinsNs mb) (hbb : ∀ x : Str, x ≠ "__name__" → mb x = bootBuiltins x) (hlim : s₁.heap.NoLimit) (hg : s₁.gens = #[])
    (ha : s₁.heap.get? a = some { cls := .type "list", data := .seq vs.toArray }) (hi : IntsAre vs ns) (hl : ns.length ≤ sizeLine) (hr : Room k callerA)
    (F : ∀ base : Heap, K.In base → base.Ns mainGlobals mg → FnG P w K mg base (CX P w) k nm fd fa dt) (hps : fd.ps = [x]) (hbind : ∀ (s : Shared) (u : Value), BindsTo s dt ⟨[u], []⟩ [(x, u)])
    (hrun : fd.run [.d (.list (ns.map .int))] = .ok (.d (.bool true), [])) :
    codeAny (model P w) callerA (.call (.ref fa) ⟨[.ref a], []⟩) (fun r s' => r = .ok (.ret (.bool true)) ∧ OldK s₁.heap s'.heap ∧ s'.os = s₁.os ∧ AllBare s'.gens) s₁ := by
  have rv := vals_ints hi
  have lenV := hi.length
  have core : ∀ H : Hp, Only H → LsF K H a (ns.map V.int) → HOk P w H s₁.heap → (∀ b, H b ≠ none → b = a) → (H a ≠ none → K.lookup a = none) →
      codeAny (model P w) callerA (.call (.ref fa) ⟨[.ref a], []⟩) (fun r s' => r = .ok (.ret (.bool true)) ∧ OldK s₁.heap s'.heap ∧ s'.os = s₁.os ∧ AllBare s'.gens) s₁ := by
    intro H hO hS hok hA hK
    have noA : ∀ {b : Addr} {o : Obj} {es : Array DictEntry} {ep : Nat}, s₁.heap.get? b = some o → o.data = .dict es ep → H b = none := fun {b o es ep} e d => by
      cases q : H b with
      | none => rfl
      | some u =>
        have e' : b = a := hA b (by rw [q]; simp)
        subst e'
        rw [ha] at e
        cases e
        have d' : Data.seq vs.toArray _ = Data.dict es ep := d
        cases d'
    have nsK : ∀ {b : Addr} {m : Str → Option Value}, s₁.heap.Ns b m → (hidT s₁.heap H).Ns b m := fun {b m} ⟨o, es, ep, e, d, r⟩ => ⟨o, es, ep, hidT_get e (noA e d), d, r⟩
    have hKb : K.In (hidT s₁.heap H) := fun b o e => hidT_get (KX b o e) (by
      cases q : H b with
      | none => rfl
      | some u =>
        have e' : b = a := hA b (by rw [q]; simp)
        subst e'
        rw [hK (by rw [q]; simp)] at e
        cases e)
    have hM : Mod K mg (hidT s₁.heap H) := ⟨hKb, nsK hns, ⟨mb, nsK hb, hbb⟩, let ⟨mc, h1, h2⟩ := hlim; ⟨mc, nsK h1, h2⟩⟩
    have e0 : Env0 P w K mg (hidT s₁.heap H) callerA [] s₁ H := ⟨rfl, hM, fun b o e => of_hidT e, Nat.le_of_eq (hidT_size _ _), trivial, fun b hb => absurd (show b ∈ ([] : List Addr) from hb) (by simp), hok, .of_eq hg⟩
    have rp : Rp K (fun _ => False) H (.ref a) (.list (ns.map .int)) := .frz hS (rp_ints ns)
    have sp : spF K fd.ps.length fd.run [V.ref a] H (fun v _ => v = .bl true) fun _ _ _ => False := by
      refine ⟨by rw [hps]; rfl, fun _ => False, [.d (.list (ns.map .int))], ⟨rfl, fun i d h => ?_, fun i d h => ?_, fun i j d e b h1 _ _ _ => ?_, fun _ f => f.elim⟩, ?_⟩
      · cases i with
        | zero =>
          cases h
          exact ⟨_, rfl, rp⟩
        | succ i => simp at h
      · cases i with
        | zero => cases h
        | succ i => simp at h
      · cases i with
        | zero => cases h1
        | succ i => simp at h1
      · rw [hrun]
        intro v F' H' _ _ q
        cases q
        rfl
    refine codeAny_mono ((F _ hKb (nsK hns)).run callerA [] s₁ H ⟨[.ref a], []⟩ [.ref a] [.ref a] _ _ hr rfl e0 (by rw [hps]; exact hbind s₁ (.ref a)) (.cons rfl .nil) sp) fun r s' h => ?_
    cases r with
    | error e =>
      obtain ⟨_, _, _, _, _, _, _, _, _, _, _, _, z⟩ := (show CX P w [] H s₁ (fun _ _ _ => False) e s' from h)
      exact z.elim
    | ok fl =>
      cases fl with
      | next => exact False.elim h
      | brk => exact False.elim h
      | cont => exact False.elim h
      | ret u =>
        obtain ⟨v, H', os, bare, un, hok', r', q⟩ := h
        have q' : v = .bl true := q
        subst q'
        obtain rfl : u = Value.bool true := r'
        refine ⟨rfl, OldK.of_keep fun b o e => ?_, os, bare⟩
        cases q : H b with
        | none => exact un.keep b o e q (by intro z; exact absurd (show b ∈ ([] : List Addr) from z) (by simp)) (by simp)
        | some u =>
          rcases hO b with z | ⟨ob, xs, z⟩
          · rw [q] at z; cases z
          · have z2 := un.frzs b ob _ z
            obtain ⟨e1, _⟩ := hok b _ z
            obtain ⟨e2, _⟩ := hok' b _ z2
            rw [e] at e1
            cases e1
            exact e2
  cases hk : K.lookup a with
  | some o =>
    have e := KX a o hk
    rw [ha] at e
    cases e
    refine core (fun _ => none) (fun _ => .inl rfl) (.inr ⟨vs.toArray, _, hk, by rw [List.size_toArray, lenV]; exact hl, by simpa using rv⟩) (fun b u z => by have z' : (none : Option HO) = some u := z; cases z') (fun b z => absurd rfl z) fun z => absurd rfl z
  | none =>
    refine core (fun b => if b = a then some (.frz { cls := .type "list", data := .seq vs.toArray } (.lst (ns.map V.int))) else none) (fun b => ?_) (.inl ⟨{ cls := .type "list", data := .seq vs.toArray }, if_pos rfl⟩) (fun b u z => ?_) (fun b z => ?_) fun _ => hk
    · by_cases hb : b = a
      · exact .inr ⟨_, _, if_pos hb⟩
      · exact .inl (if_neg hb)
    · by_cases hb : b = a
      · have z' := (if_pos hb).symm.trans z
        cases z'
        subst hb
        exact ⟨ha, by rw [List.length_map]; exact hl, vs, _, rv, ha⟩
      · have z' := (if_neg hb).symm.trans z
        cases z'
    · by_cases hb : b = a
      · exact hb
      · exact absurd (if_neg hb) z
/-- a law over a head by facts -/
theorem walkG {l : PySem.W.OpenLaw} {n k : Nat} {q : Program} {loose : List Str} {XP : (Str → Option Value) → Heap → Prop} {YP : World → Heap → Prop} {d : DefRec} {x nm : Str}
    (hn : l.most = some n) (hn2 : n ≤ sizeLine) (hdf : d.params.defaults = []) (hr : Room k callerA)
    (F : ∀ (w : World) (mg : Str → Option Value) (fa : Addr) (h : Heap), YP w h → h.Ns mainGlobals mg → mg d.name = some (.ref fa) →
      ∃ (K : PySem.W.Frag) (dt : FuncData) (fd : Fd), K.In h ∧ (∀ (s : Shared) (u : Value), BindsTo s dt ⟨[u], []⟩ [(x, u)]) ∧ fd.ps = [x] ∧
        (∀ ns : List Int, ns.length ≤ n → fd.run [.d (.list (ns.map .int))] = .ok (.d (.bool true), [])) ∧
        ∀ base : Heap, K.In base → base.Ns mainGlobals mg → FnG l.prog w K mg base (CX l.prog w) k nm fd fa dt) :
    PySem.W.WalkO q loose XP YP l.row.toRowW d [] (fun f vs => PySem.call f vs) := by
  refine Att.attach_call hn hdf fun w s₀ s₁ mg mb fa o pm cd doc a vs ns G Y ho hd hcd hmg hobj hints hlen hg => ?_
  obtain ⟨K, dt, fd, KX, hb, hps, hrun, hF⟩ := F w mg fa _ Y G.T.g hmg
  exact law_callG KX G.T.g G.T.b G.T.builtins G.T.nolimit hg hobj hints (Nat.le_trans hlen hn2) hr hF hps hb (hrun ns hlen)
end Qv

set_option maxRecDepth 100000
set_option maxHeartbeats 1000000
/-! Q21: the defs of a program, one behind another. -/
namespace Qv
open PySem PySem.Spec PyProof.Rows L2
/-- a def that is called: its name, what it computes, the shapes of the calls -/
structure Cl where
  nm : Str
  fd : Fd
  shs : List (Nat × List Str)
def tbOf (cal : List Cl) : Tb := cal.map fun c => (c.nm, c.fd)
def sgOf (cal : List Cl) : List (Str × List Str × List Bool) := cal.map fun c => (c.nm, c.fd.ps, c.fd.io)
def shOf (cal : List Cl) : List (Str × Nat × List Str) := cal.flatMap fun c => c.shs.map fun s => (c.nm, s.1, s.2)
structure Ok (P : Program) (w : World) (K : PySem.W.Frag) (mg : Str → Option Value) (base : Heap) (k : Nat) (c : Cl) : Prop where
  ex : ∃ fa dt, FnG P w K mg base (CX P w) k c.nm c.fd fa dt ∧ ∀ s ∈ c.shs, BnG K c.fd dt s.1 s.2
section
variable {P : Program} {w : World} {K : PySem.W.Frag} {mg : Str → Option Value} {base : Heap} {k j : Nat}
theorem FnG.mono {x : Str} {fd : Fd} {f : Addr} {dt : FuncData} (h : FnG P w K mg base (CX P w) j x fd f dt) (hk : j ≤ k) : FnG P w K mg base (CX P w) k x fd f dt :=
  ⟨h.at', h.kp, fun A outer s H args us vs Q E hr => h.run A outer s H args us vs Q E (hr.mono hk)⟩
theorem Ok.mono {c : Cl} (h : Ok P w K mg base j c) (hk : j ≤ k) : Ok P w K mg base k c := by
  obtain ⟨fa, dt, h1, h2⟩ := h.ex
  exact ⟨fa, dt, h1.mono hk, h2⟩
/-- all of them -/
inductive Oks (P : Program) (w : World) (K : PySem.W.Frag) (mg : Str → Option Value) (base : Heap) (k : Nat) : List Cl → Prop
  | nil : Oks P w K mg base k []
  | cons {c : Cl} {r : List Cl} {j : Nat} : Ok P w K mg base j c → j ≤ k → Oks P w K mg base k r → Oks P w K mg base k (c :: r)
def nodupS : List Str → Bool
  | [] => true
  | x :: r => !r.contains x && nodupS r
theorem oks_fs {P : Program} {w : World} {K : PySem.W.Frag} {mg : Str → Option Value} {base : Heap} {k : Nat} {sh : List (Str × Nat × List Str)} {sg : List (Str × List Str × List Bool)} : ∀ {cal : List Cl}, Oks P w K mg base k cal → nodupS (cal.map (·.nm)) = true →
    ∀ g fd, (tbOf cal).lookup g = some fd → (sgOf cal).lookup g = some (fd.ps, fd.io) ∧ ∃ fa dt, FnG P w K mg base (CX P w) k g fd fa dt ∧ ∀ n ks, (g, n, ks) ∈ shOf cal → BnG K fd dt n ks
  | [], _, _, g, fd, e => by cases e
  | c :: r, .cons h hk hr, hn, g, fd, e => by
    obtain ⟨n1, n2⟩ := ba2 (show (!(r.map (·.nm)).contains c.nm && nodupS (r.map (·.nm))) = true from hn)
    have n1 : c.nm ∉ r.map (·.nm) := fun q => by
      rw [Bool.not_eq_true', ← Bool.not_eq_true] at n1
      exact n1 (by simpa using q)
    have in_r : ∀ {y : Str} {n : Nat} {ks : List Str}, (y, n, ks) ∈ shOf r → y ∈ r.map (·.nm) := fun {y n ks} h => by
      obtain ⟨d, h1, h2⟩ := List.mem_flatMap.mp h
      obtain ⟨s, h3, h4⟩ := List.mem_map.mp h2
      cases h4
      exact List.mem_map_of_mem h1
    have e : ((c.nm, c.fd) :: tbOf r).lookup g = some fd := e
    show ((c.nm, (c.fd.ps, c.fd.io)) :: sgOf r).lookup g = _ ∧ _
    rw [List.lookup_cons] at e ⊢
    by_cases q : (g == c.nm) = true
    · rw [q] at e ⊢
      cases e
      have q := beq_iff_eq.mp q
      subst q
      obtain ⟨fa, dt, h1, h2⟩ := h.ex
      refine ⟨rfl, fa, dt, h1.mono hk, fun n ks hm => ?_⟩
      rcases List.mem_append.mp (show (c.nm, n, ks) ∈ (c.shs.map fun s => (c.nm, s.1, s.2)) ++ shOf r from hm) with hm | hm
      · obtain ⟨s, h3, h4⟩ := List.mem_map.mp hm
        cases h4
        exact h2 s h3
      · exact absurd (in_r hm) n1
    · rw [Bool.not_eq_true] at q
      rw [q] at e ⊢
      obtain ⟨h1, fa, dt, h2, h3⟩ := oks_fs (sh := sh) (sg := sg) hr n2 g fd e
      refine ⟨h1, fa, dt, h2, fun n ks hm => h3 n ks ?_⟩
      rcases List.mem_append.mp (show (g, n, ks) ∈ (c.shs.map fun s => (c.nm, s.1, s.2)) ++ shOf r from hm) with hm | hm
      · obtain ⟨s, _, h4⟩ := List.mem_map.mp hm
        cases h4
        simp at q
      · exact hm
def scB (N ps : List Str) (sc : Scope) : Bool := decide (sc.kind = .function) && !sc.isCoroutine && !sc.isGenerator && nodupS N && decide (N.take ps.length = ps) && ps.all (fun x => locB sc x) && sc.names.all (fun y => decide (y.2 ≠ .free))
theorem nodup_of : ∀ {l : List Str}, nodupS l = true → l.Nodup
  | [], _ => .nil
  | x :: r, h => by
    obtain ⟨h1, h2⟩ := ba2 (show (!r.contains x && nodupS r) = true from h)
    refine List.nodup_cons.mpr ⟨fun q => ?_, nodup_of h2⟩
    rw [Bool.not_eq_true', ← Bool.not_eq_true] at h1
    exact h1 (by simpa using q)
theorem sc_of {N ps : List Str} {sc : Scope} (h : scB N ps sc = true) : FnScope N ps sc := by
  unfold scB at h
  obtain ⟨h, h7⟩ := ba2 h
  obtain ⟨h, h6⟩ := ba2 h
  obtain ⟨h, h5⟩ := ba2 h
  obtain ⟨h, h4⟩ := ba2 h
  obtain ⟨h, h3⟩ := ba2 h
  obtain ⟨h1, h2⟩ := ba2 h
  exact ⟨of_decide_eq_true h1, by simpa using h2, by simpa using h3, nodup_of h4, of_decide_eq_true h5, fun x hx => loc_of (List.all_eq_true.mp h6 x hx), fun y hy => of_decide_eq_true (List.all_eq_true.mp h7 y hy)⟩
/-- what stands for all defs: the built-in names are free, the constants -/
structure Env1 (K : PySem.W.Frag) (mg : Str → Option Value) (B : List Str) (C : List (Str × Key)) : Prop where
  bl : ∀ y ∈ B, mg y = none
  cs : ∀ y c, C.lookup y = some c → ∃ u, mg y = some u ∧ RelV (L2.kV c) u
theorem def_allG {B : List Str} {C : List (Str × Key)} (E1 : Env1 K mg B C) {cal : List Cl} {N ps : List Str} {io : List Bool} {dfl : List PyData} {bd : Sms} {x qual : Str} {params : Arguments} {body : List Stmt} {scope : Scope} {dvs : List V} {kws : List (Str × V)} {f : Addr} {dt : FuncData}
    (D : FunD K x qual params body scope dvs kws f dt) (at' : mg x = some (.ref f)) (S : scB N ps scope = true) (hn : nodupS (cal.map (·.nm)) = true) (hm : mB ⟨N, sgOf cal, shOf cal, B, C⟩ scope (ioIx io) bd body = true) (hc : Oks P w K mg base k cal) :
    FnG P w K mg base (CX P w) (k + 1) x ⟨ps, io, dfl, runD (tbOf cal) [] N.length io bd⟩ f dt := by
  obtain ⟨oc, od, dV, kV, doc, pm, an, cdv, ct, osl, rfl, lk, hcd, _, _⟩ := D.ex
  refine def_ok (M := ⟨N, sgOf cal, shOf cal, B, C⟩) lk hcd (sc_of S) hm at' D.kp E1.bl E1.cs ?_
  exact oks_fs (sh := []) (sg := []) hc hn
theorem def_all {B : List Str} {C : List (Str × Key)} (E1 : Env1 K mg B C) {cal : List Cl} {N ps : List Str} {io : List Bool} {dfl : List PyData} {bd : Sms} {x qual : Str} {params : Arguments} {body : List Stmt} {scope : Scope} {dvs : List V} {kws : List (Str × V)} {f : Addr} {dt : FuncData} {shs : List (Nat × List Str)}
    (D : FunD K x qual params body scope dvs kws f dt) (at' : mg x = some (.ref f)) (S : scB N ps scope = true) (hn : nodupS (cal.map (·.nm)) = true) (hm : mB ⟨N, sgOf cal, shOf cal, B, C⟩ scope (ioIx io) bd body = true) (hc : Oks P w K mg base k cal)
    (hsh : ∀ s ∈ shs, BnG K ⟨ps, io, dfl, runD (tbOf cal) [] N.length io bd⟩ dt s.1 s.2) : Ok P w K mg base (k + 1) ⟨x, ⟨ps, io, dfl, runD (tbOf cal) [] N.length io bd⟩, shs⟩ :=
  ⟨f, dt, def_allG E1 D at' S hn hm hc, hsh⟩
/-- a call's shape, no defaults -/
theorem bn0 {x q : Str} {params : Arguments} {body : List Stmt} {scope : Scope} {kws : List (Str × V)} {f : Addr} {dt : FuncData} {ps ks : List Str} {io : List Bool} {run : List Vl → Rs (Vl × List PyData)} {n : Nat} (D : FunD K x q params body scope [] kws f dt)
    (h : ∀ (kV doc pm : Value) (an : Option Addr) (cdv ct : Value) (us ws : List Value), us.length = n → ws.length = ks.length → ∃ all, arrG [] us ks ws ps.length ps 0 = some all ∧ bindArgs (PySem.W.fnOf x q params body scope .none kV doc pm an cdv ct) ⟨us, ks.zip ws⟩ = pure (ps.zip all)) : BnG K ⟨ps, io, [], run⟩ dt n ks := by
  obtain ⟨oc, od, dV, kV, doc, pm, an, cdv, ct, osl, rfl, lk, hcd, hD, hK⟩ := D.ex
  rcases hD with ⟨_, rfl⟩ | ⟨e, _⟩
  · exact ⟨[], [], .nil, fun _ _ => .nil, fun s us ws _ h1 h2 => let ⟨all, h3, h4⟩ := h kV doc pm an cdv ct us ws h1 h2; ⟨all, h3, .of_eq h4⟩⟩
  · exact absurd rfl e
/-- .. with defaults -/
theorem bn1 {x q : Str} {params : Arguments} {body : List Stmt} {scope : Scope} {dvs : List V} {kws : List (Str × V)} {f : Addr} {dt : FuncData} {ps ks : List Str} {io : List Bool} {dfl : List PyData} {run : List Vl → Rs (Vl × List PyData)} {n : Nat} (D : FunD K x q params body scope dvs kws f dt) (hd : dvs ≠ []) (hdd : ∀ F H, RpA K F H dvs dfl)
    (h : ∀ (T : Addr) (kV doc pm : Value) (an : Option Addr) (cdv ct : Value) (us ws its : List Value), us.length = n → ws.length = ks.length → its.length = dvs.length → ∃ all k, arrG its us ks ws ps.length ps 0 = some all ∧ bindArgs (PySem.W.fnOf x q params body scope (.ref T) kV doc pm an cdv ct) ⟨us, ks.zip ws⟩ = seqItems? (.ref T) >>= k ∧ k (some its.toArray) = pure (ps.zip all)) : BnG K ⟨ps, io, dfl, run⟩ dt n ks := by
  obtain ⟨oc, od, dV, kV, doc, pm, an, cdv, ct, osl, rfl, lk, hcd, hD, hK⟩ := D.ex
  rcases hD with ⟨e, _⟩ | ⟨_, T, o, its, m, rfl, lT, oT, rT⟩
  · exact absurd e hd
  · refine ⟨dvs, its, rT, hdd, fun s us ws X h1 h2 => ?_⟩
    obtain ⟨all, k, h3, h4, h5⟩ := h T kV doc pm an cdv ct us ws its h1 h2 rT.length.symm
    refine ⟨all, h3, BindsTo.of_looks fun M => ?_⟩
    rw [h4]
    exact looks_items X lT oT (.of_pure h5)
end
end Qv

set_option maxRecDepth 100000
/-! QL: running the evaluator: comprehensions as filter and map. -/
namespace Qv
open PySem
/-- a comprehension whose turns leave nothing behind but their own places -/
theorem lc_run {vs : List Nat} {elt : Evn → Rs (Vl × Evn)} {tg : Tg} {ts : Evn → Rs (Bool × Evn)} (base : Evn) (c : PyData → Bool) (f : PyData → PyData) :
    ∀ (items acc : List PyData) (env : Evn), wipeE env vs = base → acc.length + items.length ≤ lim →
    (∀ x ∈ items, ∃ e1 e2, bindT tg x base = .ok e1 ∧ ts e1 = .ok (c x, e2) ∧ wipeE e2 vs = base ∧ (c x = true → ∃ r e3, elt e2 = .ok (r, e3) ∧ r.x = f x ∧ wipeE e3 vs = base)) →
    ∃ env', lcLoop vs elt tg ts items acc env = .ok (acc ++ (items.filter c).map f, env') ∧ wipeE env' vs = base
  | [], acc, env, hb, _, _ => ⟨env, by simp [lcLoop], hb⟩
  | x :: xs, acc, env, hb, hl, h => by
    obtain ⟨e1, e2, h1, h2, h3, h4⟩ := h x List.mem_cons_self
    have hr := fun y hy => h y (List.mem_cons_of_mem x hy)
    simp only [List.length_cons] at hl
    cases hc : c x with
    | false =>
      obtain ⟨env', q1, q2⟩ := lc_run base c f xs acc e2 h3 (by omega) hr
      refine ⟨env', ?_, q2⟩
      rw [hc] at h2
      simp [lcLoop, hb, h1, h2, q1, hc, bind, Except.bind]
    | true =>
      obtain ⟨r, e3, h5, h6, h7⟩ := h4 hc
      obtain ⟨env', q1, q2⟩ := lc_run base c f xs (acc ++ [f x]) e3 h7 (by simp; omega) hr
      refine ⟨env', ?_, q2⟩
      have hg : (grd (decide (acc.length < lim)) () : Rs Unit) = .ok () := by
        unfold grd
        rw [decide_eq_true (by omega : acc.length < lim)]
        rfl
      rw [hc] at h2
      simp [lcLoop, hb, h1, h2, h5, h6, hg, q1, hc, bind, Except.bind]
theorem wipe_get (vs : List Nat) (e : Evn) (j : Nat) : (wipeE e vs)[j]? = if j ∈ vs then (if j < e.length then some none else none) else e[j]? := by
  have hlen : ∀ vs : List Nat, (wipeE e vs).length = e.length := fun vs => by
    induction vs with
    | nil => rfl
    | cons v r ih => show ((wipeE e r).set v none).length = _; rw [List.length_set, ih]
  induction vs with
  | nil => simp [wipeE]
  | cons v r ih =>
    show ((wipeE e r).set v none)[j]? = _
    rw [List.getElem?_set, hlen, ih]
    by_cases h : v = j
    · subst h; by_cases hl : v < e.length <;> simp [hl]
    · simp [h, Ne.symm h, eq_comm]
theorem rest_get (e0 : Evn) (vs : List Nat) (e : Evn) (j : Nat) : (restE e0 e vs)[j]? = if j ∈ vs then (if j < e.length then some (e0[j]?.getD none) else none) else e[j]? := by
  have hlen : ∀ vs : List Nat, (restE e0 e vs).length = e.length := fun vs => by
    induction vs with
    | nil => rfl
    | cons v r ih => show ((restE e0 e r).set v _).length = _; rw [List.length_set, ih]
  induction vs with
  | nil => simp [restE]
  | cons v r ih =>
    show ((restE e0 e r).set v (e0[v]?.getD none))[j]? = _
    rw [List.getElem?_set, hlen, ih]
    by_cases h : v = j
    · subst h; by_cases hl : v < e.length <;> simp [hl]
    · simp [h, Ne.symm h, eq_comm]
/-- what leaves nothing behind but its own places leaves nothing behind -/
theorem rest_back {vs : List Nat} {e0 e : Evn} (h : wipeE e vs = wipeE e0 vs) : restE e0 e vs = e0 := by
  have hl : e.length = e0.length := by
    have hlen : ∀ (e : Evn) (vs : List Nat), (wipeE e vs).length = e.length := fun e vs => by
      induction vs with
      | nil => rfl
      | cons v r ih => show ((wipeE e r).set v none).length = _; rw [List.length_set, ih]
    have := congrArg List.length h
    rw [hlen, hlen] at this
    exact this
  apply List.ext_getElem?
  intro j
  rw [rest_get]
  have hj := congrArg (fun l : Evn => l[j]?) h
  simp only [wipe_get] at hj
  by_cases hm : j ∈ vs
  · rw [if_pos hm, hl]
    by_cases hlt : j < e0.length
    · rw [if_pos hlt, List.getElem?_eq_getElem hlt]
      rfl
    · rw [if_neg hlt, List.getElem?_eq_none (by omega)]
  · rw [if_neg hm]
    rw [if_neg hm, if_neg hm] at hj
    exact hj
/-- a comprehension with one for -/
theorem ev_lcR {T : Tb} {vs : List Nat} {elt : Ex} {tg : Tg} {it : Itr} {cs : Exs} {env e0 : Evn} {items : List PyData} (base : Evn) (c : PyData → Bool) (f : PyData → PyData)
    (hi : evI T it env = .ok (items, e0)) (hb : wipeE e0 vs = base) (hbb : wipeE base vs = base) (hl : items.length ≤ lim)
    (h : ∀ x ∈ items, ∃ e1 e2, bindT tg x base = .ok e1 ∧ evAnd T cs e1 = .ok (c x, e2) ∧ wipeE e2 vs = base ∧ (c x = true → ∃ r e3, ev T elt e2 = .ok (r, e3) ∧ r.x = f x ∧ wipeE e3 vs = base)) :
    ev T (.lc vs elt tg it cs) env = .ok (.o (.list ((items.filter c).map f)), e0) := by
  obtain ⟨e', q1, q2⟩ := lc_run (ts := evAnd T cs) (elt := ev T elt) base c f items [] base hbb (by simpa using hl) h
  have e : ev T (.lc vs elt tg it cs) env = (evI T it env >>= fun p => quiet (lcLoop vs (ev T elt) tg (evAnd T cs) p.1 [] (wipeE p.2 vs)) >>= fun q => .ok (.o (.list q.1), restE p.2 q.2 vs)) := rfl
  rw [e, hi]
  simp only [bind, Except.bind, hb, q1, quiet, List.nil_append]
  rw [rest_back (q2.trans hb.symm)]
/-- a body that is one return of no name -/
theorem run_ret {T : Tb} {X : Xcs} {n : Nat} {io : List Bool} {e : Ex} {as : List Vl} {r : Vl} {env : Evn} {os : List PyData} (hv : e.isVar = none) (hio : as.map Vl.isO = io)
    (h : ev T e (as.map some ++ List.replicate (n - as.length) none) = .ok (r, env)) (ho : outsE env (ioIx io) = .ok os) : runD T X n io (.cons (.ret e) .nil) as = .ok (r, os) := by
  have e1 : exS T X (.ret e) (as.map some ++ List.replicate (n - as.length) none) = .ok (.ret r, env) := by
    rw [exS, hv]
    simp only [h, bind, Except.bind]
  have e2 : exB T X (.cons (.ret e) .nil) (as.map some ++ List.replicate (n - as.length) none) = .ok (.ret r, env) := by
    rw [exB, e1]
    rfl
  unfold runD
  rw [hio]
  simp only [decide_true, grd, if_true, bind, Except.bind, e2, ho]
end Qv

set_option maxRecDepth 100000
/-! QM: rules for running the evaluator. -/
namespace Qv
open PySem
variable {T : Tb}

/-! ### comprehensions -/
theorem ev_lcT {α : Type} {i : Nat} {elt : Ex} {it : Itr} {cs : Exs} {env e0 : Evn} (l : List α) (enc : α → PyData) (c : α → Bool) (f : α → PyData)
    (hi : evI T it env = .ok (l.map enc, e0)) (hl : l.length ≤ lim)
    (h : ∀ x ∈ l, evAnd T cs (e0.set i (some (.d (enc x)))) = .ok (c x, e0.set i (some (.d (enc x)))) ∧
      (c x = true → ∃ r, ev T elt (e0.set i (some (.d (enc x)))) = .ok (r, e0.set i (some (.d (enc x)))) ∧ r.x = f x)) :
    ev T (.lc [i] elt (.nm i) it cs) env = .ok (.o (.list ((l.filter c).map f)), e0) := by
  have key : ∀ (l : List α) (acc : List PyData) (e : Evn), (∀ x ∈ l, evAnd T cs (e0.set i (some (.d (enc x)))) = .ok (c x, e0.set i (some (.d (enc x)))) ∧
      (c x = true → ∃ r, ev T elt (e0.set i (some (.d (enc x)))) = .ok (r, e0.set i (some (.d (enc x)))) ∧ r.x = f x)) →
      wipeE e [i] = wipeE e0 [i] → acc.length + l.length ≤ lim → ∃ e', lcLoop [i] (ev T elt) (.nm i) (evAnd T cs) (l.map enc) acc e = .ok (acc ++ (l.filter c).map f, e') ∧ wipeE e' [i] = wipeE e0 [i] := by
    intro l
    induction l with
    | nil => intro acc e _ hw _; exact ⟨e, by simp [lcLoop], hw⟩
    | cons x r ih =>
      intro acc e h hw hl
      obtain ⟨h1, h2⟩ := h x List.mem_cons_self
      have hb : bindT (.nm i) (enc x) (wipeE e [i]) = .ok (e0.set i (some (.d (enc x)))) := by
        rw [hw]
        show Except.ok ((e0.set i none).set i _) = _
        rw [List.set_set]
      have hw2 : wipeE (e0.set i (some (Vl.d (enc x)))) [i] = wipeE e0 [i] := by
        show (e0.set i _).set i none = e0.set i none
        rw [List.set_set]
      simp only [List.length_cons] at hl
      cases hc : c x with
      | false =>
        obtain ⟨e', q1, q2⟩ := ih acc _ (fun y hy => h y (List.mem_cons_of_mem _ hy)) hw2 (by omega)
        refine ⟨e', ?_, q2⟩
        rw [hc] at h1
        simp only [List.map_cons, lcLoop, hb, h1, bind, Except.bind]
        simp [q1, hc]
      | true =>
        obtain ⟨v, h3, h4⟩ := h2 hc
        obtain ⟨e', q1, q2⟩ := ih (acc ++ [f x]) _ (fun y hy => h y (List.mem_cons_of_mem _ hy)) hw2 (by simp; omega)
        refine ⟨e', ?_, q2⟩
        rw [hc] at h1
        have hg : (grd (decide (acc.length < lim)) () : Rs Unit) = .ok () := by
          unfold grd
          rw [decide_eq_true (by omega : acc.length < lim)]
          rfl
        simp only [List.map_cons, lcLoop, hb, h1, h3, h4, hg, bind, Except.bind]
        simp [q1, hc]
  obtain ⟨e', q1, q2⟩ := key l [] (wipeE e0 [i]) h (by show (e0.set i none).set i none = _; rw [List.set_set]; rfl) (by simpa using hl)
  have e : ev T (.lc [i] elt (.nm i) it cs) env = (evI T it env >>= fun p => quiet (lcLoop [i] (ev T elt) (.nm i) (evAnd T cs) p.1 [] (wipeE p.2 [i])) >>= fun q => .ok (.o (.list q.1), restE p.2 q.2 [i])) := rfl
  rw [e, hi]
  simp only [bind, Except.bind, q1, quiet, List.nil_append]
  rw [rest_back q2]

/-- one whose turns change the state: Inv of the state with the own place wiped; what is kept is a sublist -/
theorem ev_lcI {α : Type} {i : Nat} {elt : Ex} {it : Itr} {cs : Exs} {env e0 : Evn} (l : List α) (enc : α → PyData) (Inv : Evn → Prop) (Q : α → PyData → Prop)
    (hi : evI T it env = .ok (l.map enc, e0)) (hl : l.length ≤ lim) (h0 : Inv (e0.set i none))
    (h : ∀ x ∈ l, ∀ e, Inv e → ∃ b e2, evAnd T cs (e.set i (some (.d (enc x)))) = .ok (b, e2) ∧
      (b = false → Inv (e2.set i none)) ∧ (b = true → ∃ r e3, ev T elt e2 = .ok (r, e3) ∧ Q x r.x ∧ Inv (e3.set i none))) :
    ∃ (ks : List (α × PyData)) (e' : Evn), (ks.map (·.1)).Sublist l ∧ (∀ p ∈ ks, Q p.1 p.2) ∧ ev T (.lc [i] elt (.nm i) it cs) env = .ok (.o (.list (ks.map (·.2))), e'.set i (e0[i]?.getD none)) ∧ Inv (e'.set i none) := by
  have key : ∀ (l : List α) (acc : List PyData) (e : Evn), (∀ x ∈ l, ∀ e, Inv e → ∃ b e2, evAnd T cs (e.set i (some (.d (enc x)))) = .ok (b, e2) ∧
      (b = false → Inv (e2.set i none)) ∧ (b = true → ∃ r e3, ev T elt e2 = .ok (r, e3) ∧ Q x r.x ∧ Inv (e3.set i none))) →
      Inv (e.set i none) → acc.length + l.length ≤ lim → ∃ (ks : List (α × PyData)) (e' : Evn), (ks.map (·.1)).Sublist l ∧ (∀ p ∈ ks, Q p.1 p.2) ∧
        lcLoop [i] (ev T elt) (.nm i) (evAnd T cs) (l.map enc) acc e = .ok (acc ++ ks.map (·.2), e') ∧ Inv (e'.set i none) := by
    intro l
    induction l with
    | nil => intro acc e _ hw _; refine ⟨[], e, List.Sublist.refl _, fun p hp => (by cases hp), (by simp [lcLoop]), hw⟩
    | cons x r ih =>
      intro acc e h hw hl
      obtain ⟨b, e2, h1, h2, h3⟩ := h x List.mem_cons_self _ hw
      have hb : bindT (.nm i) (enc x) (wipeE e [i]) = .ok ((e.set i none).set i (some (.d (enc x)))) := rfl
      simp only [List.length_cons] at hl
      cases b with
      | false =>
        obtain ⟨ks, e', q0, qq, q1, q2⟩ := ih acc e2 (fun y hy => h y (List.mem_cons_of_mem _ hy)) (h2 rfl) (by omega)
        refine ⟨ks, e', q0.cons _, qq, ?_, q2⟩
        simp only [List.map_cons, lcLoop, hb, h1, bind, Except.bind]
        simp [q1]
      | true =>
        obtain ⟨v, e3, h4, h5, h6⟩ := h3 rfl
        obtain ⟨ks, e', q0, qq, q1, q2⟩ := ih (acc ++ [v.x]) e3 (fun y hy => h y (List.mem_cons_of_mem _ hy)) h6 (by simp; omega)
        refine ⟨(x, v.x) :: ks, e', q0.cons_cons _, ?_, ?_, q2⟩
        · intro p hp
          rcases List.mem_cons.mp hp with rfl | hp
          · exact h5
          · exact qq p hp
        have hg : (grd (decide (acc.length < lim)) () : Rs Unit) = .ok () := by
          unfold grd
          rw [decide_eq_true (by omega : acc.length < lim)]
          rfl
        simp only [List.map_cons, lcLoop, hb, h1, h4, hg, bind, Except.bind]
        simp [q1]
  obtain ⟨ks, e', q0, qq, q1, q2⟩ := key l [] (wipeE e0 [i]) h (by show Inv ((e0.set i none).set i none); rw [List.set_set]; exact h0) (by simpa using hl)
  have e : ev T (.lc [i] elt (.nm i) it cs) env = (evI T it env >>= fun p => quiet (lcLoop [i] (ev T elt) (.nm i) (evAnd T cs) p.1 [] (wipeE p.2 [i])) >>= fun q => .ok (.o (.list q.1), restE p.2 q.2 [i])) := rfl
  refine ⟨ks, e', q0, qq, ?_, q2⟩
  rw [e, hi]
  simp only [bind, Except.bind, q1, quiet, List.nil_append]
  rfl

/-! ### operands -/
/-- an expression that changes nothing, as an operand -/
def Ox (T : Tb) (a : Ex) (env : Evn) (x : PyData) : Prop := ∃ p, opd a.isVar (ev T a) env = .ok (p, env) ∧ der env p = .ok x
theorem ox_ev {a : Ex} {env : Evn} {r : Vl} {x : PyData} (hv : a.isVar = none) (h : ev T a env = .ok (r, env)) (hx : r.x = x) : Ox T a env x := by
  refine ⟨.vl r, ?_, by rw [← hx]; rfl⟩
  unfold opd
  rw [hv]
  simp only [h, bind, Except.bind]
theorem ox_var {i : Nat} {env : Evn} {r : Vl} {x : PyData} (h : env[i]? = some (some r)) (hx : r.x = x) : Ox T (.var i) env x := by
  cases r with
  | d y =>
    refine ⟨.vl (.d y), ?_, by rw [← hx]; rfl⟩
    show opd (some i) _ env = _
    unfold opd
    simp only [h]
    have : ev T (.var i) env = .ok (.d y, env) := by
      show getV i env = _
      unfold getV
      rw [h]
    simp only [this, bind, Except.bind]
  | o y =>
    refine ⟨.sl i, ?_, ?_⟩
    · show opd (some i) _ env = _
      unfold opd
      simp only [h]
    · unfold der
      simp only [h]
      rw [hx]
theorem ox_cst {c : PyData} {env : Evn} : Ox T (.cst c) env c := ox_ev rfl rfl rfl
theorem opd_n {a : Ex} {env e1 : Evn} {r : Vl} (hv : a.isVar = none) (h : ev T a env = .ok (r, e1)) : opd a.isVar (ev T a) env = .ok (.vl r, e1) := by
  unfold opd
  rw [hv]
  simp only [h, bind, Except.bind]

/-! ### expressions -/
theorem ev_var {i : Nat} {env : Evn} {x : PyData} (h : env[i]? = some (some (.d x))) : ev T (.var i) env = .ok (.d x, env) := by
  show getV i env = _
  unfold getV
  rw [h]
theorem ev_varO {i : Nat} {env : Evn} {x : PyData} (h : env[i]? = some (some (.o x))) : ev T (.var i) env = .ok (.d x, env.set i (some (.d x))) := by
  show getV i env = _
  unfold getV
  rw [h]
theorem ev_cmpG {op : COp} {a b : Ex} {env e1 e2 : Evn} {p q : Opd} {x y : PyData} {z : Bool} (h1 : opd a.isVar (ev T a) env = .ok (p, e1)) (h2 : opd b.isVar (ev T b) e1 = .ok (q, e2))
    (h3 : der e2 p = .ok x) (h4 : der e2 q = .ok y) (h5 : cmpD op x y = .ok z) : ev T (.cmp op a b) env = .ok (.d (.bool z), e2) := by
  show (opd a.isVar (ev T a) env >>= fun p => opd b.isVar (ev T b) p.2 >>= fun q => fin2 (fun z => .d (.bool z)) (cmpD op) p.1 q.1 q.2) = _
  simp only [h1, h2, bind, Except.bind, fin2, h3, h4, h5]
theorem ev_cmp {op : COp} {a b : Ex} {env : Evn} {x y : PyData} {z : Bool} (h1 : Ox T a env x) (h2 : Ox T b env y) (h5 : cmpD op x y = .ok z) : ev T (.cmp op a b) env = .ok (.d (.bool z), env) := by
  obtain ⟨p, a1, a2⟩ := h1
  obtain ⟨q, b1, b2⟩ := h2
  exact ev_cmpG a1 b1 a2 b2 h5
theorem ev_binG {op : BOp} {a b : Ex} {env e1 e2 : Evn} {p q : Opd} {x y z : PyData} (h1 : opd a.isVar (ev T a) env = .ok (p, e1)) (h2 : opd b.isVar (ev T b) e1 = .ok (q, e2))
    (h3 : der e2 p = .ok x) (h4 : der e2 q = .ok y) (h5 : binD op x y = .ok z) : ev T (.bin op a b) env = .ok (mkV z, e2) := by
  show (opd a.isVar (ev T a) env >>= fun p => opd b.isVar (ev T b) p.2 >>= fun q => fin2 mkV (binD op) p.1 q.1 q.2) = _
  simp only [h1, h2, bind, Except.bind, fin2, h3, h4, h5]
theorem ev_bin {op : BOp} {a b : Ex} {env : Evn} {x y z : PyData} (h1 : Ox T a env x) (h2 : Ox T b env y) (h5 : binD op x y = .ok z) : ev T (.bin op a b) env = .ok (mkV z, env) := by
  obtain ⟨p, a1, a2⟩ := h1
  obtain ⟨q, b1, b2⟩ := h2
  exact ev_binG a1 b1 a2 b2 h5
theorem ev_subG {a b : Ex} {env e1 e2 : Evn} {p q : Opd} {x y z : PyData} (h1 : opd a.isVar (ev T a) env = .ok (p, e1)) (h2 : opd b.isVar (ev T b) e1 = .ok (q, e2))
    (h3 : der e2 p = .ok x) (h4 : der e2 q = .ok y) (h5 : subD x y = .ok z) : ev T (.sub a b) env = .ok (.d z, e2) := by
  show (opd a.isVar (ev T a) env >>= fun p => opd b.isVar (ev T b) p.2 >>= fun q => fin2 .d subD p.1 q.1 q.2) = _
  simp only [h1, h2, bind, Except.bind, fin2, h3, h4, h5]
theorem ev_sub {a b : Ex} {env : Evn} {x y z : PyData} (h1 : Ox T a env x) (h2 : Ox T b env y) (h5 : subD x y = .ok z) : ev T (.sub a b) env = .ok (.d z, env) := by
  obtain ⟨p, a1, a2⟩ := h1
  obtain ⟨q, b1, b2⟩ := h2
  exact ev_subG a1 b1 a2 b2 h5
theorem ev_fnG {f : BF} {a : Ex} {env e1 : Evn} {p : Opd} {x z : PyData} (h1 : opd a.isVar (ev T a) env = .ok (p, e1)) (h3 : der e1 p = .ok x) (h5 : fnD f x = .ok z) : ev T (.fn f a) env = .ok (mkV z, e1) := by
  show (opd a.isVar (ev T a) env >>= fun p => fin1 mkV (fnD f) p.1 p.2) = _
  simp only [h1, bind, Except.bind, fin1, h3, h5]
theorem ev_fn {f : BF} {a : Ex} {env : Evn} {x z : PyData} (h1 : Ox T a env x) (h5 : fnD f x = .ok z) : ev T (.fn f a) env = .ok (mkV z, env) := by
  obtain ⟨p, a1, a2⟩ := h1
  exact ev_fnG a1 a2 h5
/-- of an operand that may change the state (a list made, say) -/
theorem ev_fnE {f : BF} {a : Ex} {env e1 : Evn} {r : Vl} {z : PyData} (hv : a.isVar = none) (h1 : ev T a env = .ok (r, e1)) (h5 : fnD f r.x = .ok z) : ev T (.fn f a) env = .ok (mkV z, e1) :=
  ev_fnG (opd_n hv h1) rfl h5
theorem ev_not {a : Ex} {env e1 : Evn} {b : Bool} (h : ev T a env = .ok (.d (.bool b), e1)) : ev T (.not a) env = .ok (.d (.bool !b), e1) := by
  show (asT (fun e => ev T a e) env >>= fun p => Except.ok (Vl.d (.bool !p.1), p.2)) = _
  simp only [asT, h, bind, Except.bind]
theorem ev_ite {c a b : Ex} {env e1 : Evn} {t : Bool} (h : ev T c env = .ok (.d (.bool t), e1)) : ev T (.ite c a b) env = if t then ev T a e1 else ev T b e1 := by
  show (asT (fun e => ev T c e) env >>= fun p => if p.1 then ev T a p.2 else ev T b p.2) = _
  simp only [asT, h, bind, Except.bind]
theorem ev_inst {a : Ex} {t : Ty} {env e1 : Evn} {r : Vl} (h : ev T a env = .ok (r, e1)) : ev T (.inst a t) env = .ok (.d (.bool (instD t r.x)), e1) := by
  show (ev T a env >>= fun p => Except.ok (Vl.d (.bool (instD t p.1.x)), p.2)) = _
  simp only [h, bind, Except.bind]
theorem evAnd_nil {env : Evn} : evAnd T .nil env = .ok (true, env) := rfl
theorem evAnd_t {a : Ex} {es : Exs} {env e1 : Evn} {R : Rs (Bool × Evn)} (h : ev T a env = .ok (.d (.bool true), e1)) (h2 : evAnd T es e1 = R) : evAnd T (.cons a es) env = R := by
  rw [← h2]
  show (asT (fun e => ev T a e) env >>= fun p => if p.1 then evAnd T es p.2 else Except.ok (false, p.2)) = _
  simp only [asT, h, bind, Except.bind]
  simp
theorem evAnd_f {a : Ex} {es : Exs} {env e1 : Evn} (h : ev T a env = .ok (.d (.bool false), e1)) : evAnd T (.cons a es) env = .ok (false, e1) := by
  show (asT (fun e => ev T a e) env >>= fun p => if p.1 then evAnd T es p.2 else Except.ok (false, p.2)) = _
  simp only [asT, h, bind, Except.bind]
  simp
theorem evAnd_1 {a : Ex} {env e1 : Evn} {b : Bool} (h : ev T a env = .ok (.d (.bool b), e1)) : evAnd T (.cons a .nil) env = .ok (b, e1) := by
  cases b
  · exact evAnd_f h
  · exact evAnd_t h rfl
theorem evAnd_c {a : Ex} {es : Exs} {env e1 : Evn} {b c : Bool} (h : ev T a env = .ok (.d (.bool b), e1)) (h2 : b = true → evAnd T es e1 = .ok (c, e1)) : evAnd T (.cons a es) env = .ok (b && c, e1) := by
  cases b
  · exact evAnd_f h
  · exact evAnd_t h (by rw [h2 rfl]; rfl)
theorem evOr_nil {env : Evn} : evOr T .nil env = .ok (false, env) := rfl
theorem evOr_f {a : Ex} {es : Exs} {env e1 : Evn} {R : Rs (Bool × Evn)} (h : ev T a env = .ok (.d (.bool false), e1)) (h2 : evOr T es e1 = R) : evOr T (.cons a es) env = R := by
  rw [← h2]
  show (asT (fun e => ev T a e) env >>= fun p => if p.1 then Except.ok (true, p.2) else evOr T es p.2) = _
  simp only [asT, h, bind, Except.bind]
  simp
theorem evOr_t {a : Ex} {es : Exs} {env e1 : Evn} (h : ev T a env = .ok (.d (.bool true), e1)) : evOr T (.cons a es) env = .ok (true, e1) := by
  show (asT (fun e => ev T a e) env >>= fun p => if p.1 then Except.ok (true, p.2) else evOr T es p.2) = _
  simp only [asT, h, bind, Except.bind]
  simp
theorem evOr_c {a : Ex} {es : Exs} {env e1 : Evn} {b c : Bool} (h : ev T a env = .ok (.d (.bool b), e1)) (h2 : b = false → evOr T es e1 = .ok (c, e1)) : evOr T (.cons a es) env = .ok (b || c, e1) := by
  cases b
  · exact evOr_f h (by rw [h2 rfl]; rfl)
  · exact evOr_t h
theorem ev_andR {es : Exs} {env e1 : Evn} {b : Bool} (h : evAnd T es env = .ok (b, e1)) : ev T (.and es) env = .ok (.d (.bool b), e1) := by
  show (evAnd T es env >>= fun p => Except.ok (Vl.d (.bool p.1), p.2)) = _
  simp only [h, bind, Except.bind]
theorem ev_orR {es : Exs} {env e1 : Evn} {b : Bool} (h : evOr T es env = .ok (b, e1)) : ev T (.or es) env = .ok (.d (.bool b), e1) := by
  show (evOr T es env >>= fun p => Except.ok (Vl.d (.bool p.1), p.2)) = _
  simp only [h, bind, Except.bind]
theorem evs_nil {env : Evn} : evs T .nil env = .ok ([], env) := rfl
theorem evs_c {e : Ex} {es : Exs} {env e1 e2 : Evn} {r : Vl} {xs : List PyData} (h : ev T e env = .ok (r, e1)) (h2 : evs T es e1 = .ok (xs, e2)) : evs T (.cons e es) env = .ok (r.x :: xs, e2) := by
  show (ev T e env >>= fun p => evs T es p.2 >>= fun q => Except.ok (p.1.x :: q.1, q.2)) = _
  simp only [h, h2, bind, Except.bind]
theorem evs_x {e : Ex} {es : Exs} {env e1 e2 : Evn} {r : Vl} {x : PyData} {xs : List PyData} (h : ev T e env = .ok (r, e1)) (hx : r.x = x) (h2 : evs T es e1 = .ok (xs, e2)) : evs T (.cons e es) env = .ok (x :: xs, e2) := hx ▸ evs_c h h2
theorem ev_tup {es : Exs} {env e1 : Evn} {xs : List PyData} (h : evs T es env = .ok (xs, e1)) (hl : xs.length ≤ lim) : ev T (.tup es) env = .ok (.d (.tuple xs), e1) := by
  show (evs T es env >>= fun p => grd (decide (p.1.length ≤ lim)) (Vl.d (.tuple p.1), p.2)) = _
  simp only [h, bind, Except.bind, grd, decide_eq_true hl, if_true]
theorem ev_lst {es : Exs} {env e1 : Evn} {xs : List PyData} (h : evs T es env = .ok (xs, e1)) (hl : xs.length ≤ lim) : ev T (.lst es) env = .ok (.o (.list xs), e1) := by
  show (evs T es env >>= fun p => grd (decide (p.1.length ≤ lim)) (Vl.o (.list p.1), p.2)) = _
  simp only [h, bind, Except.bind, grd, decide_eq_true hl, if_true]
theorem ev_slc {a lo hi : Ex} {env e1 e2 e3 : Evn} {p : Opd} {q s : Vl} {x z : PyData} (h1 : opd a.isVar (ev T a) env = .ok (p, e1)) (h2 : ev T lo e1 = .ok (q, e2)) (b1 : bndOk q = true) (h3 : ev T hi e2 = .ok (s, e3)) (b2 : bndOk s = true)
    (h4 : der e3 p = .ok x) (h5 : slcD x q.x s.x = .ok z) : ev T (.slc a lo hi) env = .ok (mkV z, e3) := by
  show (opd a.isVar (ev T a) env >>= fun p => ev T lo p.2 >>= fun q => (grd (bndOk q.1) () : Rs Unit) >>= fun _ => ev T hi q.2 >>= fun s => (grd (bndOk s.1) () : Rs Unit) >>= fun _ => fin1 mkV (fun x => slcD x q.1.x s.1.x) p.1 s.2) = _
  simp only [h1, h2, h3, b1, b2, bind, Except.bind, grd, if_true, fin1, h4, h5]
theorem ev_rev {a : Ex} {env e1 : Evn} {p : Opd} {x z : PyData} (h1 : opd a.isVar (ev T a) env = .ok (p, e1)) (h4 : der e1 p = .ok x) (h5 : revD x = .ok z) : ev T (.rev a) env = .ok (mkV z, e1) := by
  show (opd a.isVar (ev T a) env >>= fun p => fin1 mkV revD p.1 p.2) = _
  simp only [h1, bind, Except.bind, fin1, h4, h5]
theorem ev_chn {o1 o2 : COp} {a b c : Ex} {env : Evn} {x y s : PyData} {z w : Bool} (h1 : Ox T a env x) (h2 : Ox T b env y) (h3 : cmpD o1 x y = .ok z) (h4 : z = true → Ox T c env s ∧ cmpD o2 y s = .ok w) :
    ev T (.chn o1 o2 a b c) env = .ok (.d (.bool (z && w)), env) := by
  obtain ⟨p, a1, a2⟩ := h1
  obtain ⟨q, b1, b2⟩ := h2
  show (opd a.isVar (ev T a) env >>= fun p => opd b.isVar (ev T b) p.2 >>= fun q => fin2b (cmpD o1) p.1 q.1 q.2 >>= fun z => if z then opd c.isVar (ev T c) q.2 >>= fun s => fin2 (fun z => .d (.bool z)) (cmpD o2) q.1 s.1 s.2 else Except.ok (Vl.d (.bool false), q.2)) = _
  simp only [a1, b1, bind, Except.bind, fin2b, a2, b2, h3]
  cases z with
  | false => rfl
  | true =>
    obtain ⟨⟨r, c1, c2⟩, h5⟩ := h4 rfl
    simp only [c1, c2, h5, fin2, b2, if_true]
    rfl
theorem ev_meth {m : Mth} {o : Ex} {es : Exs} {env : Evn} {x0 z : PyData} {xs : List PyData} (h1 : Ox T o env x0) (hm : mOk m x0 = true) (h2 : evs T es env = .ok (xs, env)) (hs : sameTy x0 x0 = true) (h3 : methD m x0 xs = .ok z) :
    ev T (.meth m o es) env = .ok (mkV z, env) := by
  obtain ⟨p, a1, a2⟩ := h1
  show (opd o.isVar (ev T o) env >>= fun p => der p.2 p.1 >>= fun x0 => (grd (mOk m x0) () : Rs Unit) >>= fun _ => evs T es p.2 >>= fun q => fin1 mkV (fun x => if sameTy x0 x then methD m x q.1 else stk) p.1 q.2) = _
  simp only [a1, a2, h2, bind, Except.bind, grd, hm, if_true, fin1, hs, h3]

/-! ### calls -/
theorem evA_f : ∀ (es : Exs) (io : List Bool) (env : Evn) (xs : List PyData) (e1 : Evn), noStar es = true → (io.all fun b => !b) = true → evs T es env = .ok (xs, e1) → evA T es io env = .ok (xs.map .dt, e1)
  | .star _ _, io, env, xs, e1, hs, _, h => nomatch hs
  | .nil, io, env, xs, e1, _, _, h => by
    have h : Except.ok ([], env) = Except.ok (xs, e1) := h
    cases h
    rfl
  | .cons e es, io, env, xs, e1, hs, hio, h => by
    have hh : (evs T (.cons e es) env) = (ev T e env >>= fun p => evs T es p.2 >>= fun q => Except.ok (p.1.x :: q.1, q.2)) := rfl
    rw [hh] at h
    cases h1 : ev T e env with
    | error er => simp [h1, bind, Except.bind] at h
    | ok p =>
      obtain ⟨r, e2⟩ := p
      simp only [h1, bind, Except.bind] at h
      cases h2 : evs T es e2 with
      | error er => simp [h2] at h
      | ok q =>
        obtain ⟨ys, e3⟩ := q
        simp only [h2] at h
        cases h
        have hd : io.headD false = false := by
          cases io with
          | nil => rfl
          | cons b bs => simp at hio; exact hio.1
        have ht : (io.tail.all fun b => !b) = true := by
          cases io with
          | nil => rfl
          | cons b bs => simp at hio ⊢; exact hio.2
        have ih := evA_f es io.tail e2 ys _ hs ht h2
        rw [evA, hd]
        simp only [h1, ih, bind, Except.bind, List.map_cons]
theorem argsV_dt (env : Evn) : ∀ xs : List PyData, argsV env (xs.map .dt) = .ok (xs.map .d)
  | [] => rfl
  | x :: xs => by simp [argsV, argV, argsV_dt env xs, bind, Except.bind]
theorem slots_dt : ∀ xs : List PyData, slots (xs.map .dt) = []
  | [] => rfl
  | x :: xs => by simp [slots, slots_dt xs]
/-- a call with data alone -/
theorem ev_call {f : Str} {es kes : Exs} {ks : List Str} {fd : Fd} {env e1 e2 : Evn} {xs ys zs : List PyData} {r : Vl} (hT : T.lookup f = some fd) (hio : fd.io.all (fun b => !b) = true)
    (h1 : evs T es env = .ok (xs, e1)) (h2 : evs T kes e1 = .ok (ys, e2)) (ha : arrange fd.ps fd.dfl (xs.map .dt) ks (ys.map .dt) = .ok (zs.map .dt)) (hr : fd.run (zs.map .d) = .ok (r, [])) (n1 : noStar es = true := by rfl) (n2 : noStar kes = true := by rfl) :
    ev T (.call f es ks kes) env = .ok (r, e2) := by
  have io : ∀ ps : List Str, ((ioOf fd ps).all fun b => !b) = true := by
    intro ps
    unfold ioOf
    rw [List.all_map, List.all_eq_true]
    intro p _
    have : ∀ (l : List Str) (bs : List Bool), (bs.all fun b => !b) = true → ((l.zip bs).lookup p).getD false = false := by
      intro l
      induction l with
      | nil => intro bs _; rfl
      | cons a l ih =>
        intro bs hb
        cases bs with
        | nil => rfl
        | cons b bs =>
          simp only [List.all_cons, Bool.and_eq_true] at hb
          rw [List.zip_cons_cons, List.lookup_cons]
          split
          · simpa using hb.1
          · exact ih bs hb.2
    simp [this _ _ hio]
  rw [ev, hT]
  simp only [evA_f es _ env xs e1 n1 (io _) h1, evA_f kes _ e1 ys e2 n2 (io _) h2, bind, Except.bind, callF, ha, argsV_dt, slots_dt, hr]
  rfl
/-- a call whose first argument is a name that may be changed -/
theorem ev_callF {f : Str} {i : Nat} {es : Exs} {fd : Fd} {env e1 : Evn} {xs : List PyData} {x0 x x' : PyData} {r : Vl} (hT : T.lookup f = some fd) (hio : ioOf fd fd.ps = true :: List.replicate (fd.ps.length - 1) false)
    (hl : xs.length + 1 = fd.ps.length) (h0 : env[i]? = some (some (.o x0))) (h1 : evs T es env = .ok (xs, e1)) (h2 : e1[i]? = some (some (.o x))) (hr : fd.run (.o x :: xs.map .d) = .ok (r, [x'])) (n1 : noStar es = true := by rfl) :
    ev T (.call f (.cons (.var i) es) [] .nil) env = .ok (r, e1.set i (some (.o x'))) := by
  have a1 : evA T (.cons (.var i) es) (ioOf fd fd.ps) env = .ok (.sl i :: xs.map .dt, e1) := by
    have hrep : ((List.replicate (fd.ps.length - 1) false).all fun b => !b) = true := by
      rw [List.all_eq_true]
      intro b hb
      rw [List.eq_of_mem_replicate hb]
      rfl
    rw [hio, evA]
    show (match env[i]? with
      | some (some (.o _)) => (evA T es (List.replicate (fd.ps.length - 1) false) env >>= fun q => Except.ok (Arg'.sl i :: q.1, q.2))
      | _ => stk) = _
    rw [h0]
    simp only [evA_f es _ env xs e1 n1 hrep h1, bind, Except.bind]
  have a2 : arrange fd.ps fd.dfl (.sl i :: xs.map .dt) [] [] = .ok (.sl i :: xs.map .dt) := by
    have g : ∀ (as all : List Arg') (ps : List Str) (k : Nat), all.drop k = as → as.length = ps.length → arrG (fd.dfl.map .dt) all [] [] fd.ps.length ps k = some as := by
      intro as
      induction as with
      | nil => intro all ps k _ hp; cases ps with
        | nil => rfl
        | cons _ _ => cases hp
      | cons a as ih =>
        intro all ps k hd hp
        cases ps with
        | nil => cases hp
        | cons p ps =>
          have hk : all[k]? = some a := by
            have := congrArg (fun l => l[0]?) hd
            simpa using this
          have hd2 : all.drop (k + 1) = as := by
            have := congrArg (fun l => l.drop 1) hd
            simpa using this
          have := ih all ps (k + 1) hd2 (by simpa using hp)
          simp [arrG, pickG, hk, this]
    unfold arrange
    rw [g (.sl i :: xs.map .dt) _ fd.ps 0 rfl (by simpa using hl)]
    rfl
  have a3 : argsV e1 (.sl i :: xs.map .dt) = .ok (.o x :: xs.map .d) := by
    simp [argsV, argV, h2, argsV_dt, bind, Except.bind]
  have a4 : slots (.sl i :: xs.map .dt) = [i] := by simp [slots, slots_dt]
  rw [ev, hT]
  have a5 : evA T .nil (ioOf fd []) e1 = .ok ([], e1) := rfl
  simp only [a1, a5, bind, Except.bind, callF, a2, a3, a4, hr]
  rfl

/-! ### statements -/
variable {X : Xcs}
theorem exB_nil {env : Evn} : exB T X .nil env = .ok (.nx, env) := rfl
theorem exB_n {s : Sm} {ss : Sms} {env e1 : Evn} {R : Rs (Fl × Evn)} (h : exS T X s env = .ok (.nx, e1)) (h2 : exB T X ss e1 = R) : exB T X (.cons s ss) env = R := by
  rw [exB, h]
  simpa only [bind, Except.bind] using h2
theorem exB_r {s : Sm} {ss : Sms} {env e1 : Evn} {r : Vl} (h : exS T X s env = .ok (.ret r, e1)) : exB T X (.cons s ss) env = .ok (.ret r, e1) := by
  rw [exB, h]
  rfl
theorem exS_asg {i : Nat} {e : Ex} {env e1 : Evn} {r : Vl} (h : ev T e env = .ok (r, e1)) : exS T X (.asg i e) env = .ok (.nx, e1.set i (some r)) := by
  rw [exS, h]
  rfl
theorem exS_asg2 {i j : Nat} {a b : Ex} {env e1 e2 : Evn} {r q : Vl} (h : ev T a env = .ok (r, e1)) (h2 : ev T b e1 = .ok (q, e2)) : exS T X (.asg2 i j a b) env = .ok (.nx, (e2.set i (some r)).set j (some q)) := by
  rw [exS, h]
  simp only [bind, Except.bind, h2]
  rfl
theorem exS_app {i : Nat} {e : Ex} {env e1 : Evn} {r : Vl} {ys xs : List PyData} (h0 : env[i]? = some (some (.o (.list ys)))) (h : ev T e env = .ok (r, e1)) (h1 : e1[i]? = some (some (.o (.list xs)))) (hl : xs.length < lim) :
    exS T X (.app i e) env = .ok (.nx, e1.set i (some (.o (.list (xs ++ [r.x]))))) := by
  rw [exS, h0]
  simp only [h, bind, Except.bind, h1, grd, decide_eq_true hl, if_true]
  rfl
theorem exS_exp {e : Ex} {env e1 : Evn} {r : Vl} (h : ev T e env = .ok (r, e1)) : exS T X (.exp e) env = .ok (.nx, e1) := by
  rw [exS, h]
  rfl
theorem exS_put {i : Nat} {k : Str} {e : Ex} {env e1 : Evn} {r : Vl} {es : List (PyData × PyData)} (h : ev T e env = .ok (r, e1)) (h1 : e1[i]? = some (some (.o (.dict es)))) (hl : es.length ≤ lim) :
    exS T X (.put i k e) env = .ok (.nx, e1.set i (some (.o (.dict (putD (.str k) r.x es))))) := by
  rw [exS, h]
  simp only [bind, Except.bind, h1, grd, decide_eq_true hl, if_true]
  rfl
theorem exS_ret {e : Ex} {env e1 : Evn} {r : Vl} (hv : e.isVar = none) (h : ev T e env = .ok (r, e1)) : exS T X (.ret e) env = .ok (.ret r, e1) := by
  rw [exS, hv]
  simp only [h, bind, Except.bind]
theorem exS_retV {i : Nat} {env : Evn} {x : PyData} (h : env[i]? = some (some (.d x))) : exS T X (.ret (.var i)) env = .ok (.ret (.d x), env) := by
  rw [exS]
  show (match env[i]? with
      | some (some (.o x)) => Except.ok (Fl.ret (.o x), env.set i none)
      | _ => (ev T (.var i) env >>= fun p => Except.ok (Fl.ret p.1, p.2))) = _
  rw [h]
  simp only [ev_var h, bind, Except.bind]
theorem exS_retO {i : Nat} {env : Evn} {x : PyData} (h : env[i]? = some (some (.o x))) : exS T X (.ret (.var i)) env = .ok (.ret (.o x), env.set i none) := by
  rw [exS]
  show (match env[i]? with
      | some (some (.o x)) => Except.ok (Fl.ret (.o x), env.set i none)
      | _ => (ev T (.var i) env >>= fun p => Except.ok (Fl.ret p.1, p.2))) = _
  rw [h]
theorem exS_iff {c : Ex} {a b : Sms} {env e1 : Evn} {t : Bool} (h : ev T c env = .ok (.d (.bool t), e1)) : exS T X (.iff c a b) env = if t then exB T X a e1 else exB T X b e1 := by
  rw [exS]
  simp only [asT, h, bind, Except.bind]
theorem exS_t {c : Ex} {a b : Sms} {env e1 : Evn} {R : Rs (Fl × Evn)} (h : ev T c env = .ok (.d (.bool true), e1)) (h2 : exB T X a e1 = R) : exS T X (.iff c a b) env = R := by
  rw [exS_iff h]; exact h2
theorem exS_f {c : Ex} {a b : Sms} {env e1 : Evn} {R : Rs (Fl × Evn)} (h : ev T c env = .ok (.d (.bool false), e1)) (h2 : exB T X b e1 = R) : exS T X (.iff c a b) env = R := by
  rw [exS_iff h]; exact h2
/-- a loop that goes through -/
theorem exS_for {α : Type} {tg : Tg} {it : Itr} {body : Sms} {env e0 : Evn} (l : List α) (enc : α → PyData) (Inv : List α → Evn → Prop) (hi : evI T it env = .ok (l.map enc, e0)) (h0 : Inv [] e0)
    (h : ∀ d x r, l = d ++ x :: r → ∀ e, Inv d e → ∃ e1 e2, bindT tg (enc x) e = .ok e1 ∧ exB T X body e1 = .ok (.nx, e2) ∧ Inv (d ++ [x]) e2) :
    ∃ e', exS T X (.for tg it body) env = .ok (.nx, e') ∧ Inv l e' := by
  have key : ∀ (r d : List α) (e : Evn), l = d ++ r → Inv d e → ∃ e', forLoop tg (exB T X body) (r.map enc) e = .ok (.nx, e') ∧ Inv l e' := by
    intro r
    induction r with
    | nil => intro d e hd hI; exact ⟨e, rfl, by rw [hd, List.append_nil]; exact hI⟩
    | cons x r ih =>
      intro d e hd hI
      obtain ⟨e1, e2, h1, h2, h3⟩ := h d x r hd e hI
      obtain ⟨e', q1, q2⟩ := ih (d ++ [x]) e2 (by rw [hd]; simp) h3
      refine ⟨e', ?_, q2⟩
      simp only [List.map_cons, forLoop, h1, h2, bind, Except.bind, q1]
  obtain ⟨e', q1, q2⟩ := key l [] e0 rfl h0
  refine ⟨e', ?_, q2⟩
  rw [exS, hi]
  exact q1
theorem run_b {n : Nat} {io : List Bool} {body : Sms} {as : List Vl} {r : Vl} {env : Evn} {os : List PyData} (hio : as.map Vl.isO = io)
    (h : exB T X body (as.map some ++ List.replicate (n - as.length) none) = .ok (.ret r, env)) (ho : outsE env (ioIx io) = .ok os) : runD T X n io body as = .ok (r, os) := by
  unfold runD
  rw [hio]
  simp only [decide_true, grd, if_true, bind, Except.bind, h, ho]
theorem run_n {n : Nat} {io : List Bool} {body : Sms} {as : List Vl} {env : Evn} {os : List PyData} (hio : as.map Vl.isO = io)
    (h : exB T X body (as.map some ++ List.replicate (n - as.length) none) = .ok (.nx, env)) (ho : outsE env (ioIx io) = .ok os) : runD T X n io body as = .ok (.d .none, os) := by
  unfold runD
  rw [hio]
  simp only [decide_true, grd, if_true, bind, Except.bind, h, ho]
/-! ### what is gone through -/
theorem evI_src {e : Ex} {env e0 : Evn} {r : Vl} {xs : List PyData} (h : ev T e env = .ok (r, e0)) (hx : itemsD r.x = .ok xs) : evI T (.src e) env = .ok (xs, e0) := by
  rw [evI]
  simp only [h, bind, Except.bind, hx]
theorem evI_rng1 {e : Ex} {env e0 : Evn} {n : Nat} (h : ev T e env = .ok (.d (.int n), e0)) (hl : n ≤ lim) : evI T (.rng1 e) env = .ok ((List.range n).map fun (k : Nat) => PyData.int k, e0) := by
  rw [evI]
  simp only [h, bind, Except.bind]
  have : (decide (-(lim : Int) ≤ n) && decide ((n : Int) ≤ lim)) = true := by
    rw [Bool.and_eq_true]
    exact ⟨decide_eq_true (by omega), decide_eq_true (by omega)⟩
  simp only [grd, this, if_true, Int.toNat_natCast]
end Qv

set_option maxRecDepth 100000
/-! QM2: more rules for running the evaluator. -/
namespace Qv
open PySem
variable {T : Tb} {X : Xcs}
theorem ev_lcM {α : Type} {i : Nat} {elt : Ex} {it : Itr} {env e0 : Evn} (l : List α) (enc : α → PyData) (f : α → PyData)
    (hi : evI T it env = .ok (l.map enc, e0)) (hl : l.length ≤ lim)
    (h : ∀ x ∈ l, ∃ r, ev T elt (e0.set i (some (.d (enc x)))) = .ok (r, e0.set i (some (.d (enc x)))) ∧ r.x = f x) :
    ev T (.lc [i] elt (.nm i) it .nil) env = .ok (.o (.list (l.map f)), e0) := by
  have := ev_lcT l enc (fun _ => true) f (cs := .nil) hi hl fun x hx => ⟨rfl, fun _ => h x hx⟩
  rwa [List.filter_eq_self.mpr (fun _ _ => rfl)] at this
theorem ev_lcF {α : Type} {i : Nat} {t : Ex} {it : Itr} {env e0 : Evn} (l : List α) (enc : α → PyData) (c : α → Bool)
    (hi : evI T it env = .ok (l.map enc, e0)) (hl : l.length ≤ lim) (hb : i < e0.length)
    (h : ∀ x ∈ l, ev T t (e0.set i (some (.d (enc x)))) = .ok (.d (.bool (c x)), e0.set i (some (.d (enc x))))) :
    ev T (.lc [i] (.var i) (.nm i) it (.cons t .nil)) env = .ok (.o (.list ((l.filter c).map enc)), e0) :=
  ev_lcT l enc c enc hi hl fun x hx => ⟨evAnd_1 (h x hx), fun _ => ⟨.d (enc x), ev_var (by rw [List.getElem?_set, if_pos rfl, if_pos hb]), rfl⟩⟩
theorem bools_map {α : Type} (l : List α) (p : α → Bool) : boolsD (l.map fun y => .bool (p y)) = .ok (l.map p) := by
  induction l with
  | nil => rfl
  | cons x r ih => simp [boolsD, ih, bind, Except.bind]
theorem all_map {α : Type} (l : List α) (p : α → Bool) : fnD .all (.list (l.map fun y => .bool (p y))) = .ok (.bool (l.all p)) := by
  show (boolsD (l.map fun y => .bool (p y)) >>= fun bs => Except.ok (PyData.bool (bs.all id))) = _
  rw [bools_map]
  simp [bind, Except.bind, List.all_map]
theorem any_map {α : Type} (l : List α) (p : α → Bool) : fnD .any (.list (l.map fun y => .bool (p y))) = .ok (.bool (l.any p)) := by
  show (boolsD (l.map fun y => .bool (p y)) >>= fun bs => Except.ok (PyData.bool (bs.any id))) = _
  rw [bools_map]
  simp [bind, Except.bind, List.any_map]
/-- the turns of one for, from any list gathered so far -/
theorem lc_runM {α : Type} {i : Nat} {elt : Ex} {e0 : Evn} (enc : α → PyData) (f : α → PyData) : ∀ (l : List α) (acc : List PyData) (e : Evn),
    (∀ x ∈ l, ∃ r, ev T elt (e0.set i (some (.d (enc x)))) = .ok (r, e0.set i (some (.d (enc x)))) ∧ r.x = f x) →
    wipeE e [i] = wipeE e0 [i] → acc.length + l.length ≤ lim → ∃ e', lcLoop [i] (ev T elt) (.nm i) (evAnd T .nil) (l.map enc) acc e = .ok (acc ++ l.map f, e') ∧ wipeE e' [i] = wipeE e0 [i]
  | [], acc, e, _, hw, _ => ⟨e, by simp [lcLoop], hw⟩
  | x :: r, acc, e, h, hw, hl => by
    obtain ⟨v, h3, h4⟩ := h x List.mem_cons_self
    have hb : bindT (.nm i) (enc x) (wipeE e [i]) = .ok (e0.set i (some (.d (enc x)))) := by
      rw [hw]
      show Except.ok ((e0.set i none).set i _) = _
      rw [List.set_set]
    have hw2 : wipeE (e0.set i (some (Vl.d (enc x)))) [i] = wipeE e0 [i] := by
      show (e0.set i _).set i none = e0.set i none
      rw [List.set_set]
    simp only [List.length_cons] at hl
    obtain ⟨e', q1, q2⟩ := lc_runM enc f r (acc ++ [f x]) _ (fun y hy => h y (List.mem_cons_of_mem _ hy)) hw2 (by simp; omega)
    refine ⟨e', ?_, q2⟩
    have hg : (grd (decide (acc.length < lim)) () : Rs Unit) = .ok () := by
      unfold grd
      rw [decide_eq_true (by omega : acc.length < lim)]
      rfl
    have h1 : evAnd T .nil (e0.set i (some (.d (enc x)))) = .ok (true, e0.set i (some (.d (enc x)))) := rfl
    simp only [List.map_cons, lcLoop, hb, h1, h3, h4, hg, bind, Except.bind]
    simp [q1]
/-- two fors without conditions -/
theorem ev_lc2M {α β : Type} {i j : Nat} {elt : Ex} {it it1 : Itr} {env e0 : Evn} (hij : i ≠ j) (l : List α) (enc : α → PyData) (m : α → List β) (enc2 : β → PyData) (f : α → β → PyData) (k : Nat)
    (hi : evI T it env = .ok (l.map enc, e0)) (hl : l.length * k ≤ lim) (hm : ∀ x ∈ l, (m x).length ≤ k)
    (h1 : ∀ x ∈ l, evI T it1 ((e0.set j none).set i (some (.d (enc x)))) = .ok ((m x).map enc2, (e0.set j none).set i (some (.d (enc x)))))
    (h2 : ∀ x ∈ l, ∀ y ∈ m x, ∃ r, ev T elt (((e0.set j none).set i (some (.d (enc x)))).set j (some (.d (enc2 y)))) = .ok (r, ((e0.set j none).set i (some (.d (enc x)))).set j (some (.d (enc2 y)))) ∧ r.x = f x y) :
    ev T (.lc2 [i, j] [j] elt (.nm i) it .nil (.nm j) it1 .nil) env = .ok (.o (.list (l.flatMap fun x => (m x).map (f x))), e0) := by
  have key : ∀ (l : List α) (acc : List PyData) (e : Evn), (∀ x ∈ l, (m x).length ≤ k) →
      (∀ x ∈ l, evI T it1 ((e0.set j none).set i (some (.d (enc x)))) = .ok ((m x).map enc2, (e0.set j none).set i (some (.d (enc x))))) →
      (∀ x ∈ l, ∀ y ∈ m x, ∃ r, ev T elt (((e0.set j none).set i (some (.d (enc x)))).set j (some (.d (enc2 y)))) = .ok (r, ((e0.set j none).set i (some (.d (enc x)))).set j (some (.d (enc2 y)))) ∧ r.x = f x y) →
      wipeE e [i, j] = wipeE e0 [i, j] → acc.length + l.length * k ≤ lim →
      ∃ e', lc2Loop [i, j] [j] (ev T elt) (.nm i) (evAnd T .nil) (evI T it1) (.nm j) (evAnd T .nil) (l.map enc) acc e = .ok (acc ++ l.flatMap (fun x => (m x).map (f x)), e') ∧ wipeE e' [i, j] = wipeE e0 [i, j] := by
    intro l
    induction l with
    | nil => intro acc e _ _ _ hw _; exact ⟨e, by simp [lc2Loop], hw⟩
    | cons x r ih =>
      intro acc e hm h1 h2 hw hl
      have hb : bindT (.nm i) (enc x) (wipeE e [i, j]) = .ok ((e0.set j none).set i (some (.d (enc x)))) := by
        rw [hw]
        show Except.ok (((e0.set j none).set i none).set i _) = _
        rw [List.set_set]
      have hx := hm x List.mem_cons_self
      simp only [List.length_cons, Nat.succ_mul] at hl
      obtain ⟨e1, q1, q2⟩ := lc_runM (T := T) (i := j) (elt := elt) (e0 := (e0.set j none).set i (some (.d (enc x)))) enc2 (f x) (m x) acc ((e0.set j none).set i (some (.d (enc x)))) (h2 x List.mem_cons_self) rfl (by omega)
      have hw2 : wipeE e1 [i, j] = wipeE e0 [i, j] := by
        have q3 : e1.set j none = ((e0.set j none).set i (some (.d (enc x)))).set j none := q2
        show (e1.set j none).set i none = (e0.set j none).set i none
        rw [q3, List.set_comm _ _ (Ne.symm hij), List.set_set, List.set_comm _ _ hij, List.set_set]
      obtain ⟨e', q3, q4⟩ := ih (acc ++ (m x).map (f x)) e1 (fun y hy => hm y (List.mem_cons_of_mem _ hy)) (fun y hy => h1 y (List.mem_cons_of_mem _ hy)) (fun y hy => h2 y (List.mem_cons_of_mem _ hy)) hw2 (by simp; omega)
      refine ⟨e', ?_, q4⟩
      have t : ∀ e, evAnd T .nil e = .ok (true, e) := fun _ => rfl
      simp only [List.map_cons, lc2Loop, hb, t, h1 x List.mem_cons_self, bind, Except.bind, if_true, q1, q3]
      simp
  obtain ⟨e', q1, q2⟩ := key l [] (wipeE e0 [i, j]) hm h1 h2 (by
    show ((((e0.set j none).set i none).set j none).set i none) = (e0.set j none).set i none
    rw [List.set_comm _ _ hij, List.set_set, List.set_set]) (by simpa using hl)
  have e : ev T (.lc2 [i, j] [j] elt (.nm i) it .nil (.nm j) it1 .nil) env = (evI T it env >>= fun p => quiet (lc2Loop [i, j] [j] (ev T elt) (.nm i) (evAnd T .nil) (evI T it1) (.nm j) (evAnd T .nil) p.1 [] (wipeE p.2 [i, j])) >>= fun q => .ok (.o (.list q.1), restE p.2 q.2 [i, j])) := rfl
  rw [e, hi]
  simp only [bind, Except.bind, q1, quiet, List.nil_append]
  rw [rest_back q2]
/-- for i, x in enumerate(..), gone through -/
theorem exS_enu {α : Type} {i j : Nat} {e : Ex} {body : Sms} {env e0 : Evn} {r : Vl} (l : List α) (enc : α → PyData) (Inv : List α → Evn → Prop) (hi : ev T e env = .ok (r, e0)) (hr : r.x = .tuple (l.map enc) ∨ r.x = .list (l.map enc)) (h0 : Inv [] e0)
    (h : ∀ d x s, l = d ++ x :: s → ∀ e, Inv d e → ∃ e2, exB T X body ((e.set i (some (.d (.int d.length)))).set j (some (.d (enc x)))) = .ok (.nx, e2) ∧ Inv (d ++ [x]) e2) :
    ∃ e', exS T X (.for (.tp [i, j]) (.enu e) body) env = .ok (.nx, e') ∧ Inv l e' := by
  have key : ∀ (r d : List α) (e : Evn), l = d ++ r → Inv d e → ∃ e', forLoop (.tp [i, j]) (exB T X body) (((r.map enc).zipIdx d.length).map fun (x, k) => PyData.tuple [.int k, x]) e = .ok (.nx, e') ∧ Inv l e' := by
    intro r
    induction r with
    | nil => intro d e hd hI; exact ⟨e, rfl, by rw [hd, List.append_nil]; exact hI⟩
    | cons x r ih =>
      intro d e hd hI
      obtain ⟨e2, h2, h3⟩ := h d x r hd e hI
      obtain ⟨e', q1, q2⟩ := ih (d ++ [x]) e2 (by rw [hd]; simp) h3
      refine ⟨e', ?_, q2⟩
      have hb : bindT (.tp [i, j]) (.tuple [.int d.length, enc x]) e = .ok ((e.set i (some (.d (.int d.length)))).set j (some (.d (enc x)))) := rfl
      rw [List.length_append] at q1
      simp only [List.map_cons, List.zipIdx_cons, forLoop, hb, h2, bind, Except.bind]
      exact q1
  obtain ⟨e', q1, q2⟩ := key l [] e0 rfl h0
  refine ⟨e', ?_, q2⟩
  have hI : evI T (.enu e) env = .ok ((l.map enc).zipIdx.map fun (x, k) => PyData.tuple [.int k, x], e0) := by
    rw [evI]
    rcases hr with hr | hr <;> simp only [hi, bind, Except.bind, hr]
  rw [exS, hI]
  exact q1
end Qv

set_option maxRecDepth 100000
/-! QN: lots, families and nets as data. -/
namespace Qv
open PySem
abbrev Lot := List Str
abbrev Fam := List Lot
/-- a name as this program has them -/
def nameB (x : Str) : Bool := PyData.strOk x && decide (1 ≤ x.length) && decide (x.length ≤ 8) && decide (x.cps.size ≤ 8) &&
  x.cps.toList.all fun c => !(Builtin.Str.occurrences ("abcdefghijklmnopqrstuvwxyz" : Str) ⟨#[c]⟩ 0 ("abcdefghijklmnopqrstuvwxyz" : Str).length 1).isEmpty
def okS (o : Lot) : Prop := ∀ x ∈ o, nameB x = true
def okF (f : Fam) : Prop := ∀ o ∈ f, okS o
def eS (o : Lot) : PyData := .tuple (o.map .str)
def eF (f : Fam) : PyData := .tuple (f.map eS)
def eN (H : Lot) (F : List Fam) : PyData := .tuple [eS H, .tuple (F.map eF)]

/-! ### the signs of a text -/
def Cp (y : Str) : Prop := ∀ c ∈ y.cps.toList, c < 0x110000
theorem cp_ok {y : Str} (h : Cp y) : PyData.strOk y = true := by
  unfold PyData.strOk
  rw [Array.all_eq_true_iff_forall_mem]
  exact fun c hc => decide_eq_true (h c (Array.mem_toList_iff.mpr hc))
theorem cp_of {y : Str} (h : PyData.strOk y = true) : Cp y := by
  unfold PyData.strOk at h
  rw [Array.all_eq_true_iff_forall_mem] at h
  exact fun c hc => of_decide_eq_true (h c (Array.mem_toList_iff.mp hc))
theorem cp_append {x y : Str} (hx : Cp x) (hy : Cp y) : Cp (x ++ y) := by
  intro c hc
  have e : (x ++ y).cps.toList = x.cps.toList ++ y.cps.toList := Array.toList_append
  rw [e, List.mem_append] at hc
  exact hc.elim (hx c) (hy c)
theorem cp_char {q c : Nat} (hq : q < 0x110000) (hc : c < 0x110000) : ∀ d ∈ Builtin.Str.reprChar q c, d < 0x110000 := by
  have hex : ∀ w : Nat, ∀ d ∈ List.replicate (w - ((Nat.toDigits 16 c).map Char.toNat).length) 48 ++ (Nat.toDigits 16 c).map Char.toNat, d < 0x110000 := by
    intro w d hd
    rcases List.mem_append.mp hd with h | h
    · rw [List.eq_of_mem_replicate h]; decide
    · obtain ⟨x, _, rfl⟩ := List.mem_map.mp h
      have := x.valid
      rcases this with h | h
      · exact Nat.lt_trans h (by decide)
      · exact h.2
  intro d hd
  unfold Builtin.Str.reprChar at hd
  simp only at hd
  split at hd
  · rcases List.mem_cons.mp hd with rfl | hd
    · decide
    · rw [List.mem_singleton.mp hd]; exact hc
  split at hd
  · simp only [List.mem_cons, List.not_mem_nil, or_false] at hd; omega
  split at hd
  · simp only [List.mem_cons, List.not_mem_nil, or_false] at hd; omega
  split at hd
  · simp only [List.mem_cons, List.not_mem_nil, or_false] at hd; omega
  split at hd
  · rw [List.mem_singleton.mp hd]; exact hc
  split at hd
  · rcases List.mem_append.mp hd with hd | hd
    · simp only [List.mem_cons, List.not_mem_nil, or_false] at hd; omega
    · exact hex _ d hd
  split at hd
  · rcases List.mem_append.mp hd with hd | hd
    · simp only [List.mem_cons, List.not_mem_nil, or_false] at hd; omega
    · exact hex _ d hd
  · rcases List.mem_append.mp hd with hd | hd
    · simp only [List.mem_cons, List.not_mem_nil, or_false] at hd; omega
    · exact hex _ d hd
theorem cp_repr {x : Str} (h : Cp x) : Cp (reprText x) := by
  have hq : reprQuote x < 0x110000 := by unfold reprQuote; split <;> decide
  have key : ∀ (l : List Nat) (acc : Array Nat), (∀ c ∈ l, c < 0x110000) → (∀ c ∈ acc.toList, c < 0x110000) → ∀ c ∈ (l.foldl (fun out c => out ++ (Builtin.Str.reprChar (reprQuote x) c).toArray) acc).toList, c < 0x110000 := by
    intro l
    induction l with
    | nil => intro acc _ ha; exact ha
    | cons a r ih =>
      intro acc hl ha
      refine ih _ (fun c hc => hl c (List.mem_cons_of_mem _ hc)) (fun c hc => ?_)
      rw [Array.toList_append, List.mem_append] at hc
      exact hc.elim (ha c) (cp_char hq (hl a List.mem_cons_self) c)
  intro c hc
  unfold reprText at hc
  simp only [Array.toList_push, List.mem_append, List.mem_singleton] at hc
  rcases hc with hc | rfl
  · rw [← Array.foldl_toList] at hc
    exact key _ _ h (fun c hc => by
      have : c ∈ [reprQuote x] := hc
      rw [List.mem_singleton.mp this]
      exact hq) c hc
  · exact hq
theorem cp_lit {y : Str} (h : PyData.strOk y = true) : Cp y := cp_of h
theorem cp_from : ∀ (ts : List Str) (k : Nat) (acc : Str), Cp acc → (∀ t ∈ ts, Cp t) → Cp (textFrom k acc ts)
  | [], _, _, ha, _ => ha
  | t :: ts, k, acc, ha, h => by
    refine cp_from ts (k + 1) _ (cp_append (cp_append ha ?_) (h t List.mem_cons_self)) fun u hu => h u (List.mem_cons_of_mem _ hu)
    split <;> exact cp_lit (by decide +kernel)
theorem cp_list {ts : List Str} (h : ∀ t ∈ ts, Cp t) : Cp (listText ts) := cp_append (cp_from ts 0 _ (cp_lit (by decide +kernel)) h) (cp_lit (by decide +kernel))
theorem cp_join : ∀ {ts : List Str}, (∀ t ∈ ts, Cp t) → Cp (Str.join ", " ts)
  | [], _ => cp_lit (by decide +kernel)
  | [x], h => h x List.mem_cons_self
  | x :: y :: r, h => cp_append (cp_append (h x List.mem_cons_self) (cp_lit (by decide +kernel))) (cp_join fun t ht => h t (List.mem_cons_of_mem _ ht))
theorem cp_tuple {ts : List Str} (h : ∀ t ∈ ts, Cp t) : Cp (tupleText ts) := by
  unfold tupleText
  refine cp_append (cp_append (cp_lit (by decide +kernel)) (cp_join h)) ?_
  split <;> exact cp_lit (by decide +kernel)
/-! ### data that can be laid, compared and shown -/
structure Nice (k w : Nat) (x : PyData) : Prop where
  cp : Cp x.shown
  lay : x.canLay0 = true
  sh : x.showable = true
  is : x.intsShort 13 = true
  dep : x.depth ≤ k
  wt : x.weight ≤ w
theorem nice_mono {k w k' w' : Nat} {x : PyData} (h : Nice k w x) (hk : k ≤ k') (hw : w ≤ w') : Nice k' w' x := ⟨h.cp, h.lay, h.sh, h.is, Nat.le_trans h.dep hk, Nat.le_trans h.wt hw⟩
theorem nice_str {w : Nat} {x : Str} (h : PyData.strOk x = true) (hw : x.cps.size ≤ w) : Nice 0 w (.str x) :=
  ⟨by rw [PyData.shown]; exact cp_repr (cp_of h), by simpa [PyData.canLay0] using h, by simp [PyData.showable], by simp [PyData.intsShort], by simp [PyData.depth], by simpa [PyData.weight] using hw⟩
structure NiceA (k w : Nat) (xs : List PyData) : Prop where
  cp : ∀ t ∈ PyData.shownAll xs, Cp t
  lay : PyData.canLayAll0 xs = true
  sh : PyData.showableAll xs = true
  is : PyData.intsShortAll 13 xs = true
  dep : PyData.depthAll xs ≤ k
  wt : PyData.weightAll xs ≤ xs.length * (w + 1)
theorem nice_all {k w : Nat} : ∀ {xs : List PyData}, (∀ x ∈ xs, Nice k w x) → NiceA k w xs
  | [], _ => ⟨by simp [PyData.shownAll], by simp [PyData.canLayAll0], by simp [PyData.showableAll], by simp [PyData.intsShortAll], by simp [PyData.depthAll], by simp [PyData.weightAll]⟩
  | x :: xs, h => by
    have a := h x List.mem_cons_self
    have b := nice_all (xs := xs) fun y hy => h y (List.mem_cons_of_mem _ hy)
    refine ⟨by rw [PyData.shownAll]; intro t ht; exact (List.mem_cons.mp ht).elim (fun e => e ▸ a.cp) (b.cp t), by simp [PyData.canLayAll0, a.lay, b.lay], by simp [PyData.showableAll, a.sh, b.sh], by simp [PyData.intsShortAll, a.is, b.is], ?_, ?_⟩
    · have := a.dep; have := b.dep
      simp only [PyData.depthAll]
      omega
    · have := a.wt; have := b.wt
      simp only [PyData.weightAll, List.length_cons, Nat.add_mul]
      omega
theorem nice_tup {k w : Nat} {xs : List PyData} (h : ∀ x ∈ xs, Nice k w x) : Nice (k + 1) (xs.length * (w + 1)) (.tuple xs) := by
  have b := nice_all h
  exact ⟨by rw [PyData.shown]; exact cp_tuple b.cp, by simpa [PyData.canLay0] using b.lay, by simpa [PyData.showable] using b.sh, by simpa [PyData.intsShort] using b.is, by have := b.dep; simp only [PyData.depth]; omega, by simpa [PyData.weight] using b.wt⟩
theorem nice_list {k w : Nat} {xs : List PyData} (h : ∀ x ∈ xs, Nice k w x) : Nice (k + 1) (xs.length * (w + 1)) (.list xs) := by
  have b := nice_all h
  exact ⟨by rw [PyData.shown]; exact cp_list b.cp, by simpa [PyData.canLay0] using b.lay, by simpa [PyData.showable] using b.sh, by simpa [PyData.intsShort] using b.is, by have := b.dep; simp only [PyData.depth]; omega, by simpa [PyData.weight] using b.wt⟩
theorem Nice.shp {k w : Nat} {x : PyData} (h : Nice k w x) (hk : k ≤ 60) : shp x = true := by
  unfold Qv.shp
  simp [SeqAt.shaped, h.lay, Nat.le_trans h.dep (Nat.le_trans hk (by decide : 60 ≤ 64))]
theorem Nice.repr {k w : Nat} {x : PyData} (h : Nice k w x) (hk : k ≤ 60) (hw : w ≤ 1000000) : fnD .repr x = .ok (.str x.shown) := by
  have h2 := PyData.shown_le 13 (by decide) x (PyData.leavesShort_of_canLay0 13 x h.lay h.is)
  have h3 := PyData.hasDict_of_canLay x h.lay
  have hw2 := h.wt
  have hd := h.dep
  have hl : x.shown.length ≤ lim := by
    show _ ≤ 16000000
    omega
  show grd (x.showable && !x.hasDict && decide (x.depth ≤ 60) && decide (x.shown.length ≤ lim)) _ = _
  rw [h.sh, h3, decide_eq_true hl, decide_eq_true (by omega : x.depth ≤ 60)]
  rfl
theorem name_strOk {x : Str} (h : nameB x = true) : PyData.strOk x = true := by
  simp only [nameB, Bool.and_eq_true] at h
  exact h.1.1.1.1
theorem name_size {x : Str} (h : nameB x = true) : x.cps.size ≤ 8 := by
  simp only [nameB, Bool.and_eq_true, decide_eq_true_eq] at h
  exact h.1.2
theorem nice_name {x : Str} (h : nameB x = true) : Nice 0 8 (.str x) := nice_str (name_strOk h) (name_size h)
theorem nice_S {o : Lot} (h : okS o) : Nice 1 (o.length * 9) (eS o) := by
  have := nice_tup (k := 0) (w := 8) (xs := o.map .str) (fun x hx => by
    obtain ⟨y, hy, rfl⟩ := List.mem_map.mp hx
    exact nice_name (h y hy))
  unfold eS
  simpa using this
/-- short lots -/
def shS (o : Lot) : Prop := o.length ≤ 9
theorem nice_S9 {o : Lot} (h : okS o) (hl : o.length ≤ 9) : Nice 1 81 (eS o) := nice_mono (nice_S h) (Nat.le_refl _) (by omega)
theorem nice_F {f : Fam} (h : okF f) (hl : ∀ o ∈ f, o.length ≤ 9) : Nice 2 (f.length * 82) (eF f) := by
  have := nice_tup (k := 1) (w := 81) (xs := f.map eS) (fun x hx => by
    obtain ⟨y, hy, rfl⟩ := List.mem_map.mp hx
    exact nice_S9 (h y hy) (hl y hy))
  unfold eF
  simpa using this
/-! ### texts among texts, lots among lots -/
theorem any_str (o : Lot) (y : Str) : ((o.map PyData.str).any fun z => PyData.eqv z (.str y)) = o.contains y := by
  induction o with
  | nil => rfl
  | cons x r ih =>
    rw [List.map_cons, List.any_cons, ih, List.contains_cons]
    have : PyData.eqv (.str x) (.str y) = (y == x) := by
      rw [PyData.eqv]
      exact BEq.comm
    rw [this]
theorem e_in {y : Str} {o : Lot} (hy : nameB y = true) (ho : okS o) : cmpD .isin (.str y) (eS o) = .ok (o.contains y) := by
  have h1 : shp (.str y) = true := (nice_name hy).shp (by decide)
  have h2 : shp (.tuple (o.map .str)) = true := (nice_S ho).shp (by decide)
  show grd (shp (.str y) && shp (.tuple (o.map .str))) ((o.map PyData.str).any fun z => PyData.eqv z (.str y)) = _
  rw [any_str, h1, h2]
  rfl
theorem e_notin {y : Str} {o : Lot} (hy : nameB y = true) (ho : okS o) : cmpD .notin (.str y) (eS o) = .ok (!o.contains y) := by
  have h1 : shp (.str y) = true := (nice_name hy).shp (by decide)
  have h2 : shp (.tuple (o.map .str)) = true := (nice_S ho).shp (by decide)
  show grd (shp (.str y) && shp (.tuple (o.map .str))) (!(o.map PyData.str).any fun z => PyData.eqv z (.str y)) = _
  rw [any_str, h1, h2]
  rfl
theorem str_inj {a b : Lot} (h : a.map PyData.str = b.map PyData.str) : a = b := by
  induction a generalizing b with
  | nil => cases b with
    | nil => rfl
    | cons _ _ => cases h
  | cons x r ih => cases b with
    | nil => cases h
    | cons y s =>
      simp only [List.map_cons, List.cons.injEq, PyData.str.injEq] at h
      rw [h.1, ih h.2]
theorem eS_inj {a b : Lot} (h : eS a = eS b) : a = b := by
  unfold eS at h
  injection h with h
  exact str_inj h
theorem hashA_str (o : Lot) : hashD.hashA (o.map PyData.str) = true := by
  induction o with
  | nil => simp [hashD.hashA]
  | cons x r ih => simp [hashD.hashA, hashD, ih]
theorem hash_S (o : Lot) : hashD (eS o) = true := by
  unfold eS hashD
  exact hashA_str o
theorem eqv_S (a b : Lot) : PyData.eqv (eS a) (eS b) = decide (a = b) := by
  have h := eqv_hash (eS a) (eS b) (hash_S a) (hash_S b)
  by_cases e : a = b
  · rw [decide_eq_true e]
    exact h.mpr (by rw [e])
  · rw [decide_eq_false e]
    cases q : PyData.eqv (eS a) (eS b) with
    | false => rfl
    | true => exact absurd (eS_inj (h.mp q)) e
theorem alike_strs (a b : Lot) : W.alikeAll (a.map PyData.str) (b.map PyData.str) = true := by
  induction a generalizing b with
  | nil => cases b <;> simp [W.alikeAll]
  | cons x r ih => cases b with
    | nil => simp [W.alikeAll]
    | cons y s => simp [W.alikeAll, W.alike, ih]
theorem alike_S (a b : Lot) : W.alike (eS a) (eS b) = true := by
  unfold eS
  rw [W.alike]
  exact alike_strs a b
def ltL (a b : Lot) : Bool := W.dataLt (eS a) (eS b)
def leL (a b : Lot) : Bool := leD (eS a) (eS b)
theorem e_ltL {a b : Lot} (ha : okS a) (hb : okS b) : cmpD .lt (eS a) (eS b) = .ok (ltL a b) := by
  have h1 := (nice_S ha).shp (by decide)
  have h2 := (nice_S hb).shp (by decide)
  have h3 := alike_S a b
  have : cmpD .lt (eS a) (eS b) = grd (ltR (eS a) (eS b)) (W.dataLt (eS a) (eS b)) := rfl
  rw [this, ltR, h1, h2, h3]
  rfl
theorem e_neL {a b : Lot} (ha : okS a) (hb : okS b) : cmpD .ne (eS a) (eS b) = .ok (!decide (a = b)) := by
  have h1 := (nice_S ha).shp (by decide)
  have h2 := (nice_S hb).shp (by decide)
  have : cmpD .ne (eS a) (eS b) = grd (shp (eS a) && shp (eS b)) (!PyData.eqv (eS a) (eS b)) := rfl
  rw [this, h1, h2, eqv_S]
  rfl
theorem leL_total : ∀ a b : Lot, (leL a b || leL b a) = true := fun a b => Bool.or_eq_true_iff.mpr (leD_total.total _ _)
theorem leL_trans : ∀ a b c : Lot, leL a b = true → leL b c = true → leL a c = true := fun a b c h1 h2 => leD_total.trans _ _ _ h1 h2
theorem leL_anti {a b : Lot} (h1 : leL a b = true) (h2 : leL b a = true) : a = b := eS_inj (leD_anti (hash_S a) (hash_S b) (alike_S a b) h1 h2)
theorem ltL_of {a b : Lot} (h : leL a b = true) (hne : a ≠ b) : ltL a b = true := by
  cases q : ltL a b with
  | true => rfl
  | false =>
    refine absurd (leL_anti h ?_) hne
    show (!W.dataLt (eS a) (eS b)) = true
    rw [show W.dataLt (eS a) (eS b) = false from q]
    rfl
theorem leL_of {a b : Lot} (h : ltL a b = true) : leL a b = true := by
  rcases Bool.or_eq_true_iff.mp (leL_total a b) with q | q
  · exact q
  · have : (!W.dataLt (eS a) (eS b)) = true := q
    rw [show W.dataLt (eS a) (eS b) = true from h] at this
    cases this
theorem ltL_irr {a b : Lot} (h : ltL a b = true) : a ≠ b := fun e => by
  subst e
  have h1 : (!W.dataLt (eS a) (eS a)) = true := (by simpa using leL_total a a : leL a a = true)
  rw [show W.dataLt (eS a) (eS a) = true from h] at h1
  cases h1
/-! ### sorted sets of lots -/
def dedupL : Fam → Fam
  | [] => []
  | x :: r => if x ∈ dedupL r then dedupL r else x :: dedupL r
theorem dedup_S (xs : Fam) : dedup (xs.map eS) = (dedupL xs).map eS := by
  induction xs with
  | nil => rfl
  | cons x r ih =>
    rw [List.map_cons, dedup, dedupL, ih]
    have : ((dedupL r).map eS).any (fun y => PyData.eqv (eS x) y) = decide (x ∈ dedupL r) := by
      rw [List.any_map]
      have : ((fun y => PyData.eqv (eS x) y) ∘ eS) = fun y => decide (x = y) := funext fun y => eqv_S x y
      rw [this]
      by_cases h : x ∈ dedupL r
      · rw [decide_eq_true h, List.any_eq_true]
        exact ⟨x, h, decide_eq_true rfl⟩
      · rw [decide_eq_false h, List.any_eq_false]
        intro y hy
        simp only [decide_eq_true_eq]
        exact fun e => h (e ▸ hy)
    rw [this]
    by_cases h : x ∈ dedupL r <;> simp [h]
theorem mem_dedupL {xs : Fam} {x : Lot} : x ∈ dedupL xs ↔ x ∈ xs := by
  induction xs with
  | nil => exact Iff.rfl
  | cons a r ih =>
    unfold dedupL
    split
    · rename_i h
      rw [ih, List.mem_cons]
      exact ⟨.inr, fun z => z.elim (fun z => by rw [z]; exact ih.mp (z ▸ h) |> fun q => (by
        have := h
        cases z
        exact q)) id⟩
    · rw [List.mem_cons, List.mem_cons, ih]
theorem nodup_dedupL (xs : Fam) : (dedupL xs).Nodup := by
  induction xs with
  | nil => exact List.nodup_nil
  | cons a r ih =>
    unfold dedupL
    split
    · exact ih
    · rename_i h
      exact List.nodup_cons.mpr ⟨h, ih⟩
theorem len_dedupL (xs : Fam) : (dedupL xs).length ≤ xs.length := by
  induction xs with
  | nil => exact Nat.le_refl _
  | cons a r ih =>
    unfold dedupL
    split
    · simp; omega
    · simp; omega
def sortL (xs : Fam) : Fam := (dedupL xs).mergeSort leL
theorem mem_sortL {xs : Fam} {x : Lot} : x ∈ sortL xs ↔ x ∈ xs := (List.mergeSort_perm _ _).mem_iff.trans mem_dedupL
theorem nodup_sortL (xs : Fam) : (sortL xs).Nodup := (List.mergeSort_perm _ _).nodup_iff.mpr (nodup_dedupL xs)
theorem len_sortL (xs : Fam) : (sortL xs).length = (dedupL xs).length := (List.mergeSort_perm _ _).length_eq
theorem sorted_sortL (xs : Fam) : (sortL xs).Pairwise fun a b => leL a b = true := List.pairwise_mergeSort leL_trans leL_total _
theorem strict_of {xs : Fam} (h : xs.Pairwise fun a b => leL a b = true) (hn : xs.Nodup) : xs.Pairwise fun a b => ltL a b = true := by
  refine (List.pairwise_and_iff.mpr ⟨h, hn⟩).imp ?_
  intro a b h
  exact ltL_of h.1 h.2
theorem sort_map (xs : Fam) : (xs.map eS).mergeSort leD = (xs.mergeSort leL).map eS := (List.map_mergeSort (r := leL) (s := leD) (f := eS) (fun a _ b _ => rfl)).symm
theorem set_ok {xs : Fam} (h : okF xs) (hl : xs.length ≤ 4000) (hd : (dedupL xs).length < 64) : setOk (xs.map eS) = true := by
  unfold setOk
  have a1 : alikeL (xs.map eS) = true := by
    unfold alikeL
    rw [List.all_map, List.all_eq_true]
    intro x _
    show ((xs.map eS).all fun y => W.alike (eS x) y) = true
    rw [List.all_map, List.all_eq_true]
    exact fun y _ => alike_S x y
  have a2 : (xs.map eS).all shp = true := by
    rw [List.all_map, List.all_eq_true]
    exact fun x hx => (nice_S (h x hx)).shp (by decide)
  have a3 : (xs.map eS).all hashD = true := by
    rw [List.all_map, List.all_eq_true]
    exact fun x hx => hash_S x
  have a4 : (xs.map eS).all (fun x => decide (x.depth ≤ 8)) = true := by
    rw [List.all_map, List.all_eq_true]
    exact fun x hx => decide_eq_true (Nat.le_trans (nice_S (h x hx)).dep (by decide))
  have a5 : (xs.map eS).all isTupD = true := by
    rw [List.all_map, List.all_eq_true]
    exact fun x hx => rfl
  rw [a1, a2, a3, a4, a5, dedup_S]
  simp [hd, hl]
theorem sset_S {xs : Fam} (h : okF xs) (hl : xs.length ≤ 4000) (hd : (dedupL xs).length < 64) : fnD .sset (.list (xs.map eS)) = .ok (.list ((sortL xs).map eS)) := by
  show grd (setOk (xs.map eS)) (PyData.list ((dedup (xs.map eS)).mergeSort leD)) = _
  rw [set_ok h hl hd, dedup_S, sort_map]
  rfl
end Qv

set_option maxRecDepth 100000
/-! QP: lots of some houses; the greatest of some lots. Plain lists, no program. -/
namespace Qv
open PySem
def liesIn (l o : Lot) : Bool := l.all fun n => o.contains n
theorem liesIn_iff {l o : Lot} : liesIn l o = true ↔ ∀ n ∈ l, n ∈ o := by
  unfold liesIn
  rw [List.all_eq_true]
  exact ⟨fun h n hn => List.contains_iff_mem.mp (h n hn), fun h n hn => List.contains_iff_mem.mpr (h n hn)⟩
theorem liesIn_refl (l : Lot) : liesIn l l = true := liesIn_iff.mpr fun _ h => h
theorem liesIn_trans {a b c : Lot} (h1 : liesIn a b = true) (h2 : liesIn b c = true) : liesIn a c = true := liesIn_iff.mpr fun n h => liesIn_iff.mp h2 n (liesIn_iff.mp h1 n h)
theorem sub_filter {H a : Lot} (hn : H.Nodup) (h : a.Sublist H) : a = H.filter fun n => a.contains n := by
  induction h with
  | slnil => rfl
  | @cons a b x h ih =>
    have hx := (List.nodup_cons.mp hn).1
    have ih := ih (List.nodup_cons.mp hn).2
    rw [List.filter_cons, if_neg, ← ih]
    intro hc
    exact hx (h.subset (List.contains_iff_mem.mp hc))
  | @cons_cons a b x h ih =>
    have hx := (List.nodup_cons.mp hn).1
    have ih := ih (List.nodup_cons.mp hn).2
    rw [List.filter_cons, if_pos (by simp)]
    congr 1
    refine ih.trans (List.filter_congr fun n hb => ?_)
    have : n ≠ x := fun e => hx (e ▸ hb)
    simp [this]
theorem sub_anti {H a b : Lot} (hn : H.Nodup) (ha : a.Sublist H) (hb : b.Sublist H) (h1 : liesIn a b = true) (h2 : liesIn b a = true) : a = b := by
  rw [sub_filter hn ha, sub_filter hn hb]
  refine List.filter_congr fun n _ => ?_
  rw [Bool.eq_iff_iff]
  exact ⟨fun h => List.contains_iff_mem.mpr (liesIn_iff.mp h1 n (List.contains_iff_mem.mp h)), fun h => List.contains_iff_mem.mpr (liesIn_iff.mp h2 n (List.contains_iff_mem.mp h))⟩
theorem filter_lt {α : Type} (p q : α → Bool) : ∀ (l : List α), (∀ n ∈ l, p n = true → q n = true) → (∃ n ∈ l, q n = true ∧ p n = false) → (l.filter p).length < (l.filter q).length
  | [], _, ⟨_, h, _⟩ => nomatch h
  | x :: l, h, ⟨n, hn, h1, h2⟩ => by
    have le : ∀ l : List α, (∀ n ∈ l, p n = true → q n = true) → (l.filter p).length ≤ (l.filter q).length := by
      intro l
      induction l with
      | nil => intro _; exact Nat.le_refl _
      | cons y l ih =>
        intro h
        have := ih fun n hn => h n (List.mem_cons_of_mem _ hn)
        cases hp : p y with
        | false =>
          rw [List.filter_cons, hp]
          cases hq : q y <;> simp [List.filter_cons, hq] <;> omega
        | true =>
          have hq := h y List.mem_cons_self hp
          simp [List.filter_cons, hp, hq]
          exact this
    rcases List.mem_cons.mp hn with rfl | hn
    · have := le l fun n hn => h n (List.mem_cons_of_mem _ hn)
      simp [List.filter_cons, h1, h2]
      omega
    · have ih := filter_lt p q l (fun n hn => h n (List.mem_cons_of_mem _ hn)) ⟨n, hn, h1, h2⟩
      cases hp : p x with
      | false =>
        rw [List.filter_cons, hp]
        cases hq : q x <;> simp [List.filter_cons, hq] <;> omega
      | true =>
        have hq := h x List.mem_cons_self hp
        simp [List.filter_cons, hp, hq]
        exact ih
/-- some lots of the houses H -/
structure LotsOf (H : Lot) (xs : Fam) : Prop where
  nd : H.Nodup
  sub : ∀ a ∈ xs, a.Sublist H
def greatM (xs : Fam) : Fam := (sortL xs).filter fun one => !((sortL xs).any fun o => !decide (one = o) && liesIn one o)
theorem mem_great {xs : Fam} {a : Lot} : a ∈ greatM xs ↔ a ∈ xs ∧ ∀ o ∈ xs, liesIn a o = true → a = o := by
  unfold greatM
  rw [List.mem_filter, mem_sortL]
  refine and_congr Iff.rfl ?_
  rw [Bool.not_eq_true', List.any_eq_false]
  constructor
  · intro h o ho hl
    have := h o (mem_sortL.mpr ho)
    simp only [hl, Bool.and_true, Bool.not_eq_true', decide_eq_false_iff_not, Decidable.not_not] at this
    exact this
  · intro h o ho
    have := h o (mem_sortL.mp ho)
    intro hc
    simp only [Bool.and_eq_true, Bool.not_eq_true', decide_eq_false_iff_not] at hc
    exact hc.1 (this hc.2)
theorem great_sub {xs : Fam} {a : Lot} (h : a ∈ greatM xs) : a ∈ xs := (mem_great.mp h).1
/-- each lies within a greatest one -/
theorem great_cover {H : Lot} {xs : Fam} (L : LotsOf H xs) : ∀ (k : Nat) (a : Lot), a ∈ xs → H.length ≤ k + (H.filter fun n => a.contains n).length → ∃ g ∈ greatM xs, liesIn a g = true
  | k, a, ha, hk => by
    by_cases hm : ∀ o ∈ xs, liesIn a o = true → a = o
    · exact ⟨a, mem_great.mpr ⟨ha, hm⟩, liesIn_refl a⟩
    · have ⟨o, ho, hl, hne⟩ : ∃ o ∈ xs, liesIn a o = true ∧ a ≠ o := by
        refine Classical.byContradiction fun hc => hm fun o ho hl => Classical.byContradiction fun hne => hc ⟨o, ho, hl, hne⟩
      have hex : ∃ n ∈ H, o.contains n = true ∧ a.contains n = false := by
        refine Classical.byContradiction fun hc => hne (sub_anti L.nd (L.sub a ha) (L.sub o ho) hl (liesIn_iff.mpr fun n hn => ?_))
        cases q : a.contains n with
        | true => exact List.contains_iff_mem.mp q
        | false => exact absurd ⟨n, (L.sub o ho).subset hn, List.contains_iff_mem.mpr hn, q⟩ hc
      have hlt := filter_lt (fun n => a.contains n) (fun n => o.contains n) H (fun n _ h => List.contains_iff_mem.mpr (liesIn_iff.mp hl n (List.contains_iff_mem.mp h))) hex
      have hle : (H.filter fun n => o.contains n).length ≤ H.length := List.length_filter_le _ _
      match k with
      | 0 => omega
      | k + 1 =>
        obtain ⟨g, hg, hog⟩ := great_cover L k o ho (by omega)
        exact ⟨g, hg, liesIn_trans hl hog⟩
theorem great_over {H : Lot} {xs : Fam} (L : LotsOf H xs) {a : Lot} (ha : a ∈ xs) : ∃ g ∈ greatM xs, liesIn a g = true := great_cover L H.length a ha (Nat.le_add_right _ _)
theorem great_ne {H : Lot} {xs : Fam} (L : LotsOf H xs) (h : xs ≠ []) : greatM xs ≠ [] := by
  cases xs with
  | nil => exact absurd rfl h
  | cons a r =>
    obtain ⟨g, hg, _⟩ := great_over L (List.mem_cons_self : a ∈ a :: r)
    exact List.ne_nil_of_mem hg
theorem sorted_great (xs : Fam) : (greatM xs).Pairwise fun a b => leL a b = true := (sorted_sortL xs).filter _
theorem nodup_great (xs : Fam) : (greatM xs).Nodup := (nodup_sortL xs).filter _
theorem strict_great (xs : Fam) : (greatM xs).Pairwise fun a b => ltL a b = true := strict_of (sorted_great xs) (nodup_great xs)
theorem sorted_eq {xs ys : Fam} (h1 : xs.Pairwise fun a b => leL a b = true) (h2 : ys.Pairwise fun a b => leL a b = true) (n1 : xs.Nodup) (n2 : ys.Nodup) (hm : ∀ x, x ∈ xs ↔ x ∈ ys) : xs = ys :=
  List.Perm.eq_of_pairwise (le := fun a b => leL a b = true) (fun a b _ _ p q => leL_anti p q) h1 h2 ((List.perm_ext_iff_of_nodup n1 n2).mpr hm)
/-- what lies within one another's lots has the same greatest ones -/
theorem great_eq {H : Lot} {xs ys : Fam} (L : LotsOf H xs) (M : LotsOf H ys) (h1 : ∀ x ∈ xs, ∃ y ∈ ys, liesIn x y = true) (h2 : ∀ y ∈ ys, ∃ x ∈ xs, liesIn y x = true) : greatM xs = greatM ys := by
  have half : ∀ {xs ys : Fam}, LotsOf H xs → LotsOf H ys → (∀ x ∈ xs, ∃ y ∈ ys, liesIn x y = true) → (∀ y ∈ ys, ∃ x ∈ xs, liesIn y x = true) → ∀ a, a ∈ greatM xs → a ∈ greatM ys := by
    intro xs ys L M h1 h2 a ha
    obtain ⟨hx, hm⟩ := mem_great.mp ha
    obtain ⟨y, hy, hay⟩ := h1 a hx
    obtain ⟨x, hx2, hyx⟩ := h2 y hy
    have e := hm x hx2 (liesIn_trans hay hyx)
    have e2 : a = y := sub_anti L.nd (L.sub a hx) (M.sub y hy) hay (e ▸ hyx)
    refine mem_great.mpr ⟨e2 ▸ hy, fun o ho hl => ?_⟩
    obtain ⟨x', hx', hox⟩ := h2 o ho
    have e3 := hm x' hx' (liesIn_trans hl hox)
    exact sub_anti L.nd (L.sub a hx) (M.sub o ho) hl (e3 ▸ hox)
  exact sorted_eq (sorted_great xs) (sorted_great ys) (nodup_great xs) (nodup_great ys) fun a => ⟨half L M h1 h2 a, half M L h2 h1 a⟩
/-- a family: ascending, none within another one: it is its own greatest ones -/
structure FamOk (H : Lot) (f : Fam) : Prop where
  lots : LotsOf H f
  asc : f.Pairwise fun a b => ltL a b = true
  apart : f.Pairwise fun a b => liesIn a b = false ∧ liesIn b a = false
theorem pw_sym {α : Type} {R : α → α → Prop} (hs : ∀ a b, R a b → R b a) : ∀ {l : List α}, l.Pairwise R → ∀ {a b}, a ∈ l → b ∈ l → a ≠ b → R a b
  | [], _, _, _, h, _, _ => nomatch h
  | x :: l, hp, a, b, ha, hb, hne => by
    obtain ⟨h1, h2⟩ := List.pairwise_cons.mp hp
    rcases List.mem_cons.mp ha with rfl | ha
    · rcases List.mem_cons.mp hb with rfl | hb
      · exact absurd rfl hne
      · exact h1 b hb
    · rcases List.mem_cons.mp hb with e | hb
      · exact e ▸ hs _ _ (h1 a ha)
      · exact pw_sym hs h2 ha hb hne
theorem great_self {H : Lot} {f : Fam} (F : FamOk H f) : greatM f = f := by
  have n2 : f.Nodup := F.asc.imp fun h => ltL_irr h
  refine sorted_eq (sorted_great f) (F.asc.imp fun h => leL_of h) (nodup_great f) n2 fun a => ⟨great_sub, fun ha => mem_great.mpr ⟨ha, fun o ho hl => ?_⟩⟩
  refine Classical.byContradiction fun hne => ?_
  have := pw_sym (R := fun a b => liesIn a b = false ∧ liesIn b a = false) (fun a b h => ⟨h.2, h.1⟩) F.apart ha ho hne
  rw [hl] at this
  exact absurd this.1 (by decide)
theorem great_fam {H : Lot} {xs : Fam} (L : LotsOf H xs) : FamOk H (greatM xs) := by
  refine ⟨⟨L.nd, fun a ha => L.sub a (great_sub ha)⟩, strict_great xs, ?_⟩
  have : (greatM xs).Pairwise fun a b => a ≠ b := nodup_great xs
  refine this.imp_of_mem ?_
  intro a b ha hb hne
  constructor
  · cases q : liesIn a b with
    | false => rfl
    | true => exact absurd ((mem_great.mp ha).2 b (great_sub hb) q) hne
  · cases q : liesIn b a with
    | false => rfl
    | true => exact absurd ((mem_great.mp hb).2 a (great_sub ha) q).symm hne
/-! ### common parts -/
def commonOf (l o : Lot) : Lot := l.filter fun n => o.contains n
theorem common_sub {H a b : Lot} (ha : a.Sublist H) : (commonOf a b).Sublist H := (List.filter_sublist).trans ha
theorem common_l (a b : Lot) : liesIn (commonOf a b) a = true := liesIn_iff.mpr fun n h => (List.mem_filter.mp h).1
theorem common_r (a b : Lot) : liesIn (commonOf a b) b = true := liesIn_iff.mpr fun n h => List.contains_iff_mem.mp (List.mem_filter.mp h).2
theorem common_iff {c a b : Lot} : liesIn c (commonOf a b) = true ↔ liesIn c a = true ∧ liesIn c b = true :=
  ⟨fun h => ⟨liesIn_trans h (common_l a b), liesIn_trans h (common_r a b)⟩, fun h => liesIn_iff.mpr fun n hn => List.mem_filter.mpr ⟨liesIn_iff.mp h.1 n hn, List.contains_iff_mem.mpr (liesIn_iff.mp h.2 n hn)⟩⟩
def commons (f g : Fam) : Fam := f.flatMap fun a => g.map fun b => commonOf a b
theorem mem_commons {f g : Fam} {c : Lot} : c ∈ commons f g ↔ ∃ a ∈ f, ∃ b ∈ g, c = commonOf a b := by
  unfold commons
  rw [List.mem_flatMap]
  constructor
  · rintro ⟨a, ha, h⟩
    obtain ⟨b, hb, rfl⟩ := List.mem_map.mp h
    exact ⟨a, ha, b, hb, rfl⟩
  · rintro ⟨a, ha, b, hb, rfl⟩
    exact ⟨a, ha, List.mem_map.mpr ⟨b, hb, rfl⟩⟩
theorem commons_lots {H : Lot} {f g : Fam} (F : LotsOf H f) : LotsOf H (commons f g) := ⟨F.nd, fun c hc => by
  obtain ⟨a, ha, b, hb, rfl⟩ := mem_commons.mp hc
  exact common_sub (F.sub a ha)⟩
theorem commons_ne {f g : Fam} (hf : f ≠ []) (hg : g ≠ []) : commons f g ≠ [] := by
  cases f with
  | nil => exact absurd rfl hf
  | cons a r => cases g with
    | nil => exact absurd rfl hg
    | cons b s => exact List.ne_nil_of_mem (mem_commons.mpr ⟨a, List.mem_cons_self, b, List.mem_cons_self, rfl⟩)
theorem commons_len (f g : Fam) : (commons f g).length = f.length * g.length := by
  unfold commons
  induction f with
  | nil => simp
  | cons a r ih => rw [List.flatMap_cons, List.length_append, ih, List.length_map, List.length_cons, Nat.succ_mul, Nat.add_comm]
/-- with which lots both reckon -/
def bothM (f g : Fam) : Fam := greatM (commons f g)
theorem both_comm {H : Lot} {f g : Fam} (F : LotsOf H f) (G : LotsOf H g) : bothM f g = bothM g f := by
  have half : ∀ f g : Fam, ∀ x ∈ commons f g, ∃ y ∈ commons g f, liesIn x y = true := by
    intro f g x hx
    obtain ⟨a, ha, b, hb, rfl⟩ := mem_commons.mp hx
    exact ⟨_, mem_commons.mpr ⟨b, hb, a, ha, rfl⟩, common_iff.mpr ⟨common_r a b, common_l a b⟩⟩
  exact great_eq (commons_lots F) (commons_lots G) (half f g) (half g f)
theorem both_self {H : Lot} {f : Fam} (F : FamOk H f) : bothM f f = f := by
  refine (great_eq (commons_lots F.lots) F.lots (fun x hx => ?_) (fun a ha => ?_)).trans (great_self F)
  · obtain ⟨a, ha, b, hb, rfl⟩ := mem_commons.mp hx
    exact ⟨a, ha, common_l a b⟩
  · exact ⟨_, mem_commons.mpr ⟨a, ha, a, ha, rfl⟩, common_iff.mpr ⟨liesIn_refl a, liesIn_refl a⟩⟩
def liesAmong (c : Lot) (f : Fam) : Bool := f.any fun a => liesIn c a
theorem among_iff {c : Lot} {f : Fam} : liesAmong c f = true ↔ ∃ a ∈ f, liesIn c a = true := List.any_eq_true
theorem among_both {H : Lot} {f g : Fam} (F : LotsOf H f) (c : Lot) : liesAmong c (bothM f g) = (liesAmong c f && liesAmong c g) := by
  rw [Bool.eq_iff_iff, Bool.and_eq_true, among_iff, among_iff, among_iff]
  constructor
  · rintro ⟨d, hd, h⟩
    obtain ⟨a, ha, b, hb, rfl⟩ := mem_commons.mp (great_sub hd)
    have := common_iff.mp h
    exact ⟨⟨a, ha, this.1⟩, ⟨b, hb, this.2⟩⟩
  · rintro ⟨⟨a, ha, h1⟩, ⟨b, hb, h2⟩⟩
    obtain ⟨g, hg, h3⟩ := great_over (commons_lots F) (mem_commons.mpr ⟨a, ha, b, hb, rfl⟩)
    exact ⟨g, hg, liesIn_trans (common_iff.mpr ⟨h1, h2⟩) h3⟩
/-- all lots of some houses, as the laws list them -/
def allLots (H : Lot) : Fam := H.foldl (fun found tag => found ++ found.map fun some => some ++ [tag]) [[]]
theorem allLots_snoc (H : Lot) (t : Str) : allLots (H ++ [t]) = allLots H ++ (allLots H).map fun some => some ++ [t] := by
  unfold allLots
  rw [List.foldl_append]
  rfl
theorem len_allLots (H : Lot) : (allLots H).length = 2 ^ H.length := by
  have : ∀ n (H : Lot), H.length = n → (allLots H).length = 2 ^ n := by
    intro n
    induction n with
    | zero => intro H h; rw [List.length_eq_zero_iff.mp h]; rfl
    | succ n ih =>
      intro H h
      have hne : H ≠ [] := by intro e; rw [e] at h; cases h
      rw [← List.dropLast_concat_getLast hne, allLots_snoc, List.length_append, List.length_map, ih _ (by rw [List.length_dropLast]; omega), Nat.pow_succ]
      omega
  exact this _ H rfl
theorem mem_allLots {H a : Lot} : a ∈ allLots H ↔ a.Sublist H := by
  have : ∀ n (H : Lot), H.length = n → ∀ a : Lot, a ∈ allLots H ↔ a.Sublist H := by
    intro n
    induction n with
    | zero =>
      intro H h a
      rw [List.length_eq_zero_iff.mp h]
      show a ∈ [[]] ↔ _
      rw [List.mem_singleton, List.sublist_nil]
    | succ n ih =>
      intro H h a
      have hne : H ≠ [] := by intro e; rw [e] at h; cases h
      rw [← List.dropLast_concat_getLast hne, allLots_snoc, List.mem_append, List.mem_map, ih _ (by rw [List.length_dropLast]; omega)]
      constructor
      · rintro (h | ⟨b, hb, rfl⟩)
        · exact h.trans (List.sublist_append_left _ _)
        · exact ((ih _ (by rw [List.length_dropLast]; omega) b).mp hb).append (List.Sublist.refl _)
      · intro h
        rw [List.sublist_append_iff] at h
        obtain ⟨l1, l2, rfl, h1, h2⟩ := h
        cases h2 with
        | cons _ h2 =>
          rw [List.sublist_nil.mp h2, List.append_nil]
          exact .inl h1
        | cons_cons _ h2 =>
          rw [List.sublist_nil.mp h2]
          exact .inr ⟨l1, (ih _ (by rw [List.length_dropLast]; omega) l1).mpr h1, rfl⟩
  exact this _ H rfl a
def byAll (H : Lot) (f g : Fam) : Fam := (allLots H).filter fun c => liesAmong c f && liesAmong c g
theorem byAll_great {H : Lot} {f g : Fam} (F : LotsOf H f) (G : LotsOf H g) : greatM (byAll H f g) = bothM f g := by
  have L : LotsOf H (byAll H f g) := ⟨F.nd, fun a ha => mem_allLots.mp (List.mem_filter.mp ha).1⟩
  refine great_eq L (commons_lots F) (fun x hx => ?_) (fun y hy => ?_)
  · have h := (List.mem_filter.mp hx).2
    rw [Bool.and_eq_true, among_iff, among_iff] at h
    obtain ⟨⟨a, ha, h1⟩, ⟨b, hb, h2⟩⟩ := h
    exact ⟨_, mem_commons.mpr ⟨a, ha, b, hb, rfl⟩, common_iff.mpr ⟨h1, h2⟩⟩
  · refine ⟨y, List.mem_filter.mpr ⟨mem_allLots.mpr ((commons_lots F).sub y hy), ?_⟩, liesIn_refl y⟩
    obtain ⟨a, ha, b, hb, rfl⟩ := mem_commons.mp hy
    rw [Bool.and_eq_true, among_iff, among_iff]
    exact ⟨⟨a, ha, common_l a b⟩, ⟨b, hb, common_r a b⟩⟩
end Qv

set_option maxRecDepth 100000
/-! QR: sorted sets of names. -/
namespace Qv
open PySem
def ltN (x y : Str) : Bool := decide (x.cps.toList < y.cps.toList)
def leN (x y : Str) : Bool := leD (.str x) (.str y)
theorem leN_total : ∀ a b : Str, (leN a b || leN b a) = true := fun a b => Bool.or_eq_true_iff.mpr (leD_total.total _ _)
theorem leN_trans : ∀ a b c : Str, leN a b = true → leN b c = true → leN a c = true := fun a b c h1 h2 => leD_total.trans _ _ _ h1 h2
theorem hash_str (x : Str) : hashD (.str x) = true := by simp [hashD]
theorem leN_anti {a b : Str} (h1 : leN a b = true) (h2 : leN b a = true) : a = b := by
  have := leD_anti (hash_str a) (hash_str b) (by simp [W.alike]) h1 h2
  injection this
theorem ltN_of {a b : Str} (h : leN a b = true) (hne : a ≠ b) : ltN a b = true := by
  cases q : W.dataLt (.str a) (.str b) with
  | true => rw [W.dataLt_str] at q; exact q
  | false =>
    refine absurd (leN_anti h ?_) hne
    show (!W.dataLt (.str a) (.str b)) = true
    rw [q]
    rfl
def dedupN : Lot → Lot
  | [] => []
  | x :: r => if x ∈ dedupN r then dedupN r else x :: dedupN r
theorem dedup_N (xs : Lot) : dedup (xs.map .str) = (dedupN xs).map .str := by
  induction xs with
  | nil => rfl
  | cons x r ih =>
    rw [List.map_cons, dedup, dedupN, ih]
    have : ((dedupN r).map PyData.str).any (fun y => PyData.eqv (.str x) y) = decide (x ∈ dedupN r) := by
      rw [List.any_map]
      have : ((fun y => PyData.eqv (.str x) y) ∘ PyData.str) = fun y => decide (x = y) := funext fun y => by
        show PyData.eqv (.str x) (.str y) = _
        rw [PyData.eqv]
        exact (Bool.eq_iff_iff.mpr (by simp))
      rw [this]
      by_cases h : x ∈ dedupN r
      · rw [decide_eq_true h, List.any_eq_true]
        exact ⟨x, h, decide_eq_true rfl⟩
      · rw [decide_eq_false h, List.any_eq_false]
        intro y hy
        simp only [decide_eq_true_eq]
        exact fun e => h (e ▸ hy)
    rw [this]
    by_cases h : x ∈ dedupN r <;> simp [h]
theorem mem_dedupN {xs : Lot} {x : Str} : x ∈ dedupN xs ↔ x ∈ xs := by
  induction xs with
  | nil => exact Iff.rfl
  | cons a r ih =>
    unfold dedupN
    split
    · rename_i h
      rw [ih, List.mem_cons]
      exact ⟨.inr, fun z => z.elim (fun z => z ▸ ih.mp (z ▸ h)) id⟩
    · rw [List.mem_cons, List.mem_cons, ih]
theorem nodup_dedupN (xs : Lot) : (dedupN xs).Nodup := by
  induction xs with
  | nil => exact List.nodup_nil
  | cons a r ih =>
    unfold dedupN
    split
    · exact ih
    · rename_i h
      exact List.nodup_cons.mpr ⟨h, ih⟩
theorem len_dedupN (xs : Lot) : (dedupN xs).length ≤ xs.length := by
  induction xs with
  | nil => exact Nat.le_refl _
  | cons a r ih =>
    unfold dedupN
    split
    · simp; omega
    · simp; omega
def sortN (xs : Lot) : Lot := (dedupN xs).mergeSort leN
theorem mem_sortN {xs : Lot} {x : Str} : x ∈ sortN xs ↔ x ∈ xs := (List.mergeSort_perm _ _).mem_iff.trans mem_dedupN
theorem nodup_sortN (xs : Lot) : (sortN xs).Nodup := (List.mergeSort_perm _ _).nodup_iff.mpr (nodup_dedupN xs)
theorem len_sortN (xs : Lot) : (sortN xs).length ≤ xs.length := Nat.le_trans (Nat.le_of_eq (List.mergeSort_perm (dedupN xs) leN).length_eq) (len_dedupN xs)
theorem asc_sortN (xs : Lot) : (sortN xs).Pairwise fun a b => ltN a b = true := by
  have h : (sortN xs).Pairwise fun a b => leN a b = true := List.pairwise_mergeSort leN_trans leN_total _
  exact (List.pairwise_and_iff.mpr ⟨h, nodup_sortN xs⟩).imp fun h => ltN_of h.1 h.2
theorem sset_N {xs : Lot} (h : okS xs) (hl : xs.length ≤ 4000) : fnD .sset (.list (xs.map .str)) = .ok (.list ((sortN xs).map .str)) := by
  have ok : setOk (xs.map .str) = true := by
    unfold setOk
    have a1 : alikeL (xs.map PyData.str) = true := by
      unfold alikeL
      rw [List.all_map, List.all_eq_true]
      intro x _
      show ((xs.map PyData.str).all fun y => W.alike (.str x) y) = true
      rw [List.all_map, List.all_eq_true]
      intro y _
      show W.alike (.str x) (.str y) = true
      simp [W.alike]
    have a2 : (xs.map PyData.str).all shp = true := by
      rw [List.all_map, List.all_eq_true]
      exact fun x hx => (nice_name (h x hx)).shp (by decide)
    have a3 : (xs.map PyData.str).all hashD = true := by
      rw [List.all_map, List.all_eq_true]
      exact fun x hx => hash_str x
    have a4 : (xs.map PyData.str).all (fun x => decide (x.depth ≤ 8)) = true := by
      rw [List.all_map, List.all_eq_true]
      intro x hx
      show decide ((PyData.str x).depth ≤ 8) = true
      simp [PyData.depth]
    have a5 : (xs.map PyData.str).all isStrD = true := by
      rw [List.all_map, List.all_eq_true]
      exact fun x hx => rfl
    rw [a1, a2, a3, a4, a5]
    simp [hl]
  show grd (setOk (xs.map .str)) (PyData.list ((dedup (xs.map .str)).mergeSort leD)) = _
  rw [ok, dedup_N]
  have : ((dedupN xs).map PyData.str).mergeSort leD = ((dedupN xs).mergeSort leN).map .str := (List.map_mergeSort (r := leN) (s := leD) (f := PyData.str) (fun a _ b _ => rfl)).symm
  rw [this]
  rfl
end Qv

set_option maxRecDepth 100000
/-! QK: least lots, lots that have one of each of some others, kernels. Plain lists, no program; sorted(..) of names and lots. -/
namespace Qv
open PySem
def leastM (xs : Fam) : Fam := (sortL xs).filter fun one => !((sortL xs).any fun o => !decide (o = one) && liesIn o one)
theorem mem_least {xs : Fam} {a : Lot} : a ∈ leastM xs ↔ a ∈ xs ∧ ∀ o ∈ xs, liesIn o a = true → o = a := by
  unfold leastM
  rw [List.mem_filter, mem_sortL]
  refine and_congr Iff.rfl ?_
  rw [Bool.not_eq_true', List.any_eq_false]
  constructor
  · intro h o ho hl
    have := h o (mem_sortL.mpr ho)
    simp only [hl, Bool.and_true, Bool.not_eq_true', decide_eq_false_iff_not, Decidable.not_not] at this
    exact this
  · intro h o ho
    have := h o (mem_sortL.mp ho)
    intro hc
    simp only [Bool.and_eq_true, Bool.not_eq_true', decide_eq_false_iff_not] at hc
    exact hc.1 (this hc.2)
theorem least_sub {xs : Fam} {a : Lot} (h : a ∈ leastM xs) : a ∈ xs := (mem_least.mp h).1
theorem least_cover {H : Lot} {xs : Fam} (L : LotsOf H xs) : ∀ (k : Nat) (a : Lot), a ∈ xs → (H.filter fun n => a.contains n).length ≤ k → ∃ g ∈ leastM xs, liesIn g a = true
  | k, a, ha, hk => by
    by_cases hm : ∀ o ∈ xs, liesIn o a = true → o = a
    · exact ⟨a, mem_least.mpr ⟨ha, hm⟩, liesIn_refl a⟩
    · have ⟨o, ho, hl, hne⟩ : ∃ o ∈ xs, liesIn o a = true ∧ o ≠ a := by
        refine Classical.byContradiction fun hc => hm fun o ho hl => Classical.byContradiction fun hne => hc ⟨o, ho, hl, hne⟩
      have hex : ∃ n ∈ H, a.contains n = true ∧ o.contains n = false := by
        refine Classical.byContradiction fun hc => hne (sub_anti L.nd (L.sub o ho) (L.sub a ha) hl (liesIn_iff.mpr fun n hn => ?_))
        cases q : o.contains n with
        | true => exact List.contains_iff_mem.mp q
        | false => exact absurd ⟨n, (L.sub a ha).subset hn, List.contains_iff_mem.mpr hn, q⟩ hc
      have hlt := filter_lt (fun n => o.contains n) (fun n => a.contains n) H (fun n _ h => List.contains_iff_mem.mpr (liesIn_iff.mp hl n (List.contains_iff_mem.mp h))) hex
      match k with
      | 0 => omega
      | k + 1 =>
        obtain ⟨g, hg, hog⟩ := least_cover L k o ho (by omega)
        exact ⟨g, hg, liesIn_trans hog hl⟩
theorem least_under {H : Lot} {xs : Fam} (L : LotsOf H xs) {a : Lot} (ha : a ∈ xs) : ∃ g ∈ leastM xs, liesIn g a = true := least_cover L _ a ha (Nat.le_refl _)
theorem least_ne {H : Lot} {xs : Fam} (L : LotsOf H xs) (h : xs ≠ []) : leastM xs ≠ [] := by
  cases xs with
  | nil => exact absurd rfl h
  | cons a r =>
    obtain ⟨g, hg, _⟩ := least_under L (List.mem_cons_self : a ∈ a :: r)
    exact List.ne_nil_of_mem hg
theorem sorted_least (xs : Fam) : (leastM xs).Pairwise fun a b => leL a b = true := (sorted_sortL xs).filter _
theorem nodup_least (xs : Fam) : (leastM xs).Nodup := (nodup_sortL xs).filter _
theorem least_fam {H : Lot} {xs : Fam} (L : LotsOf H xs) : FamOk H (leastM xs) := by
  refine ⟨⟨L.nd, fun a ha => L.sub a (least_sub ha)⟩, strict_of (sorted_least xs) (nodup_least xs), ?_⟩
  have : (leastM xs).Pairwise fun a b => a ≠ b := nodup_least xs
  refine this.imp_of_mem ?_
  intro a b ha hb hne
  constructor
  · cases q : liesIn a b with
    | false => rfl
    | true => exact absurd ((mem_least.mp hb).2 a (least_sub ha) q) hne
  · cases q : liesIn b a with
    | false => rfl
    | true => exact absurd ((mem_least.mp ha).2 b (least_sub hb) q).symm hne
/-- two families with lots in one another's are the same -/
theorem fam_eq {H : Lot} {f g : Fam} (F : FamOk H f) (G : FamOk H g) (h1 : ∀ a ∈ f, ∃ b ∈ g, liesIn b a = true) (h2 : ∀ b ∈ g, ∃ a ∈ f, liesIn a b = true) : f = g := by
  have half : ∀ {f g : Fam}, FamOk H f → FamOk H g → (∀ a ∈ f, ∃ b ∈ g, liesIn b a = true) → (∀ b ∈ g, ∃ a ∈ f, liesIn a b = true) → ∀ a, a ∈ f → a ∈ g := by
    intro f g F G h1 h2 a ha
    obtain ⟨b, hb, hba⟩ := h1 a ha
    obtain ⟨c, hc, hcb⟩ := h2 b hb
    have e : c = a := by
      refine Classical.byContradiction fun hne => ?_
      have := pw_sym (R := fun a b => liesIn a b = false ∧ liesIn b a = false) (fun a b h => ⟨h.2, h.1⟩) F.apart hc ha hne
      rw [liesIn_trans hcb hba] at this
      exact absurd this.1 (by decide)
    have e2 : a = b := sub_anti F.lots.nd (F.lots.sub a ha) (G.lots.sub b hb) (e ▸ hcb) hba
    exact e2 ▸ hb
  exact sorted_eq (F.asc.imp fun h => leL_of h) (G.asc.imp fun h => leL_of h) (F.asc.imp fun h => ltL_irr h) (G.asc.imp fun h => ltL_irr h) fun a => ⟨half F G h1 h2 a, half G F h2 h1 a⟩
/-! ### lots that have one of each of some -/
def hits (q s : Lot) : Bool := q.any fun n => s.contains n
theorem hits_iff {q s : Lot} : hits q s = true ↔ ∃ n ∈ q, n ∈ s := by
  unfold hits
  rw [List.any_eq_true]
  exact ⟨fun ⟨n, h1, h2⟩ => ⟨n, h1, List.contains_iff_mem.mp h2⟩, fun ⟨n, h1, h2⟩ => ⟨n, h1, List.contains_iff_mem.mpr h2⟩⟩
theorem hits_comm {q s : Lot} (h : hits q s = true) : hits s q = true := by
  obtain ⟨n, h1, h2⟩ := hits_iff.mp h
  exact hits_iff.mpr ⟨n, h2, h1⟩
theorem hits_mono {q s t : Lot} (h : hits q s = true) (hl : liesIn s t = true) : hits q t = true := by
  obtain ⟨n, h1, h2⟩ := hits_iff.mp h
  exact hits_iff.mpr ⟨n, h1, liesIn_iff.mp hl n h2⟩
def hitsAll (Q : Fam) (s : Lot) : Bool := Q.all fun q => hits q s
theorem hitsAll_iff {Q : Fam} {s : Lot} : hitsAll Q s = true ↔ ∀ q ∈ Q, hits q s = true := List.all_eq_true
/-- K has just least lots that have one of each of Q, and one within each such lot -/
structure Ker (H : Lot) (Q K : Fam) : Prop where
  lots : LotsOf H K
  hit : ∀ k ∈ K, hitsAll Q k = true
  all : ∀ s : Lot, s.Sublist H → hitsAll Q s = true → ∃ k ∈ K, liesIn k s = true
theorem ker_iff {H : Lot} {Q K : Fam} (D : Ker H Q K) {s : Lot} (hs : s.Sublist H) : hitsAll Q s = K.any fun k => liesIn k s := by
  rw [Bool.eq_iff_iff, List.any_eq_true]
  constructor
  · exact D.all s hs
  · rintro ⟨k, hk, h⟩
    exact hitsAll_iff.mpr fun q hq => hits_mono (hitsAll_iff.mp (D.hit k hk) q hq) h
theorem ker_eq {H : Lot} {Q K L : Fam} (A : Ker H Q K) (B : Ker H Q L) (F : FamOk H K) (G : FamOk H L) : K = L :=
  fam_eq F G (fun a ha => B.all a (A.lots.sub a ha) (A.hit a ha)) (fun b hb => A.all b (B.lots.sub b hb) (B.hit b hb))
/-- the kernels of the kernels are the quorums -/
theorem ker_dual {H : Lot} {Q K : Fam} (D : Ker H Q K) (F : FamOk H Q) : Ker H K Q := by
  refine ⟨F.lots, fun q hq => hitsAll_iff.mpr fun k hk => hits_comm (hitsAll_iff.mp (D.hit k hk) q hq), fun s hs hh => ?_⟩
  refine Classical.byContradiction fun hc => ?_
  have hC : hitsAll Q (H.filter fun n => !s.contains n) = true := by
    refine hitsAll_iff.mpr fun q hq => ?_
    refine Classical.byContradiction fun hn => hc ⟨q, hq, liesIn_iff.mpr fun n hn2 => ?_⟩
    refine Classical.byContradiction fun hns => hn (hits_iff.mpr ⟨n, hn2, List.mem_filter.mpr ⟨(F.lots.sub q hq).subset hn2, ?_⟩⟩)
    have : s.contains n = false := by
      cases e : s.contains n with
      | false => rfl
      | true => exact absurd (List.contains_iff_mem.mp e) hns
    rw [this]
    rfl
  obtain ⟨k, hk, hkl⟩ := D.all _ List.filter_sublist hC
  obtain ⟨n, h1, h2⟩ := hits_iff.mp (hitsAll_iff.mp hh k hk)
  have := (List.mem_filter.mp (liesIn_iff.mp hkl n h1)).2
  rw [List.contains_iff_mem.mpr h2] at this
  cases this
/-- by going through all lots -/
theorem ker_all {H : Lot} {Q : Fam} (hn : H.Nodup) {all : Fam} (hall : ∀ s, s ∈ all ↔ s.Sublist H) : Ker H Q (leastM (all.filter fun s => hitsAll Q s)) ∧ FamOk H (leastM (all.filter fun s => hitsAll Q s)) := by
  have L : LotsOf H (all.filter fun s => hitsAll Q s) := ⟨hn, fun a ha => (hall a).mp (List.mem_filter.mp ha).1⟩
  have F := least_fam L
  exact ⟨⟨F.lots, fun k hk => (List.mem_filter.mp (least_sub hk)).2, fun s hs hh => least_under L (List.mem_filter.mpr ⟨(hall s).mpr hs, hh⟩)⟩, F⟩
/-! ### sorted lists of names -/
def sortS (l : Lot) : Lot := l.mergeSort leN
theorem mem_sortS {l : Lot} {n : Str} : n ∈ sortS l ↔ n ∈ l := (List.mergeSort_perm _ _).mem_iff
theorem len_sortS (l : Lot) : (sortS l).length = l.length := (List.mergeSort_perm _ _).length_eq
theorem names_eq {xs ys : Lot} (h1 : xs.Pairwise fun a b => leN a b = true) (h2 : ys.Pairwise fun a b => leN a b = true) (n1 : xs.Nodup) (n2 : ys.Nodup) (hm : ∀ x, x ∈ xs ↔ x ∈ ys) : xs = ys :=
  List.Perm.eq_of_pairwise (le := fun a b => leN a b = true) (fun a b _ _ p q => leN_anti p q) h1 h2 ((List.perm_ext_iff_of_nodup n1 n2).mpr hm)
theorem leN_of {a b : Str} (h : ltN a b = true) : leN a b = true := by
  rcases Bool.or_eq_true_iff.mp (leN_total a b) with q | q
  · exact q
  · have q : (!W.dataLt (.str a) (.str b)) = true := q
    rw [W.dataLt_str] at q
    have h : decide (a.cps.toList < b.cps.toList) = true := h
    rw [h] at q
    cases q
theorem ltN_irr {a b : Str} (h : ltN a b = true) : a ≠ b := fun e => by
  subst e
  have h1 : leN a a = true := by simpa using leN_total a a
  have h1 : (!W.dataLt (.str a) (.str a)) = true := h1
  rw [W.dataLt_str] at h1
  have h : decide (a.cps.toList < a.cps.toList) = true := h
  rw [h] at h1
  cases h1
/-- unlike names of H, sorted: a lot -/
theorem sort_sub {H l : Lot} (ha : H.Pairwise fun a b => ltN a b = true) (hn : l.Nodup) (hs : ∀ n ∈ l, n ∈ H) : sortS l = H.filter (fun n => l.contains n) ∧ (sortS l).Sublist H := by
  have e : sortS l = H.filter (fun n => l.contains n) := by
    refine names_eq (List.pairwise_mergeSort leN_trans leN_total _) ((ha.imp fun h => leN_of h).filter _) ((List.mergeSort_perm _ _).nodup_iff.mpr hn) ((ha.imp fun h => ltN_irr h).filter _) fun n => ?_
    rw [mem_sortS, List.mem_filter]
    exact ⟨fun h => ⟨hs n h, List.contains_iff_mem.mpr h⟩, fun h => List.contains_iff_mem.mp h.2⟩
  exact ⟨e, e ▸ List.filter_sublist⟩
theorem sort_asc {l : Lot} (hn : l.Nodup) : (sortS l).Pairwise fun a b => ltN a b = true := by
  have h : (sortS l).Pairwise fun a b => leN a b = true := List.pairwise_mergeSort leN_trans leN_total _
  exact (List.pairwise_and_iff.mpr ⟨h, (List.mergeSort_perm _ _).nodup_iff.mpr hn⟩).imp fun h => ltN_of h.1 h.2
/-! ### the program's way to the kernels -/
def late (found : Fam) (q : Lot) : Fam := found.flatMap fun k => if hits k q then [k] else q.map fun n => sortS (k ++ [n])
def stepK (found : Fam) (q : Lot) : Fam := leastM (late found q)
def kern (Q : Fam) : Fam := Q.foldl stepK [[]]
theorem mem_late {found : Fam} {q s : Lot} : s ∈ late found q ↔ ∃ k ∈ found, (hits k q = true ∧ s = k) ∨ (hits k q = false ∧ ∃ n ∈ q, s = sortS (k ++ [n])) := by
  unfold late
  rw [List.mem_flatMap]
  refine exists_congr fun k => and_congr Iff.rfl ?_
  cases e : hits k q with
  | true => simp
  | false => simp [eq_comm]
theorem add_sub {H k q : Lot} {n : Str} (ha : H.Pairwise fun a b => ltN a b = true) (hk : k.Sublist H) (hq : q.Sublist H) (hh : hits k q = false) (hn : n ∈ q) : (sortS (k ++ [n])).Sublist H := by
  have nd : H.Nodup := ha.imp fun h => ltN_irr h
  refine (sort_sub ha ?_ fun m hm => ?_).2
  · refine List.nodup_append.mpr ⟨nd.sublist hk, by simp, ?_⟩
    intro a h1 b h2 e
    rw [List.mem_singleton.mp h2] at e
    have : hits k q = true := hits_iff.mpr ⟨a, h1, e ▸ hn⟩
    rw [hh] at this
    cases this
  · rcases List.mem_append.mp hm with h | h
    · exact hk.subset h
    · rw [List.mem_singleton.mp h]; exact hq.subset hn
theorem late_lots {H : Lot} {found : Fam} {q : Lot} (ha : H.Pairwise fun a b => ltN a b = true) (L : LotsOf H found) (hq : q.Sublist H) : LotsOf H (late found q) := by
  refine ⟨L.nd, fun s hs => ?_⟩
  obtain ⟨k, hk, ⟨_, rfl⟩ | ⟨hh, n, hn, rfl⟩⟩ := mem_late.mp hs
  · exact L.sub s hk
  · exact add_sub ha (L.sub k hk) hq hh hn
theorem step_ker {H : Lot} {P found : Fam} {q : Lot} (ha : H.Pairwise fun a b => ltN a b = true) (D : Ker H P found) (hq : q.Sublist H) : Ker H (P ++ [q]) (stepK found q) := by
  have L := late_lots ha D.lots hq
  have hl : ∀ s ∈ late found q, hitsAll (P ++ [q]) s = true := by
    intro s hs
    obtain ⟨k, hk, ⟨h1, rfl⟩ | ⟨hh, n, hn, rfl⟩⟩ := mem_late.mp hs
    · refine hitsAll_iff.mpr fun p hp => ?_
      rcases List.mem_append.mp hp with hp | hp
      · exact hitsAll_iff.mp (D.hit s hk) p hp
      · rw [List.mem_singleton.mp hp]; exact hits_comm h1
    · refine hitsAll_iff.mpr fun p hp => ?_
      rcases List.mem_append.mp hp with hp | hp
      · exact hits_mono (hitsAll_iff.mp (D.hit k hk) p hp) (liesIn_iff.mpr fun m hm => mem_sortS.mpr (List.mem_append_left _ hm))
      · rw [List.mem_singleton.mp hp]
        exact hits_iff.mpr ⟨n, hn, mem_sortS.mpr (List.mem_append_right _ List.mem_cons_self)⟩
  refine ⟨(least_fam L).lots, fun k hk => hl k (least_sub hk), fun s hs hh => ?_⟩
  have h1 : hitsAll P s = true := hitsAll_iff.mpr fun p hp => hitsAll_iff.mp hh p (List.mem_append_left _ hp)
  have h2 : hits q s = true := hitsAll_iff.mp hh q (List.mem_append_right _ List.mem_cons_self)
  obtain ⟨k, hk, hks⟩ := D.all s hs h1
  have : ∃ t ∈ late found q, liesIn t s = true := by
    cases e : hits k q with
    | true => exact ⟨k, mem_late.mpr ⟨k, hk, .inl ⟨e, rfl⟩⟩, hks⟩
    | false =>
      obtain ⟨n, hn, hns⟩ := hits_iff.mp h2
      refine ⟨_, mem_late.mpr ⟨k, hk, .inr ⟨e, n, hn, rfl⟩⟩, liesIn_iff.mpr fun m hm => ?_⟩
      rcases List.mem_append.mp (mem_sortS.mp hm) with h | h
      · exact liesIn_iff.mp hks m h
      · rw [List.mem_singleton.mp h]; exact hns
  obtain ⟨t, ht, hts⟩ := this
  obtain ⟨g, hg, hgt⟩ := least_under L ht
  exact ⟨g, hg, liesIn_trans hgt hts⟩
theorem ker_nil {H : Lot} (hn : H.Nodup) : Ker H [] [[]] := ⟨⟨hn, fun a ha => by rw [List.mem_singleton.mp ha]; exact List.nil_sublist _⟩, fun _ _ => rfl, fun s _ _ => ⟨[], List.mem_cons_self, rfl⟩⟩
theorem fam_nil {H : Lot} (hn : H.Nodup) : FamOk H [[]] := ⟨⟨hn, fun a ha => by rw [List.mem_singleton.mp ha]; exact List.nil_sublist _⟩, List.pairwise_singleton _ _, List.pairwise_singleton _ _⟩
theorem kern_snoc (P : Fam) (q : Lot) : kern (P ++ [q]) = stepK (kern P) q := by
  unfold kern
  rw [List.foldl_append]
  rfl
theorem kern_ok {H : Lot} (ha : H.Pairwise fun a b => ltN a b = true) (Q : Fam) (hQ : ∀ q ∈ Q, q.Sublist H) : Ker H Q (kern Q) ∧ FamOk H (kern Q) := by
  have nd : H.Nodup := ha.imp fun h => ltN_irr h
  have : ∀ n (Q : Fam), Q.length = n → (∀ q ∈ Q, q.Sublist H) → Ker H Q (kern Q) ∧ FamOk H (kern Q) := by
    intro n
    induction n with
    | zero => intro Q h _; rw [List.length_eq_zero_iff.mp h]; exact ⟨ker_nil nd, fam_nil nd⟩
    | succ n ih =>
      intro Q h hQ
      have hne : Q ≠ [] := by intro e; rw [e] at h; cases h
      have e := List.dropLast_concat_getLast hne
      rw [← e] at hQ ⊢
      obtain ⟨D, F⟩ := ih Q.dropLast (by rw [List.length_dropLast]; omega) fun q hq => hQ q (List.mem_append_left _ hq)
      rw [kern_snoc]
      have hq := hQ (Q.getLast hne) (List.mem_append_right _ List.mem_cons_self)
      exact ⟨step_ker ha D hq, least_fam (late_lots ha D.lots hq)⟩
  exact this _ Q rfl hQ
theorem kern_ne {H : Lot} (ha : H.Pairwise fun a b => ltN a b = true) {Q : Fam} (hQ : ∀ q ∈ Q, q.Sublist H) (hq : ∀ q ∈ Q, q ≠ []) : kern Q ≠ [] := by
  obtain ⟨D, _⟩ := kern_ok ha Q hQ
  obtain ⟨k, hk, _⟩ := D.all H (List.Sublist.refl _) (hitsAll_iff.mpr fun q hq' => by
    cases e : q with
    | nil => exact absurd e (hq q hq')
    | cons n r => exact hits_iff.mpr ⟨n, List.mem_cons_self, (hQ q hq').subset (by rw [e]; exact List.mem_cons_self)⟩)
  exact List.ne_nil_of_mem hk
theorem kern_full {H : Lot} (ha : H.Pairwise fun a b => ltN a b = true) {Q : Fam} (hQ : ∀ q ∈ Q, q.Sublist H) (hne : Q ≠ []) : ∀ k ∈ kern Q, k ≠ [] := by
  obtain ⟨D, _⟩ := kern_ok ha Q hQ
  intro k hk e
  subst e
  cases Q with
  | nil => exact hne rfl
  | cons q r =>
    obtain ⟨n, _, h⟩ := hits_iff.mp (hitsAll_iff.mp (D.hit [] hk) q List.mem_cons_self)
    cases h
theorem kern_kern {H : Lot} (ha : H.Pairwise fun a b => ltN a b = true) {Q : Fam} (F : FamOk H Q) : kern (kern Q) = Q := by
  obtain ⟨D, G⟩ := kern_ok ha Q F.lots.sub
  obtain ⟨D2, G2⟩ := kern_ok ha (kern Q) G.lots.sub
  exact ker_eq D2 (ker_dual D F) G2 F
/-! ### how many lots there are -/
theorem nodup_le {α : Type} [DecidableEq α] : ∀ {l m : List α}, l.Nodup → (∀ x ∈ l, x ∈ m) → l.length ≤ m.length
  | [], m, _, _ => Nat.zero_le _
  | x :: l, m, hn, hs => by
    obtain ⟨h1, h2⟩ := List.nodup_cons.mp hn
    have hx := hs x List.mem_cons_self
    have := nodup_le (l := l) (m := m.erase x) h2 fun y hy => (List.mem_erase_of_ne (fun e : y = x => h1 (by rw [← e]; exact hy))).mpr (hs y (List.mem_cons_of_mem _ hy))
    rw [List.length_erase_of_mem hx] at this
    have := List.length_pos_of_mem hx
    simp only [List.length_cons]
    omega
theorem few {H : Lot} {xs : Fam} (L : LotsOf H xs) (h5 : H.length ≤ 5) : (dedupL xs).length < 64 := by
  have h1 := nodup_le (nodup_dedupL xs) (m := allLots H) fun a ha => mem_allLots.mpr (L.sub a (mem_dedupL.mp ha))
  rw [len_allLots] at h1
  have : 2 ^ H.length ≤ 2 ^ 5 := Nat.pow_le_pow_right (by decide) h5
  omega
theorem few_fam {H : Lot} {f : Fam} (F : FamOk H f) (h5 : H.length ≤ 5) : f.length ≤ 32 := by
  have h1 := nodup_le (F.asc.imp fun h => ltL_irr h : f.Nodup) (m := allLots H) fun a ha => mem_allLots.mpr (F.lots.sub a ha)
  rw [len_allLots] at h1
  have : 2 ^ H.length ≤ 2 ^ 5 := Nat.pow_le_pow_right (by decide) h5
  omega
/-! ### sorted(..) -/
theorem sorted_N {xs : Lot} (h : okS xs) (hl : xs.length ≤ lim) : fnD .sorted (.list (xs.map .str)) = .ok (.list ((sortS xs).map .str)) := by
  have ok : sortOk (xs.map .str) = true := by
    unfold sortOk
    have a1 : alikeL (xs.map PyData.str) = true := by
      unfold alikeL
      rw [List.all_map, List.all_eq_true]
      intro x _
      show ((xs.map PyData.str).all fun y => W.alike (.str x) y) = true
      rw [List.all_map, List.all_eq_true]
      intro y _
      show W.alike (.str x) (.str y) = true
      simp [W.alike]
    have a2 : (xs.map PyData.str).all shp = true := by
      rw [List.all_map, List.all_eq_true]
      exact fun x hx => (nice_name (h x hx)).shp (by decide)
    have a4 : (xs.map PyData.str).all (fun x => decide (x.depth ≤ 8)) = true := by
      rw [List.all_map, List.all_eq_true]
      intro x hx
      show decide ((PyData.str x).depth ≤ 8) = true
      simp [PyData.depth]
    have a5 : (xs.map PyData.str).all isStrD = true := by
      rw [List.all_map, List.all_eq_true]
      exact fun x hx => rfl
    rw [a1, a2, a4, a5]
    simp [hl]
  show grd (sortOk (xs.map .str)) (PyData.list ((xs.map PyData.str).mergeSort leD)) = _
  rw [ok]
  have : (xs.map PyData.str).mergeSort leD = (xs.mergeSort leN).map .str := (List.map_mergeSort (r := leN) (s := leD) (f := PyData.str) (fun a _ b _ => rfl)).symm
  rw [this]
  rfl
theorem sorted_S {xs : Fam} (h : okF xs) (hl : xs.length ≤ lim) : fnD .sorted (.list (xs.map eS)) = .ok (.list ((xs.mergeSort leL).map eS)) := by
  have ok : sortOk (xs.map eS) = true := by
    unfold sortOk
    have a1 : alikeL (xs.map eS) = true := by
      unfold alikeL
      rw [List.all_map, List.all_eq_true]
      intro x _
      show ((xs.map eS).all fun y => W.alike (eS x) y) = true
      rw [List.all_map, List.all_eq_true]
      exact fun y _ => alike_S x y
    have a2 : (xs.map eS).all shp = true := by
      rw [List.all_map, List.all_eq_true]
      exact fun x hx => (nice_S (h x hx)).shp (by decide)
    have a4 : (xs.map eS).all (fun x => decide (x.depth ≤ 8)) = true := by
      rw [List.all_map, List.all_eq_true]
      exact fun x hx => decide_eq_true (Nat.le_trans (nice_S (h x hx)).dep (by decide))
    have a5 : (xs.map eS).all isTupD = true := by
      rw [List.all_map, List.all_eq_true]
      exact fun x hx => rfl
    rw [a1, a2, a4, a5]
    simp [hl]
  show grd (sortOk (xs.map eS)) (PyData.list ((xs.map eS).mergeSort leD)) = _
  rw [ok, sort_map]
  rfl
end Qv

set_option maxRecDepth 100000
/-! QM3: operations on data, more rules. -/
namespace Qv
open PySem
theorem okS_sub {H a : Lot} (h : okS H) (hs : a.Sublist H) : okS a := fun x hx => h x (hs.subset hx)
theorem okF_lots {H : Lot} {f : Fam} (h : okS H) (L : LotsOf H f) : okF f := fun a ha => okS_sub h (L.sub a ha)
theorem shp_list {k w : Nat} {xs : List PyData} (h : ∀ x ∈ xs, Nice k w x) (hk : k ≤ 59) : shp (.list xs) = true := (nice_list h).shp (by omega)
theorem list_nil {xs : List PyData} (h : shp (.list xs) = true) : cmpD .eq (.list xs) (.list []) = .ok xs.isEmpty := by
  have : cmpD .eq (.list xs) (.list []) = grd (shp (.list xs) && shp (.list [])) (PyData.eqv (.list xs) (.list [])) := rfl
  rw [this, h]
  cases xs <;> simp [PyData.eqv, PyData.eqvAll, grd, shp, SeqAt.shaped, PyData.canLay0, PyData.canLayAll0, PyData.depth, PyData.depthAll]
theorem list_nnil {xs : List PyData} (h : shp (.list xs) = true) : cmpD .ne (.list xs) (.list []) = .ok (!xs.isEmpty) := by
  have : cmpD .ne (.list xs) (.list []) = grd (shp (.list xs) && shp (.list [])) (!PyData.eqv (.list xs) (.list [])) := rfl
  rw [this, h]
  cases xs <;> simp [PyData.eqv, PyData.eqvAll, grd, shp, SeqAt.shaped, PyData.canLay0, PyData.canLayAll0, PyData.depth, PyData.depthAll]
theorem ox_nil {T : Tb} {env : Evn} : Ox T (.lst .nil) env (.list []) := ox_ev rfl (ev_lst evs_nil (Nat.zero_le _)) rfl
theorem shp_fam {f : Fam} (h : okF f) : shp (.list (f.map eS)) = true := by
  have : Nice 2 (((f.map eS)).length * ((f.foldl (fun m o => max m (o.length * 9)) 0) + 1)) (.list (f.map eS)) := by
    refine nice_list fun x hx => ?_
    obtain ⟨a, ha, rfl⟩ := List.mem_map.mp hx
    refine nice_mono (nice_S (h a ha)) (Nat.le_refl _) ?_
    have : ∀ (f : Fam) (m : Nat), m ≤ f.foldl (fun m o => max m (o.length * 9)) m ∧ ∀ a ∈ f, a.length * 9 ≤ f.foldl (fun m o => max m (o.length * 9)) m := by
      intro f
      induction f with
      | nil => intro m; exact ⟨Nat.le_refl _, fun _ h => nomatch h⟩
      | cons b r ih =>
        intro m
        obtain ⟨i1, i2⟩ := ih (max m (b.length * 9))
        refine ⟨Nat.le_trans (Nat.le_max_left _ _) i1, fun a ha => ?_⟩
        rcases List.mem_cons.mp ha with rfl | ha
        · exact Nat.le_trans (Nat.le_max_right _ _) i1
        · exact i2 a ha
    exact (this f 0).2 a ha
  exact this.shp (by decide)
theorem shp_strs {o : Lot} (h : okS o) : shp (.list (o.map .str)) = true := by
  have : Nice 1 ((o.map PyData.str).length * 9) (.list (o.map .str)) := by
    refine nice_list fun x hx => ?_
    obtain ⟨a, ha, rfl⟩ := List.mem_map.mp hx
    exact nice_name (h a ha)
  exact this.shp (by decide)
theorem any_empty (f : Fam) (c : Lot) : (!((f.filter fun a => liesIn c a).map eS).isEmpty) = liesAmong c f := by
  unfold liesAmong
  induction f with
  | nil => rfl
  | cons x r ih =>
    rw [List.filter_cons, List.any_cons]
    cases q : liesIn c x with
    | true => simp
    | false => simpa using ih
theorem mod_ok {i j : Int} (h : j ≠ 0) : binD .mod (.int i) (.int j) = .ok (.int (i.fmod j)) := by
  show grd (decide (j ≠ 0)) _ = _
  rw [decide_eq_true h]
  rfl
theorem fdiv_ok {i j : Int} (h : j ≠ 0) (h2 : j.natAbs < 1073741824) : binD .fdiv (.int i) (.int j) = .ok (.int (i.fdiv j)) := by
  show grd (decide (j ≠ 0) && decide (j.natAbs < 1073741824)) _ = _
  rw [decide_eq_true h, decide_eq_true h2]
  rfl
theorem mul_ok {i j : Int} (h : bsmall i = true ∨ bsmall j = true) : binD .mul (.int i) (.int j) = .ok (.int (i * j)) := by
  show grd (bsmall i || bsmall j) _ = _
  rw [Bool.or_eq_true_iff.mpr h]
  rfl
theorem bsmall_of {i : Int} (h1 : 0 ≤ i) (h2 : i < 2147483629) : bsmall i = true := by
  unfold bsmall
  rw [decide_eq_true (by omega), decide_eq_true (by omega)]
  rfl
theorem fmod_lo {i j : Int} (h : 0 < j) : 0 ≤ i.fmod j := Int.fmod_nonneg_of_pos i h
theorem fmod_hi {i j : Int} (h : 0 < j) : i.fmod j < j := Int.fmod_lt_of_pos i h
theorem shp_ints (c : List Int) : shp (.list (c.map .int)) = true := by
  have a : PyData.canLayAll0 (c.map .int) = true := by
    induction c with
    | nil => simp [PyData.canLayAll0]
    | cons x r ih => simp [PyData.canLayAll0, PyData.canLay0, ih]
  have b : PyData.depthAll (c.map .int) = 0 := by
    clear a
    induction c with
    | nil => simp [PyData.depthAll]
    | cons x r ih => simp [PyData.depthAll, PyData.depth, ih]
  simp [shp, SeqAt.shaped, PyData.canLay0, PyData.depth, a, b]
theorem str_eq {y : Str} (hy : PyData.strOk y = true) : cmpD .eq (.str y) (.str y) = .ok true := by
  have : cmpD .eq (.str y) (.str y) = grd (shp (.str y) && shp (.str y)) (PyData.eqv (.str y) (.str y)) := rfl
  rw [this]
  simp [shp, SeqAt.shaped, PyData.canLay0, PyData.depth, hy, PyData.eqv, grd]
theorem str_ne {y : Str} (hy : PyData.strOk y = true) : cmpD .ne (.str y) (.str y) = .ok false := by
  have : cmpD .ne (.str y) (.str y) = grd (shp (.str y) && shp (.str y)) (!PyData.eqv (.str y) (.str y)) := rfl
  rw [this]
  simp [shp, SeqAt.shaped, PyData.canLay0, PyData.depth, hy, PyData.eqv, grd]
theorem ev_dct {T : Tb} {ks : List Str} {es : Exs} {env e1 : Evn} {xs : List PyData} (h : evs T es env = .ok (xs, e1)) : ev T (.dct ks es) env = .ok (.o (.dict ((ks.map .str).zip xs)), e1) := by
  show (evs T es env >>= fun p => Except.ok (Vl.o (.dict ((ks.map .str).zip p.1)), p.2)) = _
  simp only [h, bind, Except.bind]
theorem slcL_to {xs : List PyData} (k : Nat) (h : k ≤ xs.length) : slcD (.list xs) .none (.int k) = .ok (.list (xs.take k)) := by
  show (bndD xs.length 0 .none >>= fun a => bndD xs.length xs.length (.int k) >>= fun b => Except.ok (PyData.list ((xs.drop a).take (b - a)))) = _
  simp only [bndD, bind, Except.bind, Int.natCast_nonneg, if_true, Int.toNat_natCast, Nat.min_eq_left h]
  simp
theorem slcL_all {xs : List PyData} (k : Nat) (h : xs.length ≤ k) : slcD (.list xs) .none (.int k) = .ok (.list xs) := by
  show (bndD xs.length 0 .none >>= fun a => bndD xs.length xs.length (.int k) >>= fun b => Except.ok (PyData.list ((xs.drop a).take (b - a)))) = _
  simp only [bndD, bind, Except.bind, Int.natCast_nonneg, if_true, Int.toNat_natCast, Nat.min_eq_right h]
  simp
theorem slcL_from {xs : List PyData} (k : Nat) (h : k ≤ xs.length) : slcD (.list xs) (.int k) .none = .ok (.list (xs.drop k)) := by
  show (bndD xs.length 0 (.int k) >>= fun a => bndD xs.length xs.length .none >>= fun b => Except.ok (PyData.list ((xs.drop a).take (b - a)))) = _
  simp only [bndD, bind, Except.bind, Int.natCast_nonneg, if_true, Int.toNat_natCast, Nat.min_eq_left h]
  rw [List.take_of_length_le (by simp)]
theorem slcT_to {xs : List PyData} (k : Nat) : slcD (.tuple xs) .none (.int k) = .ok (.tuple (xs.take k)) := by
  show (bndD xs.length 0 .none >>= fun a => bndD xs.length xs.length (.int k) >>= fun b => Except.ok (PyData.tuple ((xs.drop a).take (b - a)))) = _
  simp only [bndD, bind, Except.bind, Int.natCast_nonneg, if_true, Int.toNat_natCast, List.drop_zero, Nat.sub_zero]
  rw [← List.take_eq_take_min]
theorem slcT_from {xs : List PyData} (k : Nat) : slcD (.tuple xs) (.int k) .none = .ok (.tuple (xs.drop k)) := by
  show (bndD xs.length 0 (.int k) >>= fun a => bndD xs.length xs.length .none >>= fun b => Except.ok (PyData.tuple ((xs.drop a).take (b - a)))) = _
  simp only [bndD, bind, Except.bind, Int.natCast_nonneg, if_true, Int.toNat_natCast]
  rw [List.take_of_length_le (by simp)]
  by_cases h : k ≤ xs.length
  · rw [Nat.min_eq_left h]
  · rw [Nat.min_eq_right (by omega), List.drop_of_length_le (Nat.le_refl _), List.drop_of_length_le (by omega)]
theorem str_eqb {x y : Str} (hx : nameB x = true) (hy : nameB y = true) : cmpD .eq (.str x) (.str y) = .ok (x == y) := by
  have : cmpD .eq (.str x) (.str y) = grd (shp (.str x) && shp (.str y)) (PyData.eqv (.str x) (.str y)) := rfl
  rw [this, (nice_name hx).shp (by decide), (nice_name hy).shp (by decide), PyData.eqv]
  rfl
theorem bool_ne (b : Bool) : cmpD .ne (.bool b) (.bool b) = .ok false := by cases b <;> rfl
theorem nice_fam {H : Lot} (hH : okS H) (hl : H.length ≤ 9) {f : Fam} (L : LotsOf H f) (h : f.length ≤ 63) : Nice 2 5166 (eF f) :=
  nice_mono (nice_F (okF_lots hH L) fun a ha => Nat.le_trans (L.sub a ha).length_le hl) (Nat.le_refl _) (by omega)

variable {T : Tb} {X : Xcs}
theorem evs_star {e : Ex} {es : Exs} {env e1 e2 : Evn} {r : Vl} {xs ys : List PyData} (h : ev T e env = .ok (r, e1)) (hx : itemsT r.x = .ok xs) (h2 : evs T es e1 = .ok (ys, e2)) : evs T (.star e es) env = .ok (xs ++ ys, e2) := by
  show (ev T e env >>= fun p => itemsT p.1.x >>= fun xs => evs T es p.2 >>= fun q => Except.ok (xs ++ q.1, q.2)) = _
  simp only [h, hx, h2, bind, Except.bind]
theorem exS_ext {i : Nat} {e : Ex} {env e1 : Evn} {ws xs ys : List PyData} (h0 : env[i]? = some (some (.o (.list ws)))) (h : ev T e env = .ok (.o (.list ys), e1)) (h1 : e1[i]? = some (some (.o (.list xs)))) (hl : xs.length + ys.length ≤ lim) :
    exS T X (.ext i e) env = .ok (.nx, e1.set i (some (.o (.list (xs ++ ys))))) := by
  rw [exS, h0]
  simp only [h, bind, Except.bind, extD, h1, grd, decide_eq_true hl, if_true]
  rfl
theorem exS_asg3 {i j l : Nat} {a b c : Ex} {env e1 e2 e3 : Evn} {r q s : Vl} (h : ev T a env = .ok (r, e1)) (h2 : ev T b e1 = .ok (q, e2)) (h3 : ev T c e2 = .ok (s, e3)) : exS T X (.asg3 i j l a b c) env = .ok (.nx, ((e3.set i (some r)).set j (some q)).set l (some s)) := by
  rw [exS, h]
  simp only [bind, Except.bind, h2, h3]
  rfl
theorem ev_mm {mx : Bool} {a b : Ex} {env e1 e2 : Evn} {i j : Int} (h : ev T a env = .ok (.d (.int i), e1)) (h2 : ev T b e1 = .ok (.d (.int j), e2)) : ev T (.mm mx a b) env = .ok (.d (.int (mm mx i j)), e2) := by
  rw [ev]
  simp only [h, h2, bind, Except.bind]
theorem e_eqL {a b : Lot} (ha : okS a) (hb : okS b) : cmpD .eq (eS a) (eS b) = .ok (decide (a = b)) := by
  have h1 := (nice_S ha).shp (by decide)
  have h2 := (nice_S hb).shp (by decide)
  have : cmpD .eq (eS a) (eS b) = grd (shp (eS a) && shp (eS b)) (PyData.eqv (eS a) (eS b)) := rfl
  rw [this, h1, h2, eqv_S]
  rfl
theorem any_lot (f : Fam) (a : Lot) : ((f.map eS).any fun z => PyData.eqv z (eS a)) = decide (a ∈ f) := by
  rw [List.any_map]
  have : ((fun z => PyData.eqv z (eS a)) ∘ eS) = fun y => decide (y = a) := funext fun y => eqv_S y a
  rw [this]
  by_cases h : a ∈ f
  · rw [decide_eq_true h, List.any_eq_true]
    exact ⟨a, h, decide_eq_true rfl⟩
  · rw [decide_eq_false h, List.any_eq_false]
    intro y hy
    simp only [decide_eq_true_eq]
    exact fun e => h (e ▸ hy)
theorem e_inL {a : Lot} {f : Fam} (ha : okS a) (hf : shp (eF f) = true) : cmpD .isin (eS a) (eF f) = .ok (decide (a ∈ f)) := by
  have h1 := (nice_S ha).shp (by decide)
  have h2 : shp (.tuple (f.map eS)) = true := hf
  show grd (shp (eS a) && shp (.tuple (f.map eS))) ((f.map eS).any fun z => PyData.eqv z (eS a)) = _
  rw [h1, h2, any_lot]
  rfl
theorem hits_common (k q : Lot) : decide (0 < (commonOf k q).length) = hits k q := by
  unfold commonOf hits
  induction k with
  | nil => rfl
  | cons n r ih =>
    rw [List.filter_cons, List.any_cons, ← ih]
    cases q.contains n <;> simp
theorem late_snoc (d : Fam) (k q : Lot) : late (d ++ [k]) q = late d q ++ (if hits k q then [k] else q.map fun n => sortS (k ++ [n])) := by
  unfold late
  rw [List.flatMap_append]
  simp
theorem late_len (d : Fam) (q : Lot) : (late d q).length ≤ d.length * (q.length + 1) := by
  induction d with
  | nil => simp [late]
  | cons k r ih =>
    have e : late (k :: r) q = (if hits k q then [k] else q.map fun n => sortS (k ++ [n])) ++ late r q := rfl
    rw [e, List.length_append, List.length_cons, Nat.succ_mul]
    split
    · simp; omega
    · rw [List.length_map]; omega
end Qv

set_option maxRecDepth 100000
/-! QM4: a comprehension that changes the state and keeps all; more about sorted names and lots. -/
namespace Qv
open PySem
variable {T : Tb} {X : Xcs}
theorem ev_lcJ {α : Type} {i : Nat} {elt : Ex} {it : Itr} {env e0 : Evn} (l : List α) (enc : α → PyData) (Inv : Evn → Prop) (Q : α → PyData → Prop)
    (hi : evI T it env = .ok (l.map enc, e0)) (hl : l.length ≤ lim) (h0 : Inv (e0.set i none))
    (h : ∀ x ∈ l, ∀ e, Inv e → ∃ r e3, ev T elt (e.set i (some (.d (enc x)))) = .ok (r, e3) ∧ Q x r.x ∧ Inv (e3.set i none)) :
    ∃ (ks : List (α × PyData)) (e' : Evn), ks.map (·.1) = l ∧ (∀ p ∈ ks, Q p.1 p.2) ∧ ev T (.lc [i] elt (.nm i) it .nil) env = .ok (.o (.list (ks.map (·.2))), e'.set i (e0[i]?.getD none)) ∧ Inv (e'.set i none) := by
  have key : ∀ (l : List α) (acc : List PyData) (e : Evn), (∀ x ∈ l, ∀ e, Inv e → ∃ r e3, ev T elt (e.set i (some (.d (enc x)))) = .ok (r, e3) ∧ Q x r.x ∧ Inv (e3.set i none)) →
      Inv (e.set i none) → acc.length + l.length ≤ lim → ∃ (ks : List (α × PyData)) (e' : Evn), ks.map (·.1) = l ∧ (∀ p ∈ ks, Q p.1 p.2) ∧
        lcLoop [i] (ev T elt) (.nm i) (evAnd T .nil) (l.map enc) acc e = .ok (acc ++ ks.map (·.2), e') ∧ Inv (e'.set i none) := by
    intro l
    induction l with
    | nil => intro acc e _ hw _; exact ⟨[], e, rfl, (fun p hp => by cases hp), (by simp [lcLoop]), hw⟩
    | cons x r ih =>
      intro acc e h hw hl
      obtain ⟨v, e3, h4, h5, h6⟩ := h x List.mem_cons_self _ hw
      have hb : bindT (.nm i) (enc x) (wipeE e [i]) = .ok ((e.set i none).set i (some (.d (enc x)))) := rfl
      simp only [List.length_cons] at hl
      obtain ⟨ks, e', q0, qq, q1, q2⟩ := ih (acc ++ [v.x]) e3 (fun y hy => h y (List.mem_cons_of_mem _ hy)) h6 (by simp; omega)
      refine ⟨(x, v.x) :: ks, e', by rw [List.map_cons, q0], ?_, ?_, q2⟩
      · intro p hp
        rcases List.mem_cons.mp hp with rfl | hp
        · exact h5
        · exact qq p hp
      have hg : (grd (decide (acc.length < lim)) () : Rs Unit) = .ok () := by
        unfold grd
        rw [decide_eq_true (by omega : acc.length < lim)]
        rfl
      have t : ∀ e, evAnd T .nil e = .ok (true, e) := fun _ => rfl
      simp only [List.map_cons, lcLoop, hb, t, h4, hg, bind, Except.bind]
      simp [q1]
  obtain ⟨ks, e', q0, qq, q1, q2⟩ := key l [] (wipeE e0 [i]) h (by show Inv ((e0.set i none).set i none); rw [List.set_set]; exact h0) (by simpa using hl)
  have e : ev T (.lc [i] elt (.nm i) it .nil) env = (evI T it env >>= fun p => quiet (lcLoop [i] (ev T elt) (.nm i) (evAnd T .nil) p.1 [] (wipeE p.2 [i])) >>= fun q => .ok (.o (.list q.1), restE p.2 q.2 [i])) := rfl
  refine ⟨ks, e', q0, qq, ?_, q2⟩
  rw [e, hi]
  simp only [bind, Except.bind, q1, quiet, List.nil_append]
  rfl
theorem exS_asgT {is : List Nat} {e : Ex} {env e1 e2 : Evn} {r : Vl} (h : ev T e env = .ok (r, e1)) (h2 : bindT (.tp is) r.x e1 = .ok e2) : exS T X (.asgT is e) env = .ok (.nx, e2) := by
  rw [exS, h]
  simp only [bind, Except.bind, h2]
/-! ### lots that are made -/
theorem set_sub {H l : Lot} (ha : H.Pairwise fun a b => ltN a b = true) (hs : ∀ n ∈ l, n ∈ H) : (sortN l).Sublist H := by
  have e : sortN l = H.filter (fun n => l.contains n) := by
    refine names_eq ((asc_sortN l).imp fun h => leN_of h) ((ha.imp fun h => leN_of h).filter _) (nodup_sortN l) ((ha.imp fun h => ltN_irr h).filter _) fun n => ?_
    rw [mem_sortN, List.mem_filter]
    exact ⟨fun h => ⟨hs n h, List.contains_iff_mem.mpr h⟩, fun h => List.contains_iff_mem.mp h.2⟩
  exact e ▸ List.filter_sublist
/-- names in turn, from a place on, round: unlike ones -/
theorem turn_nodup {H : Lot} (hn : H.Nodup) {b size : Nat} (hb : b < H.length) (hs : size ≤ H.length) : ((List.range size).map fun k => H.getD ((b + k) % H.length) (Str.ofString "")).Nodup := by
  refine List.pairwise_map.mpr ?_
  refine List.nodup_range.imp_of_mem ?_
  intro k j hk hj hne e
  have hk := List.mem_range.mp hk
  have hj := List.mem_range.mp hj
  have pos : 0 < H.length := by omega
  have l1 := Nat.mod_lt (b + k) pos
  have l2 := Nat.mod_lt (b + j) pos
  rw [List.getD_eq_getElem?_getD, List.getD_eq_getElem?_getD, List.getElem?_eq_getElem l1, List.getElem?_eq_getElem l2] at e
  have e2 := (List.getElem_inj hn).mp e
  have m1 : (b + k) % H.length = if b + k < H.length then b + k else b + k - H.length := by
    split
    · rename_i h; exact Nat.mod_eq_of_lt h
    · rename_i h
      rw [Nat.mod_eq_sub_mod (by omega)]
      exact Nat.mod_eq_of_lt (by omega)
  have m2 : (b + j) % H.length = if b + j < H.length then b + j else b + j - H.length := by
    split
    · rename_i h; exact Nat.mod_eq_of_lt h
    · rename_i h
      rw [Nat.mod_eq_sub_mod (by omega)]
      exact Nat.mod_eq_of_lt (by omega)
  rw [m1, m2] at e2
  split at e2 <;> split at e2 <;> omega
theorem lex_names {x y : Str} (h : ltN x y = true) (A B : List (Int ⊕ List Nat)) : PyProof.Rows.lexLt PyProof.Rows.itemOrd (Sum.inr x.cps.toList :: A) (Sum.inr y.cps.toList :: B) = true := by
  have hne : (Sum.inr x.cps.toList : Int ⊕ List Nat) ≠ Sum.inr y.cps.toList := by
    intro e
    injection e with e
    exact ltN_irr h (W.str_of_cps e)
  rw [W.lex_atom hne]
  have : W.dataLt (.str x) (.str y) = true := by rw [W.dataLt_str]; exact h
  unfold W.dataLt at this
  simpa only [W.keyToks] using this
theorem ltL_ne {x y : Str} (h : ltN x y = true) (r s : Lot) : ltL (x :: r) (y :: s) = true := by
  unfold ltL W.dataLt eS
  simp only [W.keyToks, List.map_cons, W.toks_all_cons, List.singleton_append]
  have := W.lex_pre [Sum.inl 1] (Sum.inr x.cps.toList :: W.keyToksAll (r.map .str)) (Sum.inr y.cps.toList :: W.keyToksAll (s.map .str))
  simp only [List.singleton_append] at this
  rw [this]
  exact lex_names h _ _
theorem ltL_eq (x : Str) (r s : Lot) : ltL (x :: r) (x :: s) = ltL r s := by
  unfold ltL W.dataLt eS
  simp only [W.keyToks, List.map_cons, W.toks_all_cons, List.singleton_append]
  exact W.lex_pre [Sum.inl 1, Sum.inr x.cps.toList] (W.keyToksAll (r.map .str)) (W.keyToksAll (s.map .str))
/-- the family of all lots of one -/
theorem fam_ones {H : Lot} (ha : H.Pairwise fun a b => ltN a b = true) : FamOk H (H.map fun x => [x]) := by
  refine ⟨⟨ha.imp fun h => ltN_irr h, fun a h => ?_⟩, List.pairwise_map.mpr (ha.imp fun h => ltL_ne h [] []), List.pairwise_map.mpr (ha.imp fun {a b} h => ?_)⟩
  · obtain ⟨x, hx, rfl⟩ := List.mem_map.mp h
    exact List.singleton_sublist.mpr hx
  · have hne := ltN_irr h
    unfold liesIn
    simp [hne, Ne.symm hne]
/-- the place of a name among unlike ones -/
theorem idx_at {H d s : Lot} {t : Str} (hn : H.Nodup) (hd : H = d ++ t :: s) : (H.findIdx fun z => PyData.eqv (.str z) (.str t)) = d.length := by
  subst hd
  have hnot : ∀ z ∈ d, PyData.eqv (.str z) (.str t) = false := by
    intro z hz
    rw [PyData.eqv]
    have := (List.nodup_append.mp hn).2.2 z hz t List.mem_cons_self
    simpa using this
  have ht : PyData.eqv (.str t) (.str t) = true := by rw [PyData.eqv]; simp
  clear hn
  induction d with
  | nil => simp [List.findIdx_cons, ht]
  | cons a r ih =>
    rw [List.cons_append, List.findIdx_cons, hnot a List.mem_cons_self, ih fun z hz => hnot z (List.mem_cons_of_mem _ hz)]
    simp
/-- all lots, ascending -/
def subsA (H : Lot) : Fam := (allLots H).mergeSort leL
theorem mem_subsA {H a : Lot} : a ∈ subsA H ↔ a.Sublist H := (List.mergeSort_perm _ _).mem_iff.trans mem_allLots
theorem len_subsA (H : Lot) : (subsA H).length = 2 ^ H.length := (List.mergeSort_perm _ _).length_eq.trans (len_allLots H)
theorem nodup_allLots : ∀ (n : Nat) (H : Lot), H.length = n → H.Nodup → (allLots H).Nodup
  | 0, H, h, _ => by rw [List.length_eq_zero_iff.mp h]; exact List.pairwise_singleton _ _
  | n + 1, H, h, hn => by
    have hne : H ≠ [] := by intro e; rw [e] at h; cases h
    have e := List.dropLast_concat_getLast hne
    rw [← e] at hn ⊢
    obtain ⟨h1, _, h3⟩ := List.nodup_append.mp hn
    have ih := nodup_allLots n H.dropLast (by rw [List.length_dropLast]; omega) h1
    rw [allLots_snoc]
    refine List.nodup_append.mpr ⟨ih, List.pairwise_map.mpr (ih.imp fun hne e => hne (List.append_cancel_right e)), ?_⟩
    intro a ha b hb e2
    obtain ⟨c, hc, rfl⟩ := List.mem_map.mp hb
    subst e2
    have := (mem_allLots.mp ha).subset (List.mem_append_right c List.mem_cons_self)
    exact h3 _ this _ List.mem_cons_self rfl
theorem subs_pick {H : Lot} (hn : H.Nodup) {K : Fam} (F : FamOk H K) : (subsA H).filter (fun s => decide (s ∈ K)) = K := by
  refine sorted_eq ((List.pairwise_mergeSort leL_trans leL_total _).filter _) (F.asc.imp fun h => leL_of h) (((List.mergeSort_perm _ _).nodup_iff.mpr (nodup_allLots _ H rfl hn)).filter _) (F.asc.imp fun h => ltL_irr h) fun a => ?_
  rw [List.mem_filter, mem_subsA, decide_eq_true_eq]
  exact ⟨fun h => h.2, fun h => ⟨F.lots.sub a h, h⟩⟩
theorem meets_empty (f : Fam) (s : Lot) : ((f.filter fun q => !hits q s).map eS).isEmpty = hitsAll f s := by
  unfold hitsAll
  induction f with
  | nil => rfl
  | cons q r ih =>
    rw [List.filter_cons, List.all_cons]
    cases e : hits q s with
    | true => simpa using ih
    | false => simp
end Qv

set_option maxRecDepth 100000
/-! QB: lots by size, least lots by going through all of them in this order; a comprehension over a list of one's own. -/
namespace Qv
open PySem
variable {T : Tb} {X : Xcs}
/-! ### a list of one's own, gone through -/
theorem ev_lcOT {α : Type} {i j : Nat} {elt : Ex} {cs : Exs} {env : Evn} (l : List α) (enc : α → PyData) (c : α → Bool) (f : α → PyData) (hij : j ≠ i)
    (hj : env[j]? = some (some (.o (.list (l.map enc))))) (hl : l.length ≤ lim)
    (h : ∀ x ∈ l, evAnd T cs (env.set i (some (.d (enc x)))) = .ok (c x, env.set i (some (.d (enc x)))) ∧
      (c x = true → ∃ r, ev T elt (env.set i (some (.d (enc x)))) = .ok (r, env.set i (some (.d (enc x)))) ∧ r.x = f x)) :
    ev T (.lcO j [i] elt (.nm i) cs) env = .ok (.o (.list ((l.filter c).map f)), env) := by
  have key : ∀ (s : List α) (d : List α) (acc : List PyData) (e : Evn), l = d ++ s → wipeE e [i] = wipeE env [i] → acc.length + s.length ≤ lim →
      ∃ e', lcLoopO j [i] (ev T elt) (.nm i) (evAnd T cs) s.length d.length acc e = .ok (acc ++ (s.filter c).map f, e') ∧ wipeE e' [i] = wipeE env [i] := by
    intro s
    induction s with
    | nil =>
      intro d acc e hd hw _
      have hd : l = d := by simpa using hd
      have hje : e[j]? = some (some (.o (.list (l.map enc)))) := by
        have := congrArg (fun q : Evn => q[j]?) hw
        have : (e.set i none)[j]? = (env.set i none)[j]? := this
        rw [List.getElem?_set_ne (Ne.symm hij), List.getElem?_set_ne (Ne.symm hij), hj] at this
        exact this
      refine ⟨e, ?_, hw⟩
      show lcLoopO j [i] (ev T elt) (.nm i) (evAnd T cs) 0 d.length acc e = _
      simp only [lcLoopO, hje]
      rw [List.length_map, hd]
      simp [grd]
    | cons x r ih =>
      intro d acc e hd hw hlen
      have hje : e[j]? = some (some (.o (.list (l.map enc)))) := by
        have := congrArg (fun q : Evn => q[j]?) hw
        have : (e.set i none)[j]? = (env.set i none)[j]? := this
        rw [List.getElem?_set_ne (Ne.symm hij), List.getElem?_set_ne (Ne.symm hij), hj] at this
        exact this
      have hx : x ∈ l := by rw [hd]; simp
      obtain ⟨h1, h2⟩ := h x hx
      have hat : (l.map enc)[d.length]? = some (enc x) := by rw [hd]; simp
      have hb : bindT (.nm i) (enc x) (wipeE e [i]) = .ok (env.set i (some (.d (enc x)))) := by
        rw [hw]
        show Except.ok ((env.set i none).set i _) = _
        rw [List.set_set]
      have hw2 : wipeE (env.set i (some (Vl.d (enc x)))) [i] = wipeE env [i] := by
        show (env.set i _).set i none = env.set i none
        rw [List.set_set]
      simp only [List.length_cons] at hlen
      have hd' : l = (d ++ [x]) ++ r := by rw [hd]; simp
      show ∃ e', lcLoopO j [i] (ev T elt) (.nm i) (evAnd T cs) (r.length + 1) d.length acc e = _ ∧ _
      simp only [lcLoopO, hje, hat]
      cases hc : c x with
      | false =>
        rw [hc] at h1
        have t : lcLoop [i] (ev T elt) (.nm i) (evAnd T cs) [enc x] acc e = .ok (acc, env.set i (some (.d (enc x)))) := by
          simp only [lcLoop, hb, h1, bind, Except.bind]
          rfl
        obtain ⟨e', q1, q2⟩ := ih (d ++ [x]) acc _ hd' hw2 (by omega)
        refine ⟨e', ?_, q2⟩
        simp only [t, bind, Except.bind]
        rw [List.length_append] at q1
        rw [show d.length + 1 = d.length + [x].length from rfl, q1]
        simp [hc]
      | true =>
        obtain ⟨v, h3, h4⟩ := h2 hc
        rw [hc] at h1
        have hg : (grd (decide (acc.length < lim)) () : Rs Unit) = .ok () := by
          unfold grd
          rw [decide_eq_true (by omega : acc.length < lim)]
          rfl
        have t : lcLoop [i] (ev T elt) (.nm i) (evAnd T cs) [enc x] acc e = .ok (acc ++ [f x], env.set i (some (.d (enc x)))) := by
          simp only [lcLoop, hb, h1, h3, h4, hg, bind, Except.bind]
          rfl
        obtain ⟨e', q1, q2⟩ := ih (d ++ [x]) (acc ++ [f x]) _ hd' hw2 (by simp; omega)
        refine ⟨e', ?_, q2⟩
        simp only [t, bind, Except.bind]
        rw [List.length_append] at q1
        rw [show d.length + 1 = d.length + [x].length from rfl, q1]
        simp [hc]
  obtain ⟨e', q1, q2⟩ := key l [] [] (wipeE env [i]) rfl (by show (env.set i none).set i none = _; rw [List.set_set]; rfl) (by simpa using hl)
  have e : ev T (.lcO j [i] elt (.nm i) cs) env = (match env[j]? with
    | some (some (.o (.list xs))) => if [i].contains j then stk else quiet (lcLoopO j [i] (ev T elt) (.nm i) (evAnd T cs) xs.length 0 [] (wipeE env [i])) >>= fun q => .ok (.o (.list q.1), restE env q.2 [i])
    | _ => stk) := rfl
  have hc : [i].contains j = false := by simp [hij]
  rw [e, hj]
  simp only [hc, List.length_map]
  simp only [List.length_nil] at q1
  simp only [bind, Except.bind, q1, quiet, List.nil_append]
  rw [rest_back q2]
  rfl
theorem ev_lcOF {α : Type} {i j : Nat} {t : Ex} {env : Evn} (l : List α) (enc : α → PyData) (c : α → Bool) (hij : j ≠ i)
    (hj : env[j]? = some (some (.o (.list (l.map enc))))) (hl : l.length ≤ lim) (hb : i < env.length)
    (h : ∀ x ∈ l, ev T t (env.set i (some (.d (enc x)))) = .ok (.d (.bool (c x)), env.set i (some (.d (enc x))))) :
    ev T (.lcO j [i] (.var i) (.nm i) (.cons t .nil)) env = .ok (.o (.list ((l.filter c).map enc)), env) :=
  ev_lcOT l enc c enc hij hj hl fun x hx => ⟨evAnd_1 (h x hx), fun _ => ⟨.d (enc x), ev_var (by rw [List.getElem?_set, if_pos rfl, if_pos hb]), rfl⟩⟩
/-! ### lots by size -/
def bySize (H : Lot) (k : Nat) : Fam := sortL ((allLots H).filter fun a => decide (a.length = k))
def subsK (H : Lot) : Fam := (List.range (H.length + 1)).flatMap (bySize H)
theorem mem_bySize {H a : Lot} {k : Nat} : a ∈ bySize H k ↔ a.Sublist H ∧ a.length = k := by
  unfold bySize
  rw [mem_sortL, List.mem_filter, mem_allLots, decide_eq_true_eq]
theorem mem_subsK {H a : Lot} : a ∈ subsK H ↔ a.Sublist H := by
  unfold subsK
  rw [List.mem_flatMap]
  constructor
  · rintro ⟨k, _, h⟩
    exact (mem_bySize.mp h).1
  · intro h
    exact ⟨a.length, List.mem_range.mpr (by have := h.length_le; omega), mem_bySize.mpr ⟨h, rfl⟩⟩
theorem len_bySize (H : Lot) (k : Nat) : (bySize H k).length ≤ 2 ^ H.length := by
  unfold bySize
  rw [len_sortL]
  refine Nat.le_trans (nodup_le (nodup_dedupL _) fun x hx => mem_dedupL.mp hx) ?_
  have := List.length_filter_le (fun a : Lot => decide (a.length = k)) (allLots H)
  rw [len_allLots] at this
  exact this
theorem mono_subsK (H : Lot) : (subsK H).Pairwise fun a b => a.length ≤ b.length := by
  unfold subsK
  rw [List.pairwise_flatMap]
  refine ⟨fun k _ => ?_, ?_⟩
  · refine List.Pairwise.imp_of_mem (R := fun _ _ => True) ?_ (List.pairwise_of_forall fun _ _ => trivial)
    intro a b ha hb _
    rw [(mem_bySize.mp ha).2, (mem_bySize.mp hb).2]
    exact Nat.le_refl _
  · refine List.pairwise_lt_range.imp ?_
    intro j k h a ha b hb
    rw [(mem_bySize.mp ha).2, (mem_bySize.mp hb).2]
    exact Nat.le_of_lt h
theorem len_subsK {H : Lot} (h5 : H.length ≤ 5) : (subsK H).length ≤ 192 := by
  unfold subsK
  have : ∀ l : List Nat, (l.flatMap (bySize H)).length ≤ l.length * 32 := by
    intro l
    induction l with
    | nil => simp
    | cons k r ih =>
      have := Nat.le_trans (len_bySize H k) (Nat.pow_le_pow_right (by decide) h5 : 2 ^ H.length ≤ 2 ^ 5)
      simp only [List.flatMap_cons, List.length_append, List.length_cons, Nat.add_mul]
      omega
  refine Nat.le_trans (this _) ?_
  rw [List.length_range]
  omega
/-! ### the least by going through all -/
def bruteS (Q : Fam) (found : Fam) (x : Lot) : Fam := if found.any (fun k => liesIn k x) then found else if hitsAll Q x then found ++ [x] else found
structure Brute (H : Lot) (Q d found : Fam) : Prop where
  sub : ∀ a ∈ found, a ∈ d
  hit : ∀ a ∈ found, hitsAll Q a = true
  all : ∀ a ∈ d, hitsAll Q a = true → ∃ k ∈ found, liesIn k a = true
  apart : found.Pairwise fun a b => liesIn a b = false ∧ liesIn b a = false
  len : found.length ≤ d.length
theorem sub_of_lies {H x a : Lot} (hn : H.Nodup) (hx : x.Sublist H) (ha : a.Sublist H) (h : liesIn x a = true) : x.Sublist a := by
  have e1 := sub_filter hn hx
  have e2 := sub_filter hn ha
  have e3 : x = a.filter fun n => x.contains n := by
    rw [e2, List.filter_filter]
    refine e1.trans ?_
    congr 1
    funext n
    cases q : x.contains n with
    | false => simp
    | true =>
      have h1 : a.contains n = true := List.contains_iff_mem.mpr (liesIn_iff.mp h n (List.contains_iff_mem.mp q))
      rw [h1]
      rfl
  rw [e3]
  exact List.filter_sublist
theorem brute_nil {H : Lot} {Q : Fam} : Brute H Q [] [] := ⟨fun _ h => h, (fun _ h => nomatch h), (fun _ h => nomatch h), .nil, Nat.le_refl _⟩
theorem brute_step {H : Lot} {Q d found : Fam} {x : Lot} (hn : H.Nodup) (B : Brute H Q d found) (hd : ∀ a ∈ d, a.Sublist H) (hx : x.Sublist H) (hl : ∀ a ∈ d, a.length ≤ x.length) : Brute H Q (d ++ [x]) (bruteS Q found x) := by
  unfold bruteS
  cases q : found.any (fun k => liesIn k x) with
  | true =>
    rw [if_pos rfl]
    refine ⟨fun a ha => List.mem_append_left _ (B.sub a ha), B.hit, fun a ha hh => ?_, B.apart, by rw [List.length_append]; have := B.len; omega⟩
    rcases List.mem_append.mp ha with ha | ha
    · exact B.all a ha hh
    · rw [List.mem_singleton.mp ha]
      obtain ⟨k, hk, hkx⟩ := List.any_eq_true.mp q
      exact ⟨k, hk, hkx⟩
  | false =>
    rw [if_neg (by decide)]
    cases w : hitsAll Q x with
    | false =>
      rw [if_neg (by decide)]
      refine ⟨fun a ha => List.mem_append_left _ (B.sub a ha), B.hit, fun a ha hh => ?_, B.apart, by rw [List.length_append]; have := B.len; omega⟩
      rcases List.mem_append.mp ha with ha | ha
      · exact B.all a ha hh
      · rw [List.mem_singleton.mp ha, w] at hh
        cases hh
    | true =>
      rw [if_pos rfl]
      have hno : ∀ a ∈ found, liesIn a x = false := fun a ha => by
        cases e : liesIn a x with
        | false => rfl
        | true =>
          have : found.any (fun k => liesIn k x) = true := List.any_eq_true.mpr ⟨a, ha, e⟩
          rw [q] at this
          cases this
      refine ⟨fun a ha => ?_, fun a ha => ?_, fun a ha hh => ?_, ?_, by rw [List.length_append, List.length_append]; have := B.len; simp; omega⟩
      · rcases List.mem_append.mp ha with ha | ha
        · exact List.mem_append_left _ (B.sub a ha)
        · exact List.mem_append_right _ ha
      · rcases List.mem_append.mp ha with ha | ha
        · exact B.hit a ha
        · rw [List.mem_singleton.mp ha]; exact w
      · rcases List.mem_append.mp ha with ha | ha
        · obtain ⟨k, hk, h⟩ := B.all a ha hh
          exact ⟨k, List.mem_append_left _ hk, h⟩
        · rw [List.mem_singleton.mp ha]
          exact ⟨x, List.mem_append_right _ List.mem_cons_self, liesIn_refl x⟩
      · rw [List.pairwise_append]
        refine ⟨B.apart, List.pairwise_singleton _ _, fun a ha b hb => ?_⟩
        rw [List.mem_singleton.mp hb]
        refine ⟨hno a ha, ?_⟩
        cases e : liesIn x a with
        | false => rfl
        | true =>
          have had := B.sub a ha
          have s := sub_of_lies hn hx (hd a had) e
          have : x = a := s.eq_of_length_le (hl a had)
          rw [this] at hno
          have := hno a ha
          rw [liesIn_refl] at this
          cases this
/-- sorted, these are the kernels -/
theorem brute_kern {H : Lot} {Q found : Fam} (ha : H.Pairwise fun a b => ltN a b = true) (hQ : ∀ q ∈ Q, q.Sublist H) (B : Brute H Q (subsK H) found) : sortL found = kern Q ∧ LotsOf H found := by
  have hn : H.Nodup := ha.imp fun h => ltN_irr h
  have L : LotsOf H found := ⟨hn, fun a h => mem_subsK.mp (B.sub a h)⟩
  have FO : FamOk H (sortL found) := by
    refine ⟨⟨hn, fun a h => L.sub a (mem_sortL.mp h)⟩, strict_of (sorted_sortL _) (nodup_sortL _), ?_⟩
    have : (sortL found).Pairwise fun a b => a ≠ b := nodup_sortL _
    refine this.imp_of_mem ?_
    intro a b ha hb hne
    exact pw_sym (R := fun a b => liesIn a b = false ∧ liesIn b a = false) (fun a b h => ⟨h.2, h.1⟩) B.apart (mem_sortL.mp ha) (mem_sortL.mp hb) hne
  have K : Ker H Q (sortL found) := by
    refine ⟨FO.lots, fun k hk => B.hit k (mem_sortL.mp hk), fun s hs hh => ?_⟩
    obtain ⟨k, hk, h⟩ := B.all s (mem_subsK.mpr hs) hh
    exact ⟨k, mem_sortL.mpr hk, h⟩
  obtain ⟨D, F⟩ := kern_ok ha Q hQ
  exact ⟨ker_eq K D FO F, L⟩
end Qv

namespace HeadT
open PySem PySem.Spec PyProof.Rows L2 Qv
def top (i : Nat) : Stmt := PySem.Challenge.pw_ownfears_k23_whole_kernels.main.body.getD i (.Pass ⟨0, 0, 0, 0⟩)
def dd (i : Nat) (x : Str) (d : List He.Dv) : He.DefD := ⟨(x, none), x, x, defArgs (top i), defBody (top i), defScope (top i), d, []⟩
def fn : List He.DefD := ([dd 5 "lies_in" [], dd 6 "common_of" [], dd 9 "is_name" [], dd 10 "is_pair" [], dd 11 "is_name_set" [], dd 12 "is_lot_of" [], dd 13 "family_fault" [], dd 14 "houses_fault" [], dd 15 "net_fault" [], dd 16 "is_net" [], dd 17 "is_house" [], dd 19 "want" [.int (-1)], dd 20 "want_net" [], dd 21 "want_house" [.str "house"], dd 22 "want_lot" [.str "lot"], dd 24 "quorums_by" [], dd 25 "quorums_fault" [], dd 27 "are_quorums" [], dd 28 "want_quorums" [], dd 30 "least_of" [], dd 31 "kernels_of" [], dd 32 "is_kernel" [], dd 34 "_law_feed" [], dd 35 "_law_draw" [], dd 36 "_law_pick" [], dd 37 "_law_pool" [], dd 38 "_law_set" [], dd 39 "_law_lies" [], dd 40 "_law_greatest" [], dd 41 "_law_least" []] : List He.DefD) ++ ([dd 42 "_law_part" [], dd 43 "_law_net" [], dd 44 "_law_plain" [], dd 45 "_law_others" [], dd 46 "_law_packs" [], dd 47 "_law_common" [], dd 48 "_law_subsets" [], dd 49 "_law_kernels" [], dd 50 "_law_is_even" [], dd 51 "law" []] : List He.DefD)
def fa : List He.Fa := ([.glo "lies_in", .glo "common_of", .glo "is_name", .glo "is_pair", .glo "is_name_set", .glo "is_lot_of", .glo "family_fault", .glo "houses_fault", .glo "net_fault", .glo "is_net", .glo "is_house", .glo "want", .glo "want_net", .glo "want_house", .glo "want_lot", .glo "quorums_by", .glo "quorums_fault", .glo "are_quorums", .glo "want_quorums", .glo "least_of", .glo "kernels_of", .glo "is_kernel", .glo "_law_feed", .glo "_law_draw", .glo "_law_pick", .glo "_law_pool", .glo "_law_set", .glo "_law_lies", .glo "_law_greatest", .glo "_law_least"] : List He.Fa) ++ ([.glo "_law_part", .glo "_law_net", .glo "_law_plain", .glo "_law_others", .glo "_law_packs", .glo "_law_common", .glo "_law_subsets", .glo "_law_kernels", .glo "_law_is_even", .glo "law", .free "len", .free "all", .free "any", .free "tuple", .free "list", .free "set", .free "sorted", .free "int", .free "repr", .free "range", .free "enumerate", .free "zip", .free "isinstance", .free "str", .free "sum", .free "bool", .free "min", .free "max", .str "LETTERS" "abcdefghijklmnopqrstuvwxyz"] : List He.Fa)
def loose : List Str := (["FearError", "UseError", "NotUsable", "lies_in", "common_of", "LETTERS", "is_name", "is_pair", "is_name_set", "is_lot_of", "family_fault", "houses_fault", "net_fault", "is_net", "is_house", "want", "want_net", "want_house", "want_lot", "quorums_by", "quorums_fault", "are_quorums", "want_quorums", "least_of", "kernels_of", "is_kernel", "_law_feed", "_law_draw", "_law_pick", "_law_pool"] : List Str) ++ (["_law_set", "_law_lies", "_law_greatest", "_law_least", "_law_part", "_law_net", "_law_plain", "_law_others", "_law_packs", "_law_common", "_law_subsets", "_law_kernels", "_law_is_even"] : List Str)
abbrev R : PySem.W.OpenRow := PySem.W.OpenLaw.row PySem.Challenge.rw_ownfears_k23_whole_kernels
abbrev hk : PySem.W.Hook := He.hookD 4 fa fn
def ob (s : PySem.W.SharedT) : He.AlD := He.obsDG 4 fa fn (HandSHeadRun.getT s)
theorem ob_eq (s : PySem.W.SharedT) : ob s = hk.obs s.abs := He.obsDG_eq (HandSHeadRun.getT_eq s)
theorem run (w : World) : HandSHeadRun.RunEq R (PySem.W.view R.prog [51]) hk ob 4000 loose w := by
  intro os
  kernel_rfl
def B : List Str := ["len", "all", "any", "tuple", "list", "set", "sorted", "int", "repr", "range", "enumerate", "zip", "isinstance", "str", "sum", "bool", "min", "max"]
def C : List (Str × Key) := [("LETTERS", .inr "abcdefghijklmnopqrstuvwxyz")]
/-! lies_in -/
def n_lies_in : List Str := ["lot", "other", "name"]
def c_lies_in : List Cl := []
def b_lies_in : Sms :=
  (.cons (.ret (.fn .all (.lc [2] (.cmp .isin (.var 2) (.var 1)) (.nm 2) (.src (.var 0)) (.nil))))
  .nil)
def d_lies_in : Fd := ⟨["lot", "other"], [false, false], [], runD (tbOf c_lies_in) [] n_lies_in.length [false, false] b_lies_in⟩
def k_lies_in : Cl := ⟨"lies_in", d_lies_in, [(2, [])]⟩
theorem m_lies_in : mB ⟨n_lies_in, sgOf c_lies_in, shOf c_lies_in, B, C⟩ (defScope (top 5)) (ioIx [false, false]) b_lies_in (defBody (top 5)) = true := by kernel_rfl
theorem s_lies_in : scB n_lies_in ["lot", "other"] (defScope (top 5)) = true := by kernel_rfl
/-! common_of -/
def n_common_of : List Str := ["lot", "other", "name"]
def c_common_of : List Cl := []
def b_common_of : Sms :=
  (.cons (.ret (.fn .tuple (.lc [2] (.var 2) (.nm 2) (.src (.var 0)) (.cons (.cmp .isin (.var 2) (.var 1)) (.nil)))))
  .nil)
def d_common_of : Fd := ⟨["lot", "other"], [false, false], [], runD (tbOf c_common_of) [] n_common_of.length [false, false] b_common_of⟩
def k_common_of : Cl := ⟨"common_of", d_common_of, [(2, [])]⟩
theorem m_common_of : mB ⟨n_common_of, sgOf c_common_of, shOf c_common_of, B, C⟩ (defScope (top 6)) (ioIx [false, false]) b_common_of (defBody (top 6)) = true := by kernel_rfl
theorem s_common_of : scB n_common_of ["lot", "other"] (defScope (top 6)) = true := by kernel_rfl
/-! is_name -/
def n_is_name : List Str := ["thing", "sign"]
def c_is_name : List Cl := []
def b_is_name : Sms :=
  (.cons (.ret (.and (.cons (.inst (.var 0) .str) (.cons (.chn .le .le (.cst (.int 1)) (.fn .len (.var 0)) (.cst (.int 8))) (.cons (.fn .all (.lc [1] (.cmp .isin (.var 1) (.glb "LETTERS" (.inr "abcdefghijklmnopqrstuvwxyz"))) (.nm 1) (.src (.var 0)) (.nil))) (.nil))))))
  .nil)
def d_is_name : Fd := ⟨["thing"], [false], [], runD (tbOf c_is_name) [] n_is_name.length [false] b_is_name⟩
def k_is_name : Cl := ⟨"is_name", d_is_name, [(1, [])]⟩
theorem m_is_name : mB ⟨n_is_name, sgOf c_is_name, shOf c_is_name, B, C⟩ (defScope (top 9)) (ioIx [false]) b_is_name (defBody (top 9)) = true := by kernel_rfl
theorem s_is_name : scB n_is_name ["thing"] (defScope (top 9)) = true := by kernel_rfl
/-! is_pair -/
def n_is_pair : List Str := ["thing"]
def c_is_pair : List Cl := []
def b_is_pair : Sms :=
  (.cons (.ret (.and (.cons (.inst (.var 0) .tuple) (.cons (.cmp .eq (.fn .len (.var 0)) (.cst (.int 2))) (.nil)))))
  .nil)
def d_is_pair : Fd := ⟨["thing"], [false], [], runD (tbOf c_is_pair) [] n_is_pair.length [false] b_is_pair⟩
def k_is_pair : Cl := ⟨"is_pair", d_is_pair, [(1, [])]⟩
theorem m_is_pair : mB ⟨n_is_pair, sgOf c_is_pair, shOf c_is_pair, B, C⟩ (defScope (top 10)) (ioIx [false]) b_is_pair (defBody (top 10)) = true := by kernel_rfl
theorem s_is_pair : scB n_is_pair ["thing"] (defScope (top 10)) = true := by kernel_rfl
/-! is_name_set -/
def n_is_name_set : List Str := ["thing", "one", "other"]
def c_is_name_set : List Cl := [k_is_name]
def b_is_name_set : Sms :=
  (.cons (.iff (.or (.cons (.not (.inst (.var 0) .tuple)) (.cons (.not (.fn .all (.lc [1] (.call "is_name" (.cons (.var 1) (.nil)) [] (.nil)) (.nm 1) (.src (.var 0)) (.nil)))) (.nil))))
  (.cons (.ret (.cst (.bool false)))
  .nil)
  .nil)
  (.cons (.ret (.fn .all (.lc [1, 2] (.cmp .lt (.var 1) (.var 2)) (.tp [1, 2]) (.zip (.var 0) (.slc (.var 0) (.cst (.int 1)) (.cst .none))) (.nil))))
  .nil))
def d_is_name_set : Fd := ⟨["thing"], [false], [], runD (tbOf c_is_name_set) [] n_is_name_set.length [false] b_is_name_set⟩
def k_is_name_set : Cl := ⟨"is_name_set", d_is_name_set, [(1, [])]⟩
theorem m_is_name_set : mB ⟨n_is_name_set, sgOf c_is_name_set, shOf c_is_name_set, B, C⟩ (defScope (top 11)) (ioIx [false]) b_is_name_set (defBody (top 11)) = true := by kernel_rfl
theorem s_is_name_set : scB n_is_name_set ["thing"] (defScope (top 11)) = true := by kernel_rfl
/-! is_lot_of -/
def n_is_lot_of : List Str := ["houses", "thing"]
def c_is_lot_of : List Cl := [k_is_name_set, k_lies_in]
def b_is_lot_of : Sms :=
  (.cons (.ret (.and (.cons (.call "is_name_set" (.cons (.var 1) (.nil)) [] (.nil)) (.cons (.call "lies_in" (.cons (.var 1) (.cons (.var 0) (.nil))) [] (.nil)) (.nil)))))
  .nil)
def d_is_lot_of : Fd := ⟨["houses", "thing"], [false, false], [], runD (tbOf c_is_lot_of) [] n_is_lot_of.length [false, false] b_is_lot_of⟩
def k_is_lot_of : Cl := ⟨"is_lot_of", d_is_lot_of, [(2, [])]⟩
theorem m_is_lot_of : mB ⟨n_is_lot_of, sgOf c_is_lot_of, shOf c_is_lot_of, B, C⟩ (defScope (top 12)) (ioIx [false, false]) b_is_lot_of (defBody (top 12)) = true := by kernel_rfl
theorem s_is_lot_of : scB n_is_lot_of ["houses", "thing"] (defScope (top 12)) = true := by kernel_rfl
/-! family_fault -/
def n_family_fault : List Str := ["houses", "thing", "one", "k", "early"]
def c_family_fault : List Cl := [k_is_lot_of, k_lies_in]
def b_family_fault : Sms :=
  (.cons (.iff (.or (.cons (.not (.inst (.var 1) .tuple)) (.cons (.cmp .eq (.fn .len (.var 1)) (.cst (.int 0))) (.cons (.not (.fn .all (.lc [2] (.inst (.var 2) .tuple) (.nm 2) (.src (.var 1)) (.nil)))) (.nil)))))
  (.cons (.ret (.tup (.cons (.cst (.str "family")) (.cons (.neg (.cst (.int 1))) (.nil)))))
  .nil)
  .nil)
  (.cons (.for (.tp [3, 2]) (.enu (.var 1))
  (.cons (.iff (.or (.cons (.not (.call "is_lot_of" (.cons (.var 0) (.cons (.var 2) (.nil))) [] (.nil))) (.cons (.and (.cons (.cmp .gt (.var 3) (.cst (.int 0))) (.cons (.not (.cmp .lt (.sub (.var 1) (.bin .sub (.var 3) (.cst (.int 1)))) (.var 2))) (.nil)))) (.nil))))
  (.cons (.ret (.tup (.cons (.cst (.str "lot")) (.cons (.var 3) (.nil)))))
  .nil)
  .nil)
  (.cons (.iff (.fn .any (.lc [4] (.or (.cons (.call "lies_in" (.cons (.var 2) (.cons (.var 4) (.nil))) [] (.nil)) (.cons (.call "lies_in" (.cons (.var 4) (.cons (.var 2) (.nil))) [] (.nil)) (.nil)))) (.nm 4) (.src (.slc (.var 1) (.cst .none) (.var 3))) (.nil)))
  (.cons (.ret (.tup (.cons (.cst (.str "within")) (.cons (.var 3) (.nil)))))
  .nil)
  .nil)
  .nil)))
  (.cons (.ret (.cst .none))
  .nil)))
def d_family_fault : Fd := ⟨["houses", "thing"], [false, false], [], runD (tbOf c_family_fault) [] n_family_fault.length [false, false] b_family_fault⟩
def k_family_fault : Cl := ⟨"family_fault", d_family_fault, [(2, [])]⟩
theorem m_family_fault : mB ⟨n_family_fault, sgOf c_family_fault, shOf c_family_fault, B, C⟩ (defScope (top 13)) (ioIx [false, false]) b_family_fault (defBody (top 13)) = true := by kernel_rfl
theorem s_family_fault : scB n_family_fault ["houses", "thing"] (defScope (top 13)) = true := by kernel_rfl
/-! houses_fault -/
def n_houses_fault : List Str := ["thing", "k", "one"]
def c_houses_fault : List Cl := [k_is_name]
def b_houses_fault : Sms :=
  (.cons (.for (.tp [1, 2]) (.enu (.var 0))
  (.cons (.iff (.or (.cons (.not (.call "is_name" (.cons (.var 2) (.nil)) [] (.nil))) (.cons (.and (.cons (.cmp .gt (.var 1) (.cst (.int 0))) (.cons (.not (.cmp .lt (.sub (.var 0) (.bin .sub (.var 1) (.cst (.int 1)))) (.var 2))) (.nil)))) (.nil))))
  (.cons (.ret (.tup (.cons (.cst (.str "house")) (.cons (.var 1) (.nil)))))
  .nil)
  .nil)
  .nil))
  (.cons (.ret (.cst .none))
  .nil))
def d_houses_fault : Fd := ⟨["thing"], [false], [], runD (tbOf c_houses_fault) [] n_houses_fault.length [false] b_houses_fault⟩
def k_houses_fault : Cl := ⟨"houses_fault", d_houses_fault, [(1, [])]⟩
theorem m_houses_fault : mB ⟨n_houses_fault, sgOf c_houses_fault, shOf c_houses_fault, B, C⟩ (defScope (top 14)) (ioIx [false]) b_houses_fault (defBody (top 14)) = true := by kernel_rfl
theorem s_houses_fault : scB n_houses_fault ["thing"] (defScope (top 14)) = true := by kernel_rfl
/-! net_fault -/
def n_net_fault : List Str := ["thing", "fault", "h", "family"]
def c_net_fault : List Cl := [k_is_pair, k_houses_fault, k_family_fault]
def b_net_fault : Sms :=
  (.cons (.iff (.or (.cons (.not (.call "is_pair" (.cons (.var 0) (.nil)) [] (.nil))) (.cons (.not (.inst (.sub (.var 0) (.cst (.int 0))) .tuple)) (.cons (.not (.inst (.sub (.var 0) (.cst (.int 1))) .tuple)) (.nil)))))
  (.cons (.ret (.tup (.cons (.cst (.str "shape")) (.cons (.neg (.cst (.int 1))) (.nil)))))
  .nil)
  .nil)
  (.cons (.iff (.or (.cons (.cmp .eq (.fn .len (.sub (.var 0) (.cst (.int 0)))) (.cst (.int 0))) (.cons (.cmp .ne (.fn .len (.sub (.var 0) (.cst (.int 0)))) (.fn .len (.sub (.var 0) (.cst (.int 1))))) (.nil))))
  (.cons (.ret (.tup (.cons (.cst (.str "shape")) (.cons (.neg (.cst (.int 1))) (.nil)))))
  .nil)
  .nil)
  (.cons (.asg 1 (.call "houses_fault" (.cons (.sub (.var 0) (.cst (.int 0))) (.nil)) [] (.nil)))
  (.cons (.iff (.cmp .isnn (.var 1) (.cst .none))
  (.cons (.ret (.var 1))
  .nil)
  .nil)
  (.cons (.for (.tp [2, 3]) (.enu (.sub (.var 0) (.cst (.int 1))))
  (.cons (.asg 1 (.call "family_fault" (.cons (.sub (.var 0) (.cst (.int 0))) (.cons (.var 3) (.nil))) [] (.nil)))
  (.cons (.iff (.cmp .isnn (.var 1) (.cst .none))
  (.cons (.ret (.tup (.cons (.sub (.var 1) (.cst (.int 0))) (.cons (.ite (.cmp .eq (.sub (.var 1) (.cst (.int 0))) (.cst (.str "family"))) (.var 2) (.tup (.cons (.var 2) (.cons (.sub (.var 1) (.cst (.int 1))) (.nil))))) (.nil)))))
  .nil)
  .nil)
  .nil)))
  (.cons (.ret (.cst .none))
  .nil))))))
def d_net_fault : Fd := ⟨["thing"], [false], [], runD (tbOf c_net_fault) [] n_net_fault.length [false] b_net_fault⟩
def k_net_fault : Cl := ⟨"net_fault", d_net_fault, [(1, [])]⟩
theorem m_net_fault : mB ⟨n_net_fault, sgOf c_net_fault, shOf c_net_fault, B, C⟩ (defScope (top 15)) (ioIx [false]) b_net_fault (defBody (top 15)) = true := by kernel_rfl
theorem s_net_fault : scB n_net_fault ["thing"] (defScope (top 15)) = true := by kernel_rfl
/-! is_net -/
def n_is_net : List Str := ["thing"]
def c_is_net : List Cl := [k_net_fault]
def b_is_net : Sms :=
  (.cons (.ret (.cmp .isn (.call "net_fault" (.cons (.var 0) (.nil)) [] (.nil)) (.cst .none)))
  .nil)
def d_is_net : Fd := ⟨["thing"], [false], [], runD (tbOf c_is_net) [] n_is_net.length [false] b_is_net⟩
def k_is_net : Cl := ⟨"is_net", d_is_net, [(1, [])]⟩
theorem m_is_net : mB ⟨n_is_net, sgOf c_is_net, shOf c_is_net, B, C⟩ (defScope (top 16)) (ioIx [false]) b_is_net (defBody (top 16)) = true := by kernel_rfl
theorem s_is_net : scB n_is_net ["thing"] (defScope (top 16)) = true := by kernel_rfl
/-! is_house -/
def n_is_house : List Str := ["net", "thing"]
def c_is_house : List Cl := []
def b_is_house : Sms :=
  (.cons (.ret (.and (.cons (.inst (.var 1) .str) (.cons (.cmp .isin (.var 1) (.sub (.var 0) (.cst (.int 0)))) (.nil)))))
  .nil)
def d_is_house : Fd := ⟨["net", "thing"], [false, false], [], runD (tbOf c_is_house) [] n_is_house.length [false, false] b_is_house⟩
def k_is_house : Cl := ⟨"is_house", d_is_house, [(2, [])]⟩
theorem m_is_house : mB ⟨n_is_house, sgOf c_is_house, shOf c_is_house, B, C⟩ (defScope (top 17)) (ioIx [false, false]) b_is_house (defBody (top 17)) = true := by kernel_rfl
theorem s_is_house : scB n_is_house ["net", "thing"] (defScope (top 17)) = true := by kernel_rfl
/-! want -/
def n_want : List Str := ["is_right", "name", "place"]
def c_want : List Cl := []
def b_want : Sms :=
  (.cons (.iff (.not (.var 0))
  (.cons .nev
  .nil)
  .nil)
  .nil)
def d_want : Fd := ⟨["is_right", "name", "place"], [false, false, false], [.int (-1)], runD (tbOf c_want) [] n_want.length [false, false, false] b_want⟩
def k_want : Cl := ⟨"want", d_want, [(2, [])]⟩
theorem m_want : mB ⟨n_want, sgOf c_want, shOf c_want, B, C⟩ (defScope (top 19)) (ioIx [false, false, false]) b_want (defBody (top 19)) = true := by kernel_rfl
theorem s_want : scB n_want ["is_right", "name", "place"] (defScope (top 19)) = true := by kernel_rfl
/-! want_net -/
def n_want_net : List Str := ["net"]
def c_want_net : List Cl := [k_want, k_is_net]
def b_want_net : Sms :=
  (.cons (.exp (.call "want" (.cons (.call "is_net" (.cons (.var 0) (.nil)) [] (.nil)) (.cons (.cst (.str "net")) (.nil))) [] (.nil)))
  .nil)
def d_want_net : Fd := ⟨["net"], [false], [], runD (tbOf c_want_net) [] n_want_net.length [false] b_want_net⟩
def k_want_net : Cl := ⟨"want_net", d_want_net, [(1, [])]⟩
theorem m_want_net : mB ⟨n_want_net, sgOf c_want_net, shOf c_want_net, B, C⟩ (defScope (top 20)) (ioIx [false]) b_want_net (defBody (top 20)) = true := by kernel_rfl
theorem s_want_net : scB n_want_net ["net"] (defScope (top 20)) = true := by kernel_rfl
/-! want_house -/
def n_want_house : List Str := ["net", "house", "name"]
def c_want_house : List Cl := [k_want, k_is_house]
def b_want_house : Sms :=
  (.cons (.exp (.call "want" (.cons (.call "is_house" (.cons (.var 0) (.cons (.var 1) (.nil))) [] (.nil)) (.cons (.var 2) (.nil))) [] (.nil)))
  .nil)
def d_want_house : Fd := ⟨["net", "house", "name"], [false, false, false], [.str "house"], runD (tbOf c_want_house) [] n_want_house.length [false, false, false] b_want_house⟩
def k_want_house : Cl := ⟨"want_house", d_want_house, [(2, [])]⟩
theorem m_want_house : mB ⟨n_want_house, sgOf c_want_house, shOf c_want_house, B, C⟩ (defScope (top 21)) (ioIx [false, false, false]) b_want_house (defBody (top 21)) = true := by kernel_rfl
theorem s_want_house : scB n_want_house ["net", "house", "name"] (defScope (top 21)) = true := by kernel_rfl
/-! want_lot -/
def n_want_lot : List Str := ["net", "lot", "name"]
def c_want_lot : List Cl := [k_want, k_is_lot_of]
def b_want_lot : Sms :=
  (.cons (.exp (.call "want" (.cons (.call "is_lot_of" (.cons (.sub (.var 0) (.cst (.int 0))) (.cons (.var 1) (.nil))) [] (.nil)) (.cons (.var 2) (.nil))) [] (.nil)))
  .nil)
def d_want_lot : Fd := ⟨["net", "lot", "name"], [false, false, false], [.str "lot"], runD (tbOf c_want_lot) [] n_want_lot.length [false, false, false] b_want_lot⟩
def k_want_lot : Cl := ⟨"want_lot", d_want_lot, [(2, [])]⟩
theorem m_want_lot : mB ⟨n_want_lot, sgOf c_want_lot, shOf c_want_lot, B, C⟩ (defScope (top 22)) (ioIx [false, false, false]) b_want_lot (defBody (top 22)) = true := by kernel_rfl
theorem s_want_lot : scB n_want_lot ["net", "lot", "name"] (defScope (top 22)) = true := by kernel_rfl
/-! quorums_by -/
def n_quorums_by : List Str := ["net", "quorums", "house"]
def c_quorums_by : List Cl := []
def b_quorums_by : Sms :=
  (.cons (.ret (.sub (.var 1) (.meth .index (.sub (.var 0) (.cst (.int 0))) (.cons (.var 2) (.nil)))))
  .nil)
def d_quorums_by : Fd := ⟨["net", "quorums", "house"], [false, false, false], [], runD (tbOf c_quorums_by) [] n_quorums_by.length [false, false, false] b_quorums_by⟩
def k_quorums_by : Cl := ⟨"quorums_by", d_quorums_by, [(3, [])]⟩
theorem m_quorums_by : mB ⟨n_quorums_by, sgOf c_quorums_by, shOf c_quorums_by, B, C⟩ (defScope (top 24)) (ioIx [false, false, false]) b_quorums_by (defBody (top 24)) = true := by kernel_rfl
theorem s_quorums_by : scB n_quorums_by ["net", "quorums", "house"] (defScope (top 24)) = true := by kernel_rfl
/-! quorums_fault -/
def n_quorums_fault : List Str := ["net", "thing", "h", "family", "one", "m", "fault"]
def c_quorums_fault : List Cl := [k_family_fault]
def b_quorums_fault : Sms :=
  (.cons (.iff (.or (.cons (.not (.inst (.var 1) .tuple)) (.cons (.cmp .ne (.fn .len (.var 1)) (.fn .len (.sub (.var 0) (.cst (.int 0))))) (.nil))))
  (.cons (.ret (.tup (.cons (.cst (.str "shape")) (.cons (.neg (.cst (.int 1))) (.nil)))))
  .nil)
  .nil)
  (.cons (.for (.tp [2, 3]) (.enu (.var 1))
  (.cons (.iff (.or (.cons (.not (.inst (.var 3) .tuple)) (.cons (.cmp .eq (.fn .len (.var 3)) (.cst (.int 0))) (.cons (.not (.fn .all (.lc [4] (.inst (.var 4) .tuple) (.nm 4) (.src (.var 3)) (.nil)))) (.nil)))))
  (.cons (.ret (.tup (.cons (.cst (.str "family")) (.cons (.var 2) (.nil)))))
  .nil)
  .nil)
  (.cons (.for (.nm 5) (.rng1 (.fn .len (.var 3)))
  (.cons (.asg 6 (.call "family_fault" (.cons (.sub (.var 0) (.cst (.int 0))) (.cons (.slc (.var 3) (.cst .none) (.bin .add (.var 5) (.cst (.int 1)))) (.nil))) [] (.nil)))
  (.cons (.iff (.and (.cons (.cmp .isnn (.var 6) (.cst .none)) (.cons (.cmp .eq (.sub (.var 6) (.cst (.int 0))) (.cst (.str "lot"))) (.nil))))
  (.cons (.ret (.tup (.cons (.cst (.str "lot")) (.cons (.tup (.cons (.var 2) (.cons (.var 5) (.nil)))) (.nil)))))
  .nil)
  .nil)
  (.cons (.iff (.cmp .eq (.sub (.var 3) (.var 5)) (.tup (.nil)))
  (.cons (.ret (.tup (.cons (.cst (.str "empty")) (.cons (.tup (.cons (.var 2) (.cons (.var 5) (.nil)))) (.nil)))))
  .nil)
  .nil)
  (.cons (.iff (.cmp .isnn (.var 6) (.cst .none))
  (.cons (.ret (.tup (.cons (.cst (.str "within")) (.cons (.tup (.cons (.var 2) (.cons (.var 5) (.nil)))) (.nil)))))
  .nil)
  .nil)
  .nil)))))
  .nil)))
  (.cons (.ret (.cst .none))
  .nil)))
def d_quorums_fault : Fd := ⟨["net", "thing"], [false, false], [], runD (tbOf c_quorums_fault) [] n_quorums_fault.length [false, false] b_quorums_fault⟩
def k_quorums_fault : Cl := ⟨"quorums_fault", d_quorums_fault, [(2, [])]⟩
theorem m_quorums_fault : mB ⟨n_quorums_fault, sgOf c_quorums_fault, shOf c_quorums_fault, B, C⟩ (defScope (top 25)) (ioIx [false, false]) b_quorums_fault (defBody (top 25)) = true := by kernel_rfl
theorem s_quorums_fault : scB n_quorums_fault ["net", "thing"] (defScope (top 25)) = true := by kernel_rfl
/-! are_quorums -/
def n_are_quorums : List Str := ["net", "thing"]
def c_are_quorums : List Cl := [k_want_net, k_quorums_fault]
def b_are_quorums : Sms :=
  (.cons (.exp (.call "want_net" (.cons (.var 0) (.nil)) [] (.nil)))
  (.cons (.ret (.cmp .isn (.call "quorums_fault" (.cons (.var 0) (.cons (.var 1) (.nil))) [] (.nil)) (.cst .none)))
  .nil))
def d_are_quorums : Fd := ⟨["net", "thing"], [false, false], [], runD (tbOf c_are_quorums) [] n_are_quorums.length [false, false] b_are_quorums⟩
def k_are_quorums : Cl := ⟨"are_quorums", d_are_quorums, [(2, [])]⟩
theorem m_are_quorums : mB ⟨n_are_quorums, sgOf c_are_quorums, shOf c_are_quorums, B, C⟩ (defScope (top 27)) (ioIx [false, false]) b_are_quorums (defBody (top 27)) = true := by kernel_rfl
theorem s_are_quorums : scB n_are_quorums ["net", "thing"] (defScope (top 27)) = true := by kernel_rfl
/-! want_quorums -/
def n_want_quorums : List Str := ["net", "quorums"]
def c_want_quorums : List Cl := [k_want, k_are_quorums]
def b_want_quorums : Sms :=
  (.cons (.exp (.call "want" (.cons (.call "are_quorums" (.cons (.var 0) (.cons (.var 1) (.nil))) [] (.nil)) (.cons (.cst (.str "quorums")) (.nil))) [] (.nil)))
  .nil)
def d_want_quorums : Fd := ⟨["net", "quorums"], [false, false], [], runD (tbOf c_want_quorums) [] n_want_quorums.length [false, false] b_want_quorums⟩
def k_want_quorums : Cl := ⟨"want_quorums", d_want_quorums, [(2, [])]⟩
theorem m_want_quorums : mB ⟨n_want_quorums, sgOf c_want_quorums, shOf c_want_quorums, B, C⟩ (defScope (top 28)) (ioIx [false, false]) b_want_quorums (defBody (top 28)) = true := by kernel_rfl
theorem s_want_quorums : scB n_want_quorums ["net", "quorums"] (defScope (top 28)) = true := by kernel_rfl
/-! least_of -/
def n_least_of : List Str := ["lots", "found", "one", "other"]
def c_least_of : List Cl := [k_lies_in]
def b_least_of : Sms :=
  (.cons (.asg 1 (.fn .sset (.var 0)))
  (.cons (.ret (.fn .tuple (.lc [2] (.var 2) (.nm 2) (.src (.var 1)) (.cons (.not (.fn .any (.lc [3] (.and (.cons (.cmp .ne (.var 3) (.var 2)) (.cons (.call "lies_in" (.cons (.var 3) (.cons (.var 2) (.nil))) [] (.nil)) (.nil)))) (.nm 3) (.src (.var 1)) (.nil)))) (.nil)))))
  .nil))
def d_least_of : Fd := ⟨["lots"], [false], [], runD (tbOf c_least_of) [] n_least_of.length [false] b_least_of⟩
def k_least_of : Cl := ⟨"least_of", d_least_of, [(1, [])]⟩
theorem m_least_of : mB ⟨n_least_of, sgOf c_least_of, shOf c_least_of, B, C⟩ (defScope (top 30)) (ioIx [false]) b_least_of (defBody (top 30)) = true := by kernel_rfl
theorem s_least_of : scB n_least_of ["lots"] (defScope (top 30)) = true := by kernel_rfl
/-! kernels_of -/
def n_kernels_of : List Str := ["net", "quorums", "house", "found", "quorum", "late", "lot", "one"]
def c_kernels_of : List Cl := [k_want_quorums, k_want_house, k_quorums_by, k_common_of, k_least_of]
def b_kernels_of : Sms :=
  (.cons (.exp (.call "want_quorums" (.cons (.var 0) (.cons (.var 1) (.nil))) [] (.nil)))
  (.cons (.exp (.call "want_house" (.cons (.var 0) (.cons (.var 2) (.nil))) [] (.nil)))
  (.cons (.asg 3 (.tup (.cons (.tup (.nil)) (.nil))))
  (.cons (.for (.nm 4) (.src (.call "quorums_by" (.cons (.var 0) (.cons (.var 1) (.cons (.var 2) (.nil)))) [] (.nil)))
  (.cons (.asg 5 (.lst (.nil)))
  (.cons (.for (.nm 6) (.src (.var 3))
  (.cons (.iff (.cmp .gt (.fn .len (.call "common_of" (.cons (.var 6) (.cons (.var 4) (.nil))) [] (.nil))) (.cst (.int 0)))
  (.cons (.app 5 (.var 6))
  .nil)
  (.cons (.ext 5 (.lc [7] (.fn .tuple (.fn .sorted (.lst (.star (.var 6) (.cons (.var 7) (.nil)))))) (.nm 7) (.src (.var 4)) (.nil)))
  .nil))
  .nil))
  (.cons (.asg 3 (.call "least_of" (.cons (.var 5) (.nil)) [] (.nil)))
  .nil))))
  (.cons (.ret (.var 3))
  .nil)))))
def d_kernels_of : Fd := ⟨["net", "quorums", "house"], [false, false, false], [], runD (tbOf c_kernels_of) [] n_kernels_of.length [false, false, false] b_kernels_of⟩
def k_kernels_of : Cl := ⟨"kernels_of", d_kernels_of, [(3, [])]⟩
theorem m_kernels_of : mB ⟨n_kernels_of, sgOf c_kernels_of, shOf c_kernels_of, B, C⟩ (defScope (top 31)) (ioIx [false, false, false]) b_kernels_of (defBody (top 31)) = true := by kernel_rfl
theorem s_kernels_of : scB n_kernels_of ["net", "quorums", "house"] (defScope (top 31)) = true := by kernel_rfl
/-! is_kernel -/
def n_is_kernel : List Str := ["net", "quorums", "house", "lot", "found"]
def c_is_kernel : List Cl := [k_kernels_of, k_want_lot]
def b_is_kernel : Sms :=
  (.cons (.asg 4 (.call "kernels_of" (.cons (.var 0) (.cons (.var 1) (.cons (.var 2) (.nil)))) [] (.nil)))
  (.cons (.exp (.call "want_lot" (.cons (.var 0) (.cons (.var 3) (.nil))) [] (.nil)))
  (.cons (.ret (.cmp .isin (.var 3) (.var 4)))
  .nil)))
def d_is_kernel : Fd := ⟨["net", "quorums", "house", "lot"], [false, false, false, false], [], runD (tbOf c_is_kernel) [] n_is_kernel.length [false, false, false, false] b_is_kernel⟩
def k_is_kernel : Cl := ⟨"is_kernel", d_is_kernel, [(4, [])]⟩
theorem m_is_kernel : mB ⟨n_is_kernel, sgOf c_is_kernel, shOf c_is_kernel, B, C⟩ (defScope (top 32)) (ioIx [false, false, false, false]) b_is_kernel (defBody (top 32)) = true := by kernel_rfl
theorem s_is_kernel : scB n_is_kernel ["net", "quorums", "house", "lot"] (defScope (top 32)) = true := by kernel_rfl
/-! _law_feed -/
def n__law_feed : List Str := ["script", "one"]
def c__law_feed : List Cl := []
def b__law_feed : Sms :=
  (.cons (.ret (.dct ["cells", "at", "left", "drawn"] (.cons (.lc [1] (.fn .int (.var 1)) (.nm 1) (.src (.slc (.var 0) (.cst .none) (.cst (.int 63)))) (.nil)) (.cons (.cst (.int 0)) (.cons (.cst (.int 0)) (.cons (.cst (.int 0)) (.nil)))))))
  .nil)
def d__law_feed : Fd := ⟨["script"], [false], [], runD (tbOf c__law_feed) [] n__law_feed.length [false] b__law_feed⟩
def k__law_feed : Cl := ⟨"_law_feed", d__law_feed, [(1, [])]⟩
theorem m__law_feed : mB ⟨n__law_feed, sgOf c__law_feed, shOf c__law_feed, B, C⟩ (defScope (top 34)) (ioIx [false]) b__law_feed (defBody (top 34)) = true := by kernel_rfl
theorem s__law_feed : scB n__law_feed ["script"] (defScope (top 34)) = true := by kernel_rfl
/-! _law_draw -/
def n__law_draw : List Str := ["feed", "most", "digit", "cells", "at", "cell", "mixed"]
def c__law_draw : List Cl := []
def b__law_draw : Sms :=
  (.cons (.put 0 "drawn" (.bin .add (.sub (.var 0) (.cst (.str "drawn"))) (.cst (.int 1))))
  (.cons (.iff (.cmp .gt (.sub (.var 0) (.cst (.str "left"))) (.cst (.int 0)))
  (.cons (.asg 2 (.bin .mod (.fn .int (.sub (.var 0) (.cst (.str "left")))) (.var 1)))
  (.cons (.put 0 "left" (.bin .fdiv (.sub (.var 0) (.cst (.str "left"))) (.var 1)))
  (.cons (.ret (.var 2))
  .nil)))
  .nil)
  (.cons (.asg2 3 4 (.sub (.var 0) (.cst (.str "cells"))) (.sub (.var 0) (.cst (.str "at"))))
  (.cons (.put 0 "at" (.bin .add (.var 4) (.cst (.int 1))))
  (.cons (.asg 5 (.ite (.cmp .ne (.var 3) (.lst (.nil))) (.sub (.var 3) (.bin .mod (.fn .int (.var 4)) (.fn .len (.var 3)))) (.cst (.int 68927))))
  (.cons (.iff (.and (.cons (.cmp .ge (.var 5) (.bin .pow (.cst (.int 10)) (.cst (.int 18)))) (.cons (.cmp .lt (.var 4) (.fn .len (.var 3))) (.nil))))
  (.cons (.put 0 "left" (.bin .fdiv (.var 5) (.var 1)))
  (.cons (.ret (.bin .mod (.fn .int (.var 5)) (.var 1)))
  .nil))
  .nil)
  (.cons (.asg 6 (.bin .mod (.fn .int (.bin .add (.bin .add (.bin .mod (.fn .int (.var 5)) (.cst (.int 1000001581))) (.bin .mul (.cst (.int 76441)) (.sub (.var 0) (.cst (.str "drawn"))))) (.cst (.int 569)))) (.cst (.int 2147483489))))
  (.cons (.asg 6 (.bin .mod (.fn .int (.bin .add (.bin .add (.bin .mul (.var 6) (.var 6)) (.bin .mul (.cst (.int 6111491)) (.sub (.var 0) (.cst (.str "drawn"))))) (.cst (.int 359)))) (.cst (.int 2147483323))))
  (.cons (.ret (.bin .mod (.fn .int (.bin .fdiv (.bin .mod (.fn .int (.bin .add (.bin .mul (.var 6) (.var 6)) (.bin .mul (.cst (.int 1063)) (.var 6)))) (.cst (.int 2147483249))) (.cst (.int 32)))) (.var 1)))
  .nil)))))))))
def d__law_draw : Fd := ⟨["feed", "most"], [true, false], [], runD (tbOf c__law_draw) [] n__law_draw.length [true, false] b__law_draw⟩
def k__law_draw : Cl := ⟨"_law_draw", d__law_draw, [(2, [])]⟩
theorem m__law_draw : mB ⟨n__law_draw, sgOf c__law_draw, shOf c__law_draw, B, C⟩ (defScope (top 35)) (ioIx [true, false]) b__law_draw (defBody (top 35)) = true := by kernel_rfl
theorem s__law_draw : scB n__law_draw ["feed", "most"] (defScope (top 35)) = true := by kernel_rfl
/-! _law_pick -/
def n__law_pick : List Str := ["feed", "some"]
def c__law_pick : List Cl := [k__law_draw]
def b__law_pick : Sms :=
  (.cons (.ret (.sub (.var 1) (.call "_law_draw" (.cons (.var 0) (.cons (.fn .len (.var 1)) (.nil))) [] (.nil))))
  .nil)
def d__law_pick : Fd := ⟨["feed", "some"], [true, false], [], runD (tbOf c__law_pick) [] n__law_pick.length [true, false] b__law_pick⟩
def k__law_pick : Cl := ⟨"_law_pick", d__law_pick, [(2, [])]⟩
theorem m__law_pick : mB ⟨n__law_pick, sgOf c__law_pick, shOf c__law_pick, B, C⟩ (defScope (top 36)) (ioIx [true, false]) b__law_pick (defBody (top 36)) = true := by kernel_rfl
theorem s__law_pick : scB n__law_pick ["feed", "some"] (defScope (top 36)) = true := by kernel_rfl
/-! _law_pool -/
def n__law_pool : List Str := ["feed", "some"]
def c__law_pool : List Cl := [k__law_pick]
def b__law_pool : Sms :=
  (.cons (.asg 1 (.lst (.cons (.lst (.cons (.cst (.str "a")) (.cons (.cst (.str "b")) (.cons (.cst (.str "c")) (.cons (.cst (.str "d")) (.cons (.cst (.str "e")) (.cons (.cst (.str "f")) (.cons (.cst (.str "g")) (.cons (.cst (.str "h")) (.cons (.cst (.str "i")) (.nil))))))))))) (.nil))))
  (.cons (.app 1 (.lst (.cons (.cst (.str "a")) (.cons (.cst (.str "aa")) (.cons (.cst (.str "aaa")) (.cons (.cst (.str "ab")) (.cons (.cst (.str "b")) (.cons (.cst (.str "ba")) (.cons (.cst (.str "lot")) (.cons (.cst (.str "zz")) (.cons (.cst (.str "zzzzzzzz")) (.nil))))))))))))
  (.cons (.app 1 (.lst (.cons (.cst (.str "agree")) (.cons (.cst (.str "fallen")) (.cons (.cst (.str "fell")) (.cons (.cst (.str "naive")) (.cons (.cst (.str "rest")) (.cons (.cst (.str "rose")) (.cons (.cst (.str "round")) (.cons (.cst (.str "wise")) (.cons (.cst (.str "within")) (.nil))))))))))))
  (.cons (.ret (.call "_law_pick" (.cons (.var 0) (.cons (.var 1) (.nil))) [] (.nil)))
  .nil))))
def d__law_pool : Fd := ⟨["feed"], [true], [], runD (tbOf c__law_pool) [] n__law_pool.length [true] b__law_pool⟩
def k__law_pool : Cl := ⟨"_law_pool", d__law_pool, [(1, [])]⟩
theorem m__law_pool : mB ⟨n__law_pool, sgOf c__law_pool, shOf c__law_pool, B, C⟩ (defScope (top 37)) (ioIx [true]) b__law_pool (defBody (top 37)) = true := by kernel_rfl
theorem s__law_pool : scB n__law_pool ["feed"] (defScope (top 37)) = true := by kernel_rfl
/-! _law_set -/
def n__law_set : List Str := ["names"]
def c__law_set : List Cl := []
def b__law_set : Sms :=
  (.cons (.ret (.fn .tuple (.fn .sset (.fn .list (.var 0)))))
  .nil)
def d__law_set : Fd := ⟨["names"], [false], [], runD (tbOf c__law_set) [] n__law_set.length [false] b__law_set⟩
def k__law_set : Cl := ⟨"_law_set", d__law_set, [(1, [])]⟩
theorem m__law_set : mB ⟨n__law_set, sgOf c__law_set, shOf c__law_set, B, C⟩ (defScope (top 38)) (ioIx [false]) b__law_set (defBody (top 38)) = true := by kernel_rfl
theorem s__law_set : scB n__law_set ["names"] (defScope (top 38)) = true := by kernel_rfl
/-! _law_lies -/
def n__law_lies : List Str := ["group", "other_in", "one"]
def c__law_lies : List Cl := []
def b__law_lies : Sms :=
  (.cons (.ret (.cmp .eq (.lc [2] (.var 2) (.nm 2) (.src (.var 0)) (.cons (.cmp .notin (.var 2) (.var 1)) (.nil))) (.lst (.nil))))
  .nil)
def d__law_lies : Fd := ⟨["group", "other_in"], [false, false], [], runD (tbOf c__law_lies) [] n__law_lies.length [false, false] b__law_lies⟩
def k__law_lies : Cl := ⟨"_law_lies", d__law_lies, [(2, [])]⟩
theorem m__law_lies : mB ⟨n__law_lies, sgOf c__law_lies, shOf c__law_lies, B, C⟩ (defScope (top 39)) (ioIx [false, false]) b__law_lies (defBody (top 39)) = true := by kernel_rfl
theorem s__law_lies : scB n__law_lies ["group", "other_in"] (defScope (top 39)) = true := by kernel_rfl
/-! _law_greatest -/
def n__law_greatest : List Str := ["groups", "some", "one", "far"]
def c__law_greatest : List Cl := [k__law_lies]
def b__law_greatest : Sms :=
  (.cons (.asg 1 (.fn .sset (.fn .list (.var 0))))
  (.cons (.ret (.fn .tuple (.lc [2] (.var 2) (.nm 2) (.src (.var 1)) (.cons (.cmp .eq (.lc [3] (.var 3) (.nm 3) (.src (.var 1)) (.cons (.and (.cons (.cmp .ne (.var 3) (.var 2)) (.cons (.call "_law_lies" (.cons (.var 2) (.cons (.var 3) (.nil))) [] (.nil)) (.nil)))) (.nil))) (.lst (.nil))) (.nil)))))
  .nil))
def d__law_greatest : Fd := ⟨["groups"], [false], [], runD (tbOf c__law_greatest) [] n__law_greatest.length [false] b__law_greatest⟩
def k__law_greatest : Cl := ⟨"_law_greatest", d__law_greatest, [(1, [])]⟩
theorem m__law_greatest : mB ⟨n__law_greatest, sgOf c__law_greatest, shOf c__law_greatest, B, C⟩ (defScope (top 40)) (ioIx [false]) b__law_greatest (defBody (top 40)) = true := by kernel_rfl
theorem s__law_greatest : scB n__law_greatest ["groups"] (defScope (top 40)) = true := by kernel_rfl
/-! _law_least -/
def n__law_least : List Str := ["groups", "some", "one", "far"]
def c__law_least : List Cl := [k__law_lies]
def b__law_least : Sms :=
  (.cons (.asg 1 (.fn .sset (.fn .list (.var 0))))
  (.cons (.ret (.fn .tuple (.lc [2] (.var 2) (.nm 2) (.src (.var 1)) (.cons (.cmp .eq (.lc [3] (.var 3) (.nm 3) (.src (.var 1)) (.cons (.and (.cons (.cmp .ne (.var 3) (.var 2)) (.cons (.call "_law_lies" (.cons (.var 3) (.cons (.var 2) (.nil))) [] (.nil)) (.nil)))) (.nil))) (.lst (.nil))) (.nil)))))
  .nil))
def d__law_least : Fd := ⟨["groups"], [false], [], runD (tbOf c__law_least) [] n__law_least.length [false] b__law_least⟩
def k__law_least : Cl := ⟨"_law_least", d__law_least, [(1, [])]⟩
theorem m__law_least : mB ⟨n__law_least, sgOf c__law_least, shOf c__law_least, B, C⟩ (defScope (top 41)) (ioIx [false]) b__law_least (defBody (top 41)) = true := by kernel_rfl
theorem s__law_least : scB n__law_least ["groups"] (defScope (top 41)) = true := by kernel_rfl
/-! _law_part -/
def n__law_part : List Str := ["feed", "names", "share", "one"]
def c__law_part : List Cl := [k__law_draw]
def b__law_part : Sms :=
  (.cons (.ret (.fn .tuple (.lc [3] (.var 3) (.nm 3) (.src (.var 1)) (.cons (.cmp .eq (.call "_law_draw" (.cons (.var 0) (.cons (.var 2) (.nil))) [] (.nil)) (.cst (.int 0))) (.nil)))))
  .nil)
def d__law_part : Fd := ⟨["feed", "names", "share"], [true, false, false], [], runD (tbOf c__law_part) [] n__law_part.length [true, false, false] b__law_part⟩
def k__law_part : Cl := ⟨"_law_part", d__law_part, [(3, [])]⟩
theorem m__law_part : mB ⟨n__law_part, sgOf c__law_part, shOf c__law_part, B, C⟩ (defScope (top 42)) (ioIx [true, false, false]) b__law_part (defBody (top 42)) = true := by kernel_rfl
theorem s__law_part : scB n__law_part ["feed", "names", "share"] (defScope (top 42)) = true := by kernel_rfl
/-! _law_net -/
def n__law_net : List Str := ["feed", "most", "houses", "way", "fears", "home", "rest", "one", "groups", "lap"]
def c__law_net : List Cl := [k__law_draw, k__law_pool, k__law_part, k__law_pick, k__law_greatest]
def b__law_net : Sms :=
  (.cons (.asg 2 (.fn .tuple (.slc (.call "_law_pool" (.cons (.var 0) (.nil)) [] (.nil)) (.cst .none) (.bin .add (.cst (.int 1)) (.call "_law_draw" (.cons (.var 0) (.cons (.var 1) (.nil))) [] (.nil))))))
  (.cons (.asg2 3 4 (.call "_law_draw" (.cons (.var 0) (.cons (.cst (.int 6)) (.nil))) [] (.nil)) (.lst (.nil)))
  (.cons (.for (.nm 5) (.src (.var 2))
  (.cons (.asg 6 (.lc [7] (.var 7) (.nm 7) (.src (.var 2)) (.cons (.cmp .ne (.var 7) (.var 5)) (.nil))))
  (.cons (.asg 8 (.lc [9] (.call "_law_part" (.cons (.var 0) (.cons (.var 6) (.cons (.call "_law_pick" (.cons (.var 0) (.cons (.lst (.cons (.cst (.int 2)) (.cons (.cst (.int 3)) (.cons (.cst (.int 3)) (.nil))))) (.nil))) [] (.nil)) (.nil)))) [] (.nil)) (.nm 9) (.rng1 (.bin .add (.cst (.int 1)) (.call "_law_draw" (.cons (.var 0) (.cons (.cst (.int 4)) (.nil))) [] (.nil)))) (.nil)))
  (.cons (.iff (.cmp .eq (.var 3) (.cst (.int 0)))
  (.cons (.asg 8 (.lc [7] (.tup (.cons (.var 7) (.nil))) (.nm 7) (.src (.var 2)) (.nil)))
  .nil)
  .nil)
  (.cons (.iff (.and (.cons (.cmp .eq (.var 3) (.cst (.int 1))) (.cons (.cmp .eq (.call "_law_draw" (.cons (.var 0) (.cons (.cst (.int 3)) (.nil))) [] (.nil)) (.cst (.int 0))) (.nil))))
  (.cons (.app 8 (.call "_law_part" (.cons (.var 0) (.cons (.var 2) (.cons (.cst (.int 2)) (.nil)))) [] (.nil)))
  .nil)
  .nil)
  (.cons (.app 4 (.call "_law_greatest" (.cons (.var 8) (.nil)) [] (.nil)))
  .nil))))))
  (.cons (.ret (.tup (.cons (.var 2) (.cons (.fn .tuple (.var 4)) (.nil)))))
  .nil))))
def d__law_net : Fd := ⟨["feed", "most"], [true, false], [], runD (tbOf c__law_net) [] n__law_net.length [true, false] b__law_net⟩
def k__law_net : Cl := ⟨"_law_net", d__law_net, [(2, [])]⟩
theorem m__law_net : mB ⟨n__law_net, sgOf c__law_net, shOf c__law_net, B, C⟩ (defScope (top 43)) (ioIx [true, false]) b__law_net (defBody (top 43)) = true := by kernel_rfl
theorem s__law_net : scB n__law_net ["feed", "most"] (defScope (top 43)) = true := by kernel_rfl
/-! _law_others -/
def n__law_others : List Str := ["houses", "group", "one"]
def c__law_others : List Cl := []
def b__law_others : Sms :=
  (.cons (.ret (.fn .tuple (.lc [2] (.var 2) (.nm 2) (.src (.var 0)) (.cons (.cmp .notin (.var 2) (.var 1)) (.nil)))))
  .nil)
def d__law_others : Fd := ⟨["houses", "group"], [false, false], [], runD (tbOf c__law_others) [] n__law_others.length [false, false] b__law_others⟩
def k__law_others : Cl := ⟨"_law_others", d__law_others, [(2, [])]⟩
theorem m__law_others : mB ⟨n__law_others, sgOf c__law_others, shOf c__law_others, B, C⟩ (defScope (top 45)) (ioIx [false, false]) b__law_others (defBody (top 45)) = true := by kernel_rfl
theorem s__law_others : scB n__law_others ["houses", "group"] (defScope (top 45)) = true := by kernel_rfl
/-! _law_plain -/
def n__law_plain : List Str := ["web", "found", "family", "group", "one"]
def c__law_plain : List Cl := [k__law_others]
def b__law_plain : Sms :=
  (.cons (.asg 1 (.lst (.nil)))
  (.cons (.for (.nm 2) (.src (.sub (.var 0) (.cst (.int 1))))
  (.cons (.app 1 (.fn .tuple (.fn .sset (.lc [3] (.call "_law_others" (.cons (.sub (.var 0) (.cst (.int 0))) (.cons (.var 3) (.nil))) [] (.nil)) (.nm 3) (.src (.var 2)) (.nil)))))
  .nil))
  (.cons (.ret (.ite (.cmp .ne (.lc [4] (.var 4) (.nm 4) (.src (.var 1)) (.cons (.cmp .isin (.tup (.nil)) (.var 4)) (.nil))) (.lst (.nil))) (.cst .none) (.fn .tuple (.var 1))))
  .nil)))
def d__law_plain : Fd := ⟨["web"], [false], [], runD (tbOf c__law_plain) [] n__law_plain.length [false] b__law_plain⟩
def k__law_plain : Cl := ⟨"_law_plain", d__law_plain, [(1, [])]⟩
theorem m__law_plain : mB ⟨n__law_plain, sgOf c__law_plain, shOf c__law_plain, B, C⟩ (defScope (top 44)) (ioIx [false]) b__law_plain (defBody (top 44)) = true := by kernel_rfl
theorem s__law_plain : scB n__law_plain ["web"] (defScope (top 44)) = true := by kernel_rfl
/-! _law_packs -/
def n__law_packs : List Str := ["feed", "web", "found", "plain", "way", "k", "some", "lap", "one"]
def c__law_packs : List Cl := [k__law_plain, k__law_draw, k__law_part, k__law_set, k__law_pick, k__law_least]
def b__law_packs : Sms :=
  (.cons (.asg3 2 3 4 (.lst (.nil)) (.call "_law_plain" (.cons (.var 1) (.nil)) [] (.nil)) (.call "_law_draw" (.cons (.var 0) (.cons (.cst (.int 4)) (.nil))) [] (.nil)))
  (.cons (.for (.nm 5) (.rng1 (.fn .len (.sub (.var 1) (.cst (.int 0)))))
  (.cons (.asg 6 (.lc [7] (.call "_law_part" (.cons (.var 0) (.cons (.sub (.var 1) (.cst (.int 0))) (.cons (.cst (.int 2)) (.nil)))) [] (.nil)) (.nm 7) (.rng1 (.bin .add (.cst (.int 1)) (.call "_law_draw" (.cons (.var 0) (.cons (.cst (.int 3)) (.nil))) [] (.nil)))) (.nil)))
  (.cons (.asg 6 (.lc [8] (.ite (.cmp .ne (.var 8) (.tup (.nil))) (.var 8) (.tup (.cons (.sub (.sub (.var 1) (.cst (.int 0))) (.var 5)) (.nil)))) (.nm 8) (.src (.var 6)) (.nil)))
  (.cons (.iff (.and (.cons (.cmp .isnn (.var 3) (.cst .none)) (.cons (.or (.cons (.cmp .lt (.var 4) (.cst (.int 2))) (.cons (.cmp .gt (.call "_law_draw" (.cons (.var 0) (.cons (.cst (.int 3)) (.nil))) [] (.nil)) (.cst (.int 0))) (.nil)))) (.nil))))
  (.cons (.asg 6 (.fn .list (.sub (.var 3) (.var 5))))
  (.cons (.iff (.and (.cons (.cmp .eq (.var 4) (.cst (.int 1))) (.cons (.cmp .eq (.call "_law_draw" (.cons (.var 0) (.cons (.cst (.int 3)) (.nil))) [] (.nil)) (.cst (.int 0))) (.nil))))
  (.cons (.asg 6 (.lc [8] (.call "_law_set" (.cons (.bin .add (.var 8) (.tup (.cons (.call "_law_pick" (.cons (.var 0) (.cons (.sub (.var 1) (.cst (.int 0))) (.nil))) [] (.nil)) (.nil)))) (.nil)) [] (.nil)) (.nm 8) (.src (.var 6)) (.nil)))
  .nil)
  .nil)
  .nil))
  .nil)
  (.cons (.app 2 (.call "_law_least" (.cons (.var 6) (.nil)) [] (.nil)))
  .nil)))))
  (.cons (.ret (.fn .tuple (.var 2)))
  .nil)))
def d__law_packs : Fd := ⟨["feed", "web"], [true, false], [], runD (tbOf c__law_packs) [] n__law_packs.length [true, false] b__law_packs⟩
def k__law_packs : Cl := ⟨"_law_packs", d__law_packs, [(2, [])]⟩
theorem m__law_packs : mB ⟨n__law_packs, sgOf c__law_packs, shOf c__law_packs, B, C⟩ (defScope (top 46)) (ioIx [true, false]) b__law_packs (defBody (top 46)) = true := by kernel_rfl
theorem s__law_packs : scB n__law_packs ["feed", "web"] (defScope (top 46)) = true := by kernel_rfl
/-! _law_common -/
def n__law_common : List Str := ["first", "second", "one"]
def c__law_common : List Cl := []
def b__law_common : Sms :=
  (.cons (.ret (.fn .tuple (.lc [2] (.var 2) (.nm 2) (.src (.var 0)) (.cons (.cmp .isin (.var 2) (.var 1)) (.nil)))))
  .nil)
def d__law_common : Fd := ⟨["first", "second"], [false, false], [], runD (tbOf c__law_common) [] n__law_common.length [false, false] b__law_common⟩
def k__law_common : Cl := ⟨"_law_common", d__law_common, [(2, [])]⟩
theorem m__law_common : mB ⟨n__law_common, sgOf c__law_common, shOf c__law_common, B, C⟩ (defScope (top 47)) (ioIx [false, false]) b__law_common (defBody (top 47)) = true := by kernel_rfl
theorem s__law_common : scB n__law_common ["first", "second"] (defScope (top 47)) = true := by kernel_rfl
/-! _law_subsets -/
def n__law_subsets : List Str := ["names", "found", "one", "some", "rows", "size"]
def c__law_subsets : List Cl := []
def b__law_subsets : Sms :=
  (.cons (.asg 1 (.lst (.cons (.tup (.nil)) (.nil))))
  (.cons (.for (.nm 2) (.src (.var 0))
  (.cons (.asg 1 (.bin .add (.var 1) (.lc [3] (.bin .add (.var 3) (.tup (.cons (.var 2) (.nil)))) (.nm 3) (.src (.var 1)) (.nil))))
  .nil))
  (.cons (.asg 4 (.lst (.nil)))
  (.cons (.for (.nm 5) (.rng1 (.bin .add (.fn .len (.var 0)) (.cst (.int 1))))
  (.cons (.asg 4 (.bin .add (.var 4) (.fn .sset (.lc [3] (.var 3) (.nm 3) (.src (.var 1)) (.cons (.cmp .eq (.fn .len (.var 3)) (.var 5)) (.nil))))))
  .nil))
  (.cons (.ret (.var 4))
  .nil)))))
def d__law_subsets : Fd := ⟨["names"], [false], [], runD (tbOf c__law_subsets) [] n__law_subsets.length [false] b__law_subsets⟩
def k__law_subsets : Cl := ⟨"_law_subsets", d__law_subsets, [(1, [])]⟩
theorem m__law_subsets : mB ⟨n__law_subsets, sgOf c__law_subsets, shOf c__law_subsets, B, C⟩ (defScope (top 48)) (ioIx [false]) b__law_subsets (defBody (top 48)) = true := by kernel_rfl
theorem s__law_subsets : scB n__law_subsets ["names"] (defScope (top 48)) = true := by kernel_rfl
/-! _law_kernels -/
def n__law_kernels : List Str := ["houses", "family", "found", "some", "one", "pack"]
def c__law_kernels : List Cl := [k__law_subsets, k__law_lies, k__law_common]
def b__law_kernels : Sms :=
  (.cons (.asg 2 (.lst (.nil)))
  (.cons (.for (.nm 3) (.src (.call "_law_subsets" (.cons (.var 0) (.nil)) [] (.nil)))
  (.cons (.iff (.cmp .eq (.lcO 2 [4] (.var 4) (.nm 4) (.cons (.call "_law_lies" (.cons (.var 4) (.cons (.var 3) (.nil))) [] (.nil)) (.nil))) (.lst (.nil)))
  (.cons (.iff (.cmp .eq (.lc [5] (.var 5) (.nm 5) (.src (.var 1)) (.cons (.cmp .eq (.call "_law_common" (.cons (.var 5) (.cons (.var 3) (.nil))) [] (.nil)) (.tup (.nil))) (.nil))) (.lst (.nil)))
  (.cons (.app 2 (.var 3))
  .nil)
  .nil)
  .nil)
  .nil)
  .nil))
  (.cons (.ret (.fn .tuple (.fn .sset (.var 2))))
  .nil)))
def d__law_kernels : Fd := ⟨["houses", "family"], [false, false], [], runD (tbOf c__law_kernels) [] n__law_kernels.length [false, false] b__law_kernels⟩
def k__law_kernels : Cl := ⟨"_law_kernels", d__law_kernels, [(2, [])]⟩
theorem m__law_kernels : mB ⟨n__law_kernels, sgOf c__law_kernels, shOf c__law_kernels, B, C⟩ (defScope (top 49)) (ioIx [false, false]) b__law_kernels (defBody (top 49)) = true := by kernel_rfl
theorem s__law_kernels : scB n__law_kernels ["houses", "family"] (defScope (top 49)) = true := by kernel_rfl
/-! _law_is_even -/
def n__law_is_even : List Str := ["web", "packs", "k", "due", "told", "some", "meets", "pack", "one", "holds"]
def c__law_is_even : List Cl := [k__law_kernels, k_kernels_of, k__law_subsets, k_is_kernel, k__law_common, k__law_lies]
def b__law_is_even : Sms :=
  (.cons (.asg 3 (.call "_law_kernels" (.cons (.sub (.var 0) (.cst (.int 0))) (.cons (.sub (.var 1) (.var 2)) (.nil))) [] (.nil)))
  (.cons (.asg 4 (.call "kernels_of" (.cons (.var 0) (.cons (.var 1) (.cons (.sub (.sub (.var 0) (.cst (.int 0))) (.var 2)) (.nil)))) [] (.nil)))
  (.cons (.iff (.cmp .ne (.fn .repr (.var 4)) (.fn .repr (.var 3)))
  (.cons (.ret (.cst (.bool false)))
  .nil)
  .nil)
  (.cons (.for (.nm 5) (.src (.call "_law_subsets" (.cons (.sub (.var 0) (.cst (.int 0))) (.nil)) [] (.nil)))
  (.cons (.iff (.cmp .ne (.fn .repr (.call "is_kernel" (.cons (.var 0) (.cons (.var 1) (.cons (.sub (.sub (.var 0) (.cst (.int 0))) (.var 2)) (.cons (.var 5) (.nil))))) [] (.nil))) (.fn .repr (.cmp .isin (.var 5) (.var 3))))
  (.cons (.ret (.cst (.bool false)))
  .nil)
  .nil)
  (.cons (.asg 6 (.cmp .eq (.lc [7] (.var 7) (.nm 7) (.src (.sub (.var 1) (.var 2))) (.cons (.cmp .eq (.call "_law_common" (.cons (.var 7) (.cons (.var 5) (.nil))) [] (.nil)) (.tup (.nil))) (.nil))) (.lst (.nil))))
  (.cons (.iff (.cmp .ne (.var 6) (.cmp .ne (.lc [8] (.var 8) (.nm 8) (.src (.var 4)) (.cons (.call "_law_lies" (.cons (.var 8) (.cons (.var 5) (.nil))) [] (.nil)) (.nil))) (.lst (.nil))))
  (.cons (.ret (.cst (.bool false)))
  .nil)
  .nil)
  (.cons (.asg 9 (.cmp .ne (.lc [7] (.var 7) (.nm 7) (.src (.sub (.var 1) (.var 2))) (.cons (.call "_law_lies" (.cons (.var 7) (.cons (.var 5) (.nil))) [] (.nil)) (.nil))) (.lst (.nil))))
  (.cons (.iff (.cmp .ne (.var 9) (.cmp .eq (.lc [8] (.var 8) (.nm 8) (.src (.var 4)) (.cons (.cmp .eq (.call "_law_common" (.cons (.var 8) (.cons (.var 5) (.nil))) [] (.nil)) (.tup (.nil))) (.nil))) (.lst (.nil))))
  (.cons (.ret (.cst (.bool false)))
  .nil)
  .nil)
  .nil))))))
  (.cons (.ret (.cst (.bool true)))
  .nil)))))
def d__law_is_even : Fd := ⟨["web", "packs", "k"], [false, false, false], [], runD (tbOf c__law_is_even) [] n__law_is_even.length [false, false, false] b__law_is_even⟩
def k__law_is_even : Cl := ⟨"_law_is_even", d__law_is_even, [(3, [])]⟩
theorem m__law_is_even : mB ⟨n__law_is_even, sgOf c__law_is_even, shOf c__law_is_even, B, C⟩ (defScope (top 50)) (ioIx [false, false, false]) b__law_is_even (defBody (top 50)) = true := by kernel_rfl
theorem s__law_is_even : scB n__law_is_even ["web", "packs", "k"] (defScope (top 50)) = true := by kernel_rfl
/-! law -/
def n_law : List Str := ["script", "feed", "lap", "web", "packs", "was", "k", "late", "family"]
def c_law : List Cl := [k__law_feed, k__law_net, k__law_packs, k__law_is_even, k__law_kernels, k_kernels_of]
def b_law : Sms :=
  (.cons (.asg 1 (.call "_law_feed" (.cons (.var 0) (.nil)) [] (.nil)))
  (.cons (.for (.nm 2) (.rng1 (.cst (.int 3)))
  (.cons (.asg 3 (.call "_law_net" (.cons (.var 1) (.cons (.cst (.int 5)) (.nil))) [] (.nil)))
  (.cons (.asg 4 (.call "_law_packs" (.cons (.var 1) (.cons (.var 3) (.nil))) [] (.nil)))
  (.cons (.asg 5 (.fn .repr (.lst (.cons (.var 3) (.cons (.var 4) (.nil))))))
  (.cons (.iff (.cmp .ne (.lc [6] (.var 6) (.nm 6) (.rng1 (.fn .len (.sub (.var 3) (.cst (.int 0))))) (.cons (.not (.call "_law_is_even" (.cons (.var 3) (.cons (.var 4) (.cons (.var 6) (.nil)))) [] (.nil))) (.nil))) (.lst (.nil)))
  (.cons (.ret (.cst (.bool false)))
  .nil)
  .nil)
  (.cons (.iff (.cmp .ne (.fn .repr (.lst (.cons (.var 3) (.cons (.var 4) (.nil))))) (.var 5))
  (.cons (.ret (.cst (.bool false)))
  .nil)
  .nil)
  (.cons (.asg 7 (.fn .tuple (.lc [8] (.call "_law_kernels" (.cons (.sub (.var 3) (.cst (.int 0))) (.cons (.var 8) (.nil))) [] (.nil)) (.nm 8) (.src (.var 4)) (.nil))))
  (.cons (.for (.nm 6) (.rng1 (.fn .len (.sub (.var 3) (.cst (.int 0)))))
  (.cons (.iff (.cmp .ne (.fn .repr (.call "kernels_of" (.cons (.var 3) (.cons (.var 7) (.cons (.sub (.sub (.var 3) (.cst (.int 0))) (.var 6)) (.nil)))) [] (.nil))) (.fn .repr (.sub (.var 4) (.var 6))))
  (.cons (.ret (.cst (.bool false)))
  .nil)
  .nil)
  .nil))
  .nil))))))))
  (.cons (.ret (.cst (.bool true)))
  .nil)))
def d_law : Fd := ⟨["script"], [false], [], runD (tbOf c_law) [] n_law.length [false] b_law⟩
def k_law : Cl := ⟨"law", d_law, [(1, [])]⟩
theorem m_law : mB ⟨n_law, sgOf c_law, shOf c_law, B, C⟩ (defScope (top 51)) (ioIx [false]) b_law (defBody (top 51)) = true := by kernel_rfl
theorem s_law : scB n_law ["script"] (defScope (top 51)) = true := by kernel_rfl
section
variable {P : Program} {w : World} {K : PySem.W.Frag} {mg : Str → Option Value} {base h : Heap} (X : K.In h) (G : h.Ns mainGlobals mg) (c : He.SaysD fa fn K)
include X G c
theorem env1 : Env1 K mg B C := by
  refine ⟨fun y hy => ?_, fun y v hv => ?_⟩
  · simp only [B, List.mem_cons, List.not_mem_nil, or_false] at hy
    rcases hy with rfl | rfl | rfl | rfl | rfl | rfl | rfl | rfl | rfl | rfl | rfl | rfl | rfl | rfl | rfl | rfl | rfl | rfl
    · exact He.free_ok X G (c.fact 40 rfl)
    · exact He.free_ok X G (c.fact 41 rfl)
    · exact He.free_ok X G (c.fact 42 rfl)
    · exact He.free_ok X G (c.fact 43 rfl)
    · exact He.free_ok X G (c.fact 44 rfl)
    · exact He.free_ok X G (c.fact 45 rfl)
    · exact He.free_ok X G (c.fact 46 rfl)
    · exact He.free_ok X G (c.fact 47 rfl)
    · exact He.free_ok X G (c.fact 48 rfl)
    · exact He.free_ok X G (c.fact 49 rfl)
    · exact He.free_ok X G (c.fact 50 rfl)
    · exact He.free_ok X G (c.fact 51 rfl)
    · exact He.free_ok X G (c.fact 52 rfl)
    · exact He.free_ok X G (c.fact 53 rfl)
    · exact He.free_ok X G (c.fact 54 rfl)
    · exact He.free_ok X G (c.fact 55 rfl)
    · exact He.free_ok X G (c.fact 56 rfl)
    · exact He.free_ok X G (c.fact 57 rfl)
  · unfold C at hv
    rw [List.lookup_cons] at hv
    by_cases e : (y == ("LETTERS" : Str)) = true
    · rw [e] at hv
      cases hv
      have e := beq_iff_eq.mp e
      subst e
      obtain ⟨t, ht⟩ := He.str_ok X G (c.fact 58 rfl)
      exact ⟨_, ht, t, rfl⟩
    · rw [Bool.not_eq_true] at e
      rw [e] at hv
      cases hv
theorem ok_lies_in : Ok P w K mg base 1 k_lies_in := by
  obtain ⟨dt, D⟩ := c.def_ 0 (d := dd 5 "lies_in" []) rfl
  refine def_all (env1 X G c) D (He.glo_ok X G (c.fact 0 rfl)) s_lies_in rfl m_lies_in .nil (fun s hs => ?_)
  simp only [List.mem_cons, List.not_mem_nil, or_false] at hs
  rcases hs with rfl
  · exact bn0 D fun _ _ _ _ _ _ us ws h1 h2 => match us, ws, h1, h2 with | [_, _], [], _, _ => ⟨_, rfl, rfl⟩
theorem ok_common_of : Ok P w K mg base 1 k_common_of := by
  obtain ⟨dt, D⟩ := c.def_ 1 (d := dd 6 "common_of" []) rfl
  refine def_all (env1 X G c) D (He.glo_ok X G (c.fact 1 rfl)) s_common_of rfl m_common_of .nil (fun s hs => ?_)
  simp only [List.mem_cons, List.not_mem_nil, or_false] at hs
  rcases hs with rfl
  · exact bn0 D fun _ _ _ _ _ _ us ws h1 h2 => match us, ws, h1, h2 with | [_, _], [], _, _ => ⟨_, rfl, rfl⟩
theorem ok_is_name : Ok P w K mg base 1 k_is_name := by
  obtain ⟨dt, D⟩ := c.def_ 2 (d := dd 9 "is_name" []) rfl
  refine def_all (env1 X G c) D (He.glo_ok X G (c.fact 2 rfl)) s_is_name rfl m_is_name .nil (fun s hs => ?_)
  simp only [List.mem_cons, List.not_mem_nil, or_false] at hs
  rcases hs with rfl
  · exact bn0 D fun _ _ _ _ _ _ us ws h1 h2 => match us, ws, h1, h2 with | [_], [], _, _ => ⟨_, rfl, rfl⟩
theorem ok_is_pair : Ok P w K mg base 1 k_is_pair := by
  obtain ⟨dt, D⟩ := c.def_ 3 (d := dd 10 "is_pair" []) rfl
  refine def_all (env1 X G c) D (He.glo_ok X G (c.fact 3 rfl)) s_is_pair rfl m_is_pair .nil (fun s hs => ?_)
  simp only [List.mem_cons, List.not_mem_nil, or_false] at hs
  rcases hs with rfl
  · exact bn0 D fun _ _ _ _ _ _ us ws h1 h2 => match us, ws, h1, h2 with | [_], [], _, _ => ⟨_, rfl, rfl⟩
theorem ok_is_name_set : Ok P w K mg base 2 k_is_name_set := by
  obtain ⟨dt, D⟩ := c.def_ 4 (d := dd 11 "is_name_set" []) rfl
  refine def_all (env1 X G c) D (He.glo_ok X G (c.fact 4 rfl)) s_is_name_set rfl m_is_name_set (.cons (ok_is_name X G c) (by decide) .nil) (fun s hs => ?_)
  simp only [List.mem_cons, List.not_mem_nil, or_false] at hs
  rcases hs with rfl
  · exact bn0 D fun _ _ _ _ _ _ us ws h1 h2 => match us, ws, h1, h2 with | [_], [], _, _ => ⟨_, rfl, rfl⟩
theorem ok_is_lot_of : Ok P w K mg base 3 k_is_lot_of := by
  obtain ⟨dt, D⟩ := c.def_ 5 (d := dd 12 "is_lot_of" []) rfl
  refine def_all (env1 X G c) D (He.glo_ok X G (c.fact 5 rfl)) s_is_lot_of rfl m_is_lot_of (.cons (ok_is_name_set X G c) (by decide) (.cons (ok_lies_in X G c) (by decide) .nil)) (fun s hs => ?_)
  simp only [List.mem_cons, List.not_mem_nil, or_false] at hs
  rcases hs with rfl
  · exact bn0 D fun _ _ _ _ _ _ us ws h1 h2 => match us, ws, h1, h2 with | [_, _], [], _, _ => ⟨_, rfl, rfl⟩
theorem ok_family_fault : Ok P w K mg base 4 k_family_fault := by
  obtain ⟨dt, D⟩ := c.def_ 6 (d := dd 13 "family_fault" []) rfl
  refine def_all (env1 X G c) D (He.glo_ok X G (c.fact 6 rfl)) s_family_fault rfl m_family_fault (.cons (ok_is_lot_of X G c) (by decide) (.cons (ok_lies_in X G c) (by decide) .nil)) (fun s hs => ?_)
  simp only [List.mem_cons, List.not_mem_nil, or_false] at hs
  rcases hs with rfl
  · exact bn0 D fun _ _ _ _ _ _ us ws h1 h2 => match us, ws, h1, h2 with | [_, _], [], _, _ => ⟨_, rfl, rfl⟩
theorem ok_houses_fault : Ok P w K mg base 2 k_houses_fault := by
  obtain ⟨dt, D⟩ := c.def_ 7 (d := dd 14 "houses_fault" []) rfl
  refine def_all (env1 X G c) D (He.glo_ok X G (c.fact 7 rfl)) s_houses_fault rfl m_houses_fault (.cons (ok_is_name X G c) (by decide) .nil) (fun s hs => ?_)
  simp only [List.mem_cons, List.not_mem_nil, or_false] at hs
  rcases hs with rfl
  · exact bn0 D fun _ _ _ _ _ _ us ws h1 h2 => match us, ws, h1, h2 with | [_], [], _, _ => ⟨_, rfl, rfl⟩
theorem ok_net_fault : Ok P w K mg base 5 k_net_fault := by
  obtain ⟨dt, D⟩ := c.def_ 8 (d := dd 15 "net_fault" []) rfl
  refine def_all (env1 X G c) D (He.glo_ok X G (c.fact 8 rfl)) s_net_fault rfl m_net_fault (.cons (ok_is_pair X G c) (by decide) (.cons (ok_houses_fault X G c) (by decide) (.cons (ok_family_fault X G c) (by decide) .nil))) (fun s hs => ?_)
  simp only [List.mem_cons, List.not_mem_nil, or_false] at hs
  rcases hs with rfl
  · exact bn0 D fun _ _ _ _ _ _ us ws h1 h2 => match us, ws, h1, h2 with | [_], [], _, _ => ⟨_, rfl, rfl⟩
theorem ok_is_net : Ok P w K mg base 6 k_is_net := by
  obtain ⟨dt, D⟩ := c.def_ 9 (d := dd 16 "is_net" []) rfl
  refine def_all (env1 X G c) D (He.glo_ok X G (c.fact 9 rfl)) s_is_net rfl m_is_net (.cons (ok_net_fault X G c) (by decide) .nil) (fun s hs => ?_)
  simp only [List.mem_cons, List.not_mem_nil, or_false] at hs
  rcases hs with rfl
  · exact bn0 D fun _ _ _ _ _ _ us ws h1 h2 => match us, ws, h1, h2 with | [_], [], _, _ => ⟨_, rfl, rfl⟩
theorem ok_is_house : Ok P w K mg base 1 k_is_house := by
  obtain ⟨dt, D⟩ := c.def_ 10 (d := dd 17 "is_house" []) rfl
  refine def_all (env1 X G c) D (He.glo_ok X G (c.fact 10 rfl)) s_is_house rfl m_is_house .nil (fun s hs => ?_)
  simp only [List.mem_cons, List.not_mem_nil, or_false] at hs
  rcases hs with rfl
  · exact bn0 D fun _ _ _ _ _ _ us ws h1 h2 => match us, ws, h1, h2 with | [_, _], [], _, _ => ⟨_, rfl, rfl⟩
theorem ok_want : Ok P w K mg base 1 k_want := by
  obtain ⟨dt, D⟩ := c.def_ 11 (d := dd 19 "want" [.int (-1)]) rfl
  refine def_all (env1 X G c) D (He.glo_ok X G (c.fact 11 rfl)) s_want rfl m_want .nil (fun s hs => ?_)
  simp only [List.mem_cons, List.not_mem_nil, or_false] at hs
  rcases hs with rfl
  · exact bn1 D (by simp [He.DefD.dvs, dd]) (fun F H => (.cons (.int _) .nil)) fun _ _ _ _ _ _ _ us ws its h1 h2 h3 => match us, ws, its, h1, h2, h3 with | [_, _], [], [_], _, _, _ => ⟨_, _, rfl, rfl, rfl⟩
theorem ok_want_net : Ok P w K mg base 7 k_want_net := by
  obtain ⟨dt, D⟩ := c.def_ 12 (d := dd 20 "want_net" []) rfl
  refine def_all (env1 X G c) D (He.glo_ok X G (c.fact 12 rfl)) s_want_net rfl m_want_net (.cons (ok_want X G c) (by decide) (.cons (ok_is_net X G c) (by decide) .nil)) (fun s hs => ?_)
  simp only [List.mem_cons, List.not_mem_nil, or_false] at hs
  rcases hs with rfl
  · exact bn0 D fun _ _ _ _ _ _ us ws h1 h2 => match us, ws, h1, h2 with | [_], [], _, _ => ⟨_, rfl, rfl⟩
theorem ok_want_house : Ok P w K mg base 2 k_want_house := by
  obtain ⟨dt, D⟩ := c.def_ 13 (d := dd 21 "want_house" [.str "house"]) rfl
  refine def_all (env1 X G c) D (He.glo_ok X G (c.fact 13 rfl)) s_want_house rfl m_want_house (.cons (ok_want X G c) (by decide) (.cons (ok_is_house X G c) (by decide) .nil)) (fun s hs => ?_)
  simp only [List.mem_cons, List.not_mem_nil, or_false] at hs
  rcases hs with rfl
  · exact bn1 D (by simp [He.DefD.dvs, dd]) (fun F H => (.cons (.str _) .nil)) fun _ _ _ _ _ _ _ us ws its h1 h2 h3 => match us, ws, its, h1, h2, h3 with | [_, _], [], [_], _, _, _ => ⟨_, _, rfl, rfl, rfl⟩
theorem ok_want_lot : Ok P w K mg base 4 k_want_lot := by
  obtain ⟨dt, D⟩ := c.def_ 14 (d := dd 22 "want_lot" [.str "lot"]) rfl
  refine def_all (env1 X G c) D (He.glo_ok X G (c.fact 14 rfl)) s_want_lot rfl m_want_lot (.cons (ok_want X G c) (by decide) (.cons (ok_is_lot_of X G c) (by decide) .nil)) (fun s hs => ?_)
  simp only [List.mem_cons, List.not_mem_nil, or_false] at hs
  rcases hs with rfl
  · exact bn1 D (by simp [He.DefD.dvs, dd]) (fun F H => (.cons (.str _) .nil)) fun _ _ _ _ _ _ _ us ws its h1 h2 h3 => match us, ws, its, h1, h2, h3 with | [_, _], [], [_], _, _, _ => ⟨_, _, rfl, rfl, rfl⟩
theorem ok_quorums_by : Ok P w K mg base 1 k_quorums_by := by
  obtain ⟨dt, D⟩ := c.def_ 15 (d := dd 24 "quorums_by" []) rfl
  refine def_all (env1 X G c) D (He.glo_ok X G (c.fact 15 rfl)) s_quorums_by rfl m_quorums_by .nil (fun s hs => ?_)
  simp only [List.mem_cons, List.not_mem_nil, or_false] at hs
  rcases hs with rfl
  · exact bn0 D fun _ _ _ _ _ _ us ws h1 h2 => match us, ws, h1, h2 with | [_, _, _], [], _, _ => ⟨_, rfl, rfl⟩
theorem ok_quorums_fault : Ok P w K mg base 5 k_quorums_fault := by
  obtain ⟨dt, D⟩ := c.def_ 16 (d := dd 25 "quorums_fault" []) rfl
  refine def_all (env1 X G c) D (He.glo_ok X G (c.fact 16 rfl)) s_quorums_fault rfl m_quorums_fault (.cons (ok_family_fault X G c) (by decide) .nil) (fun s hs => ?_)
  simp only [List.mem_cons, List.not_mem_nil, or_false] at hs
  rcases hs with rfl
  · exact bn0 D fun _ _ _ _ _ _ us ws h1 h2 => match us, ws, h1, h2 with | [_, _], [], _, _ => ⟨_, rfl, rfl⟩
theorem ok_are_quorums : Ok P w K mg base 8 k_are_quorums := by
  obtain ⟨dt, D⟩ := c.def_ 17 (d := dd 27 "are_quorums" []) rfl
  refine def_all (env1 X G c) D (He.glo_ok X G (c.fact 17 rfl)) s_are_quorums rfl m_are_quorums (.cons (ok_want_net X G c) (by decide) (.cons (ok_quorums_fault X G c) (by decide) .nil)) (fun s hs => ?_)
  simp only [List.mem_cons, List.not_mem_nil, or_false] at hs
  rcases hs with rfl
  · exact bn0 D fun _ _ _ _ _ _ us ws h1 h2 => match us, ws, h1, h2 with | [_, _], [], _, _ => ⟨_, rfl, rfl⟩
theorem ok_want_quorums : Ok P w K mg base 9 k_want_quorums := by
  obtain ⟨dt, D⟩ := c.def_ 18 (d := dd 28 "want_quorums" []) rfl
  refine def_all (env1 X G c) D (He.glo_ok X G (c.fact 18 rfl)) s_want_quorums rfl m_want_quorums (.cons (ok_want X G c) (by decide) (.cons (ok_are_quorums X G c) (by decide) .nil)) (fun s hs => ?_)
  simp only [List.mem_cons, List.not_mem_nil, or_false] at hs
  rcases hs with rfl
  · exact bn0 D fun _ _ _ _ _ _ us ws h1 h2 => match us, ws, h1, h2 with | [_, _], [], _, _ => ⟨_, rfl, rfl⟩
theorem ok_least_of : Ok P w K mg base 2 k_least_of := by
  obtain ⟨dt, D⟩ := c.def_ 19 (d := dd 30 "least_of" []) rfl
  refine def_all (env1 X G c) D (He.glo_ok X G (c.fact 19 rfl)) s_least_of rfl m_least_of (.cons (ok_lies_in X G c) (by decide) .nil) (fun s hs => ?_)
  simp only [List.mem_cons, List.not_mem_nil, or_false] at hs
  rcases hs with rfl
  · exact bn0 D fun _ _ _ _ _ _ us ws h1 h2 => match us, ws, h1, h2 with | [_], [], _, _ => ⟨_, rfl, rfl⟩
theorem ok_kernels_of : Ok P w K mg base 10 k_kernels_of := by
  obtain ⟨dt, D⟩ := c.def_ 20 (d := dd 31 "kernels_of" []) rfl
  refine def_all (env1 X G c) D (He.glo_ok X G (c.fact 20 rfl)) s_kernels_of rfl m_kernels_of (.cons (ok_want_quorums X G c) (by decide) (.cons (ok_want_house X G c) (by decide) (.cons (ok_quorums_by X G c) (by decide) (.cons (ok_common_of X G c) (by decide) (.cons (ok_least_of X G c) (by decide) .nil))))) (fun s hs => ?_)
  simp only [List.mem_cons, List.not_mem_nil, or_false] at hs
  rcases hs with rfl
  · exact bn0 D fun _ _ _ _ _ _ us ws h1 h2 => match us, ws, h1, h2 with | [_, _, _], [], _, _ => ⟨_, rfl, rfl⟩
theorem ok_is_kernel : Ok P w K mg base 11 k_is_kernel := by
  obtain ⟨dt, D⟩ := c.def_ 21 (d := dd 32 "is_kernel" []) rfl
  refine def_all (env1 X G c) D (He.glo_ok X G (c.fact 21 rfl)) s_is_kernel rfl m_is_kernel (.cons (ok_kernels_of X G c) (by decide) (.cons (ok_want_lot X G c) (by decide) .nil)) (fun s hs => ?_)
  simp only [List.mem_cons, List.not_mem_nil, or_false] at hs
  rcases hs with rfl
  · exact bn0 D fun _ _ _ _ _ _ us ws h1 h2 => match us, ws, h1, h2 with | [_, _, _, _], [], _, _ => ⟨_, rfl, rfl⟩
theorem ok__law_feed : Ok P w K mg base 1 k__law_feed := by
  obtain ⟨dt, D⟩ := c.def_ 22 (d := dd 34 "_law_feed" []) rfl
  refine def_all (env1 X G c) D (He.glo_ok X G (c.fact 22 rfl)) s__law_feed rfl m__law_feed .nil (fun s hs => ?_)
  simp only [List.mem_cons, List.not_mem_nil, or_false] at hs
  rcases hs with rfl
  · exact bn0 D fun _ _ _ _ _ _ us ws h1 h2 => match us, ws, h1, h2 with | [_], [], _, _ => ⟨_, rfl, rfl⟩
theorem ok__law_draw : Ok P w K mg base 1 k__law_draw := by
  obtain ⟨dt, D⟩ := c.def_ 23 (d := dd 35 "_law_draw" []) rfl
  refine def_all (env1 X G c) D (He.glo_ok X G (c.fact 23 rfl)) s__law_draw rfl m__law_draw .nil (fun s hs => ?_)
  simp only [List.mem_cons, List.not_mem_nil, or_false] at hs
  rcases hs with rfl
  · exact bn0 D fun _ _ _ _ _ _ us ws h1 h2 => match us, ws, h1, h2 with | [_, _], [], _, _ => ⟨_, rfl, rfl⟩
theorem ok__law_pick : Ok P w K mg base 2 k__law_pick := by
  obtain ⟨dt, D⟩ := c.def_ 24 (d := dd 36 "_law_pick" []) rfl
  refine def_all (env1 X G c) D (He.glo_ok X G (c.fact 24 rfl)) s__law_pick rfl m__law_pick (.cons (ok__law_draw X G c) (by decide) .nil) (fun s hs => ?_)
  simp only [List.mem_cons, List.not_mem_nil, or_false] at hs
  rcases hs with rfl
  · exact bn0 D fun _ _ _ _ _ _ us ws h1 h2 => match us, ws, h1, h2 with | [_, _], [], _, _ => ⟨_, rfl, rfl⟩
theorem ok__law_pool : Ok P w K mg base 3 k__law_pool := by
  obtain ⟨dt, D⟩ := c.def_ 25 (d := dd 37 "_law_pool" []) rfl
  refine def_all (env1 X G c) D (He.glo_ok X G (c.fact 25 rfl)) s__law_pool rfl m__law_pool (.cons (ok__law_pick X G c) (by decide) .nil) (fun s hs => ?_)
  simp only [List.mem_cons, List.not_mem_nil, or_false] at hs
  rcases hs with rfl
  · exact bn0 D fun _ _ _ _ _ _ us ws h1 h2 => match us, ws, h1, h2 with | [_], [], _, _ => ⟨_, rfl, rfl⟩
theorem ok__law_set : Ok P w K mg base 1 k__law_set := by
  obtain ⟨dt, D⟩ := c.def_ 26 (d := dd 38 "_law_set" []) rfl
  refine def_all (env1 X G c) D (He.glo_ok X G (c.fact 26 rfl)) s__law_set rfl m__law_set .nil (fun s hs => ?_)
  simp only [List.mem_cons, List.not_mem_nil, or_false] at hs
  rcases hs with rfl
  · exact bn0 D fun _ _ _ _ _ _ us ws h1 h2 => match us, ws, h1, h2 with | [_], [], _, _ => ⟨_, rfl, rfl⟩
theorem ok__law_lies : Ok P w K mg base 1 k__law_lies := by
  obtain ⟨dt, D⟩ := c.def_ 27 (d := dd 39 "_law_lies" []) rfl
  refine def_all (env1 X G c) D (He.glo_ok X G (c.fact 27 rfl)) s__law_lies rfl m__law_lies .nil (fun s hs => ?_)
  simp only [List.mem_cons, List.not_mem_nil, or_false] at hs
  rcases hs with rfl
  · exact bn0 D fun _ _ _ _ _ _ us ws h1 h2 => match us, ws, h1, h2 with | [_, _], [], _, _ => ⟨_, rfl, rfl⟩
theorem ok__law_greatest : Ok P w K mg base 2 k__law_greatest := by
  obtain ⟨dt, D⟩ := c.def_ 28 (d := dd 40 "_law_greatest" []) rfl
  refine def_all (env1 X G c) D (He.glo_ok X G (c.fact 28 rfl)) s__law_greatest rfl m__law_greatest (.cons (ok__law_lies X G c) (by decide) .nil) (fun s hs => ?_)
  simp only [List.mem_cons, List.not_mem_nil, or_false] at hs
  rcases hs with rfl
  · exact bn0 D fun _ _ _ _ _ _ us ws h1 h2 => match us, ws, h1, h2 with | [_], [], _, _ => ⟨_, rfl, rfl⟩
theorem ok__law_least : Ok P w K mg base 2 k__law_least := by
  obtain ⟨dt, D⟩ := c.def_ 29 (d := dd 41 "_law_least" []) rfl
  refine def_all (env1 X G c) D (He.glo_ok X G (c.fact 29 rfl)) s__law_least rfl m__law_least (.cons (ok__law_lies X G c) (by decide) .nil) (fun s hs => ?_)
  simp only [List.mem_cons, List.not_mem_nil, or_false] at hs
  rcases hs with rfl
  · exact bn0 D fun _ _ _ _ _ _ us ws h1 h2 => match us, ws, h1, h2 with | [_], [], _, _ => ⟨_, rfl, rfl⟩
theorem ok__law_part : Ok P w K mg base 2 k__law_part := by
  obtain ⟨dt, D⟩ := c.def_ 30 (d := dd 42 "_law_part" []) rfl
  refine def_all (env1 X G c) D (He.glo_ok X G (c.fact 30 rfl)) s__law_part rfl m__law_part (.cons (ok__law_draw X G c) (by decide) .nil) (fun s hs => ?_)
  simp only [List.mem_cons, List.not_mem_nil, or_false] at hs
  rcases hs with rfl
  · exact bn0 D fun _ _ _ _ _ _ us ws h1 h2 => match us, ws, h1, h2 with | [_, _, _], [], _, _ => ⟨_, rfl, rfl⟩
theorem ok__law_net : Ok P w K mg base 4 k__law_net := by
  obtain ⟨dt, D⟩ := c.def_ 31 (d := dd 43 "_law_net" []) rfl
  refine def_all (env1 X G c) D (He.glo_ok X G (c.fact 31 rfl)) s__law_net rfl m__law_net (.cons (ok__law_draw X G c) (by decide) (.cons (ok__law_pool X G c) (by decide) (.cons (ok__law_part X G c) (by decide) (.cons (ok__law_pick X G c) (by decide) (.cons (ok__law_greatest X G c) (by decide) .nil))))) (fun s hs => ?_)
  simp only [List.mem_cons, List.not_mem_nil, or_false] at hs
  rcases hs with rfl
  · exact bn0 D fun _ _ _ _ _ _ us ws h1 h2 => match us, ws, h1, h2 with | [_, _], [], _, _ => ⟨_, rfl, rfl⟩
theorem ok__law_others : Ok P w K mg base 1 k__law_others := by
  obtain ⟨dt, D⟩ := c.def_ 33 (d := dd 45 "_law_others" []) rfl
  refine def_all (env1 X G c) D (He.glo_ok X G (c.fact 33 rfl)) s__law_others rfl m__law_others .nil (fun s hs => ?_)
  simp only [List.mem_cons, List.not_mem_nil, or_false] at hs
  rcases hs with rfl
  · exact bn0 D fun _ _ _ _ _ _ us ws h1 h2 => match us, ws, h1, h2 with | [_, _], [], _, _ => ⟨_, rfl, rfl⟩
theorem ok__law_plain : Ok P w K mg base 2 k__law_plain := by
  obtain ⟨dt, D⟩ := c.def_ 32 (d := dd 44 "_law_plain" []) rfl
  refine def_all (env1 X G c) D (He.glo_ok X G (c.fact 32 rfl)) s__law_plain rfl m__law_plain (.cons (ok__law_others X G c) (by decide) .nil) (fun s hs => ?_)
  simp only [List.mem_cons, List.not_mem_nil, or_false] at hs
  rcases hs with rfl
  · exact bn0 D fun _ _ _ _ _ _ us ws h1 h2 => match us, ws, h1, h2 with | [_], [], _, _ => ⟨_, rfl, rfl⟩
theorem ok__law_packs : Ok P w K mg base 3 k__law_packs := by
  obtain ⟨dt, D⟩ := c.def_ 34 (d := dd 46 "_law_packs" []) rfl
  refine def_all (env1 X G c) D (He.glo_ok X G (c.fact 34 rfl)) s__law_packs rfl m__law_packs (.cons (ok__law_plain X G c) (by decide) (.cons (ok__law_draw X G c) (by decide) (.cons (ok__law_part X G c) (by decide) (.cons (ok__law_set X G c) (by decide) (.cons (ok__law_pick X G c) (by decide) (.cons (ok__law_least X G c) (by decide) .nil)))))) (fun s hs => ?_)
  simp only [List.mem_cons, List.not_mem_nil, or_false] at hs
  rcases hs with rfl
  · exact bn0 D fun _ _ _ _ _ _ us ws h1 h2 => match us, ws, h1, h2 with | [_, _], [], _, _ => ⟨_, rfl, rfl⟩
theorem ok__law_common : Ok P w K mg base 1 k__law_common := by
  obtain ⟨dt, D⟩ := c.def_ 35 (d := dd 47 "_law_common" []) rfl
  refine def_all (env1 X G c) D (He.glo_ok X G (c.fact 35 rfl)) s__law_common rfl m__law_common .nil (fun s hs => ?_)
  simp only [List.mem_cons, List.not_mem_nil, or_false] at hs
  rcases hs with rfl
  · exact bn0 D fun _ _ _ _ _ _ us ws h1 h2 => match us, ws, h1, h2 with | [_, _], [], _, _ => ⟨_, rfl, rfl⟩
theorem ok__law_subsets : Ok P w K mg base 1 k__law_subsets := by
  obtain ⟨dt, D⟩ := c.def_ 36 (d := dd 48 "_law_subsets" []) rfl
  refine def_all (env1 X G c) D (He.glo_ok X G (c.fact 36 rfl)) s__law_subsets rfl m__law_subsets .nil (fun s hs => ?_)
  simp only [List.mem_cons, List.not_mem_nil, or_false] at hs
  rcases hs with rfl
  · exact bn0 D fun _ _ _ _ _ _ us ws h1 h2 => match us, ws, h1, h2 with | [_], [], _, _ => ⟨_, rfl, rfl⟩
theorem ok__law_kernels : Ok P w K mg base 2 k__law_kernels := by
  obtain ⟨dt, D⟩ := c.def_ 37 (d := dd 49 "_law_kernels" []) rfl
  refine def_all (env1 X G c) D (He.glo_ok X G (c.fact 37 rfl)) s__law_kernels rfl m__law_kernels (.cons (ok__law_subsets X G c) (by decide) (.cons (ok__law_lies X G c) (by decide) (.cons (ok__law_common X G c) (by decide) .nil))) (fun s hs => ?_)
  simp only [List.mem_cons, List.not_mem_nil, or_false] at hs
  rcases hs with rfl
  · exact bn0 D fun _ _ _ _ _ _ us ws h1 h2 => match us, ws, h1, h2 with | [_, _], [], _, _ => ⟨_, rfl, rfl⟩
theorem ok__law_is_even : Ok P w K mg base 12 k__law_is_even := by
  obtain ⟨dt, D⟩ := c.def_ 38 (d := dd 50 "_law_is_even" []) rfl
  refine def_all (env1 X G c) D (He.glo_ok X G (c.fact 38 rfl)) s__law_is_even rfl m__law_is_even (.cons (ok__law_kernels X G c) (by decide) (.cons (ok_kernels_of X G c) (by decide) (.cons (ok__law_subsets X G c) (by decide) (.cons (ok_is_kernel X G c) (by decide) (.cons (ok__law_common X G c) (by decide) (.cons (ok__law_lies X G c) (by decide) .nil)))))) (fun s hs => ?_)
  simp only [List.mem_cons, List.not_mem_nil, or_false] at hs
  rcases hs with rfl
  · exact bn0 D fun _ _ _ _ _ _ us ws h1 h2 => match us, ws, h1, h2 with | [_, _, _], [], _, _ => ⟨_, rfl, rfl⟩
theorem facts {f : Addr} (hfa : mg ("law" : Str) = some (.ref f)) : ∃ dt : FuncData, (∀ (s : Shared) (v : Value), BindsTo s dt ⟨[v], []⟩ [("script", v)]) ∧ ∀ base : Heap, FnG P w K mg base (CX P w) 13 "law" d_law f dt := by
  obtain ⟨dt, D⟩ := c.def_ 39 (d := dd 51 "law" []) rfl
  have e := hfa.symm.trans (He.glo_ok X G (c.fact 39 rfl))
  cases e
  have b := FunD.bindsA (ps := ["script"]) D fun _ _ _ _ _ _ us hl => match us, hl with | [_], _ => rfl
  exact ⟨dt, fun s v => b s [v] rfl, fun base => def_allG (env1 X G c) D (He.glo_ok X G (c.fact 39 rfl)) s_law rfl m_law (.cons (ok__law_feed X G c) (by decide) (.cons (ok__law_net X G c) (by decide) (.cons (ok__law_packs X G c) (by decide) (.cons (ok__law_is_even X G c) (by decide) (.cons (ok__law_kernels X G c) (by decide) (.cons (ok_kernels_of X G c) (by decide) .nil))))))⟩
end
end HeadT

set_option maxRecDepth 100000
namespace HeadT
open PySem Qv
theorem okS_sub {H a : Lot} (h : okS H) (hs : a.Sublist H) : okS a := fun x hx => h x (hs.subset hx)
theorem okF_lots {H : Lot} {f : Fam} (h : okS H) (L : LotsOf H f) : okF f := fun a ha => okS_sub h (L.sub a ha)
theorem items_S (o : Lot) : itemsD (Vl.x (.d (eS o))) = .ok (o.map .str) := rfl
theorem r_lies_in {l o : Lot} (hl : l.length ≤ lim) (h1 : okS l) (h2 : okS o) : d_lies_in.run [.d (eS l), .d (eS o)] = .ok (.d (.bool (liesIn l o)), []) :=
  run_ret rfl rfl (ev_fnE rfl (ev_lcM l .str (fun n => .bool (o.contains n)) (evI_src (ev_var rfl) (items_S l)) hl fun y hy => ⟨_, ev_cmp (ox_var rfl rfl) (ox_var rfl rfl) (e_in (h1 y hy) h2), rfl⟩) (all_map l _)) rfl
theorem r_common_of {l o : Lot} (hl : l.length ≤ lim) (h1 : okS l) (h2 : okS o) : d_common_of.run [.d (eS l), .d (eS o)] = .ok (.d (eS (commonOf l o)), []) :=
  run_ret rfl rfl (ev_fnE (z := eS (commonOf l o)) rfl (ev_lcF (i := 2) (e0 := [some (.d (eS l)), some (.d (eS o)), none]) l .str (fun n => o.contains n) (evI_src (ev_var rfl) (items_S l)) hl (show 2 < 3 by decide) fun y hy => ev_cmp (ox_var rfl rfl) (ox_var rfl rfl) (e_in (h1 y hy) h2)) rfl) rfl
theorem gt0 (n : Nat) : cmpD .gt (.int n) (.int 0) = .ok (decide (0 < n)) := by
  show Except.ok (decide ((0 : Int) < n)) = _
  congr 1
  exact decide_eq_decide.mpr (by omega)
def ltS (x y : Str) : Bool := decide (x.cps.toList < y.cps.toList)
theorem ev_ins {T : Tb} {a : Ex} {t : Ty} {env e1 : Evn} {r : Vl} {b : Bool} (h : ev T a env = .ok (r, e1)) (hb : instD t r.x = b) : ev T (.inst a t) env = .ok (.d (.bool b), e1) := hb ▸ ev_inst h
theorem cons_at {α : Type} (enc : α → PyData) (l : List α) (k : Nat) (h : k < l.length) : subD (.tuple (l.map enc)) (.int k) = .ok (enc l[k]) := by
  show optR ((idxD (l.map enc).length k).bind fun k => (l.map enc)[k]?) = _
  have : idxD (l.map enc).length (k : Int) = some k := by
    unfold idxD
    rw [if_pos (Int.natCast_nonneg k), Int.toNat_natCast, List.length_map, if_pos h]
  rw [this]
  simp [h, optR]
theorem slc_from {xs : List PyData} (k : Nat) (h : k ≤ xs.length) : slcD (.tuple xs) (.int k) .none = .ok (.tuple (xs.drop k)) := by
  show (bndD xs.length 0 (.int k) >>= fun a => bndD xs.length xs.length .none >>= fun b => Except.ok (PyData.tuple ((xs.drop a).take (b - a)))) = _
  simp only [bndD, bind, Except.bind, Int.natCast_nonneg, if_true, Int.toNat_natCast, Nat.min_eq_left h]
  rw [List.take_of_length_le (by simp)]
theorem slc_to {xs : List PyData} (k : Nat) (h : k ≤ xs.length) : slcD (.tuple xs) .none (.int k) = .ok (.tuple (xs.take k)) := by
  show (bndD xs.length 0 .none >>= fun a => bndD xs.length xs.length (.int k) >>= fun b => Except.ok (PyData.tuple ((xs.drop a).take (b - a)))) = _
  simp only [bndD, bind, Except.bind, Int.natCast_nonneg, if_true, Int.toNat_natCast, Nat.min_eq_left h]
  simp
theorem eq0 {n : Nat} (h : n ≠ 0) : cmpD .eq (.int n) (.int 0) = .ok false := by
  have : cmpD .eq (.int n) (.int 0) = grd (shp (.int n) && shp (.int 0)) (PyData.eqv (.int n) (.int 0)) := rfl
  rw [this]
  have s : ∀ i : Int, shp (.int i) = true := fun i => by simp [shp, SeqAt.shaped, PyData.canLay0, PyData.depth]
  have e : PyData.eqv (.int n) (.int 0) = false := by
    rw [PyData.eqv]
    simp
    omega
  rw [s, s, e]
  rfl
theorem ne_int (n m : Nat) : cmpD .ne (.int n) (.int m) = .ok (!decide (n = m)) := by
  have : cmpD .ne (.int n) (.int m) = grd (shp (.int n) && shp (.int m)) (!PyData.eqv (.int n) (.int m)) := rfl
  rw [this]
  have s : ∀ i : Int, shp (.int i) = true := fun i => by simp [shp, SeqAt.shaped, PyData.canLay0, PyData.depth]
  have e : PyData.eqv (.int n) (.int m) = decide (n = m) := by
    rw [PyData.eqv]
    by_cases h : n = m
    · subst h; simp
    · rw [decide_eq_false h]
      simp only [beq_eq_false_iff_ne, ne_eq]
      omega
  rw [s, s, e]
  rfl
theorem r_is_name {x : Str} (h : nameB x = true) : d_is_name.run [.d (.str x)] = .ok (.d (.bool true), []) := by
  have h' := h
  simp only [nameB, Bool.and_eq_true, decide_eq_true_eq] at h'
  obtain ⟨⟨⟨⟨_, h1⟩, h2⟩, _⟩, h3⟩ := h'
  have l1 : fnD .len (.str x) = .ok (.int x.length) := by
    show grd (decide (x.length ≤ lim)) (PyData.int x.length) = _
    rw [decide_eq_true (show x.length ≤ 16000000 by omega)]
    rfl
  have c1 : cmpD .le (.int 1) (.int x.length) = .ok true := by
    show Except.ok (decide ((1 : Int) ≤ x.length)) = _
    rw [decide_eq_true (by omega)]
  have c2 : cmpD .le (.int x.length) (.int 8) = .ok true := by
    show Except.ok (decide ((x.length : Int) ≤ 8)) = _
    rw [decide_eq_true (by omega)]
  have hl : x.cps.toList.length ≤ lim := by
    have : x.length = x.cps.toList.length := by simp [Str.length]
    show _ ≤ 16000000
    omega
  refine run_ret rfl rfl (env := [some (.d (.str x)), none]) (ev_andR (evAnd_t (ev_ins (ev_var rfl) rfl) (evAnd_t (e1 := [some (.d (.str x)), none]) ?_ (evAnd_1 ?_)))) rfl
  · exact ev_chn (z := true) (w := true) ox_cst (ox_ev rfl (ev_fn (z := .int x.length) (ox_var rfl rfl) l1) rfl) c1 fun _ => ⟨ox_cst, c2⟩
  · have := ev_fnE (T := tbOf c_is_name) (f := .all) rfl (ev_lcM (i := 1) (elt := .cmp .isin (.var 1) (.glb "LETTERS" (.inr "abcdefghijklmnopqrstuvwxyz"))) (e0 := [some (.d (.str x)), none]) x.cps.toList (fun c => .str ⟨#[c]⟩) (fun c => .bool (!(Builtin.Str.occurrences ("abcdefghijklmnopqrstuvwxyz" : Str) ⟨#[c]⟩ 0 ("abcdefghijklmnopqrstuvwxyz" : Str).length 1).isEmpty)) (evI_src (e := .var 0) (ev_var rfl) rfl) hl
      fun y hy => ⟨_, ev_cmp (ox_var rfl rfl) (ox_ev rfl rfl rfl) rfl, rfl⟩) (all_map _ _)
    rw [h3] at this
    exact this
theorem e_zip_lt {o : Lot} (hl : o.length ≤ lim) (T : Tb) (hp : o.Pairwise fun a b => ltS a b = true) (v : Vl) (hv : v = .d (eS o)) :
    ev T (.fn .all (.lc [1, 2] (.cmp .lt (.var 1) (.var 2)) (.tp [1, 2]) (.zip (.var 0) (.slc (.var 0) (.cst (.int 1)) (.cst .none))) (.nil))) [some v, none, none] = .ok (.d (.bool true), [some v, none, none]) := by
  subst hv
  have hI : evI T (.zip (.var 0) (.slc (.var 0) (.cst (.int 1)) (.cst .none))) [some (.d (eS o)), none, none] = .ok ((o.zip (o.drop 1)).map fun p => PyData.tuple [.str p.1, .str p.2], [some (.d (eS o)), none, none]) := by
    have e1 : ev T (.slc (.var 0) (.cst (.int 1)) (.cst .none)) [some (.d (eS o)), none, none] = .ok (.d (.tuple ((o.map PyData.str).drop 1)), [some (.d (eS o)), none, none]) := by
      by_cases h0 : o = []
      · subst h0
        rfl
      · have : 1 ≤ (o.map PyData.str).length := by rw [List.length_map]; exact List.length_pos_iff.mpr h0
        exact ev_slc (z := PyData.tuple ((o.map PyData.str).drop 1)) (p := .vl (.d (eS o))) (q := .d (.int 1)) (s := .d .none) rfl rfl rfl rfl rfl rfl (slc_from 1 this)
    rw [evI]
    simp only [ev_var (T := T) (i := 0) (env := [some (Vl.d (eS o)), none, none]) (x := eS o) rfl, e1, bind, Except.bind]
    show Except.ok ((((o.map PyData.str).zip ((o.map PyData.str).drop 1)).map fun (x, y) => PyData.tuple [x, y]), _) = _
    rw [← List.map_drop, List.zip_map, List.map_map]
    rfl
  have e := ev_lcR (T := T) (vs := [1, 2]) (elt := .cmp .lt (.var 1) (.var 2)) (tg := .tp [1, 2]) (cs := .nil) (base := [some (.d (eS o)), none, none]) (c := fun _ => true)
    (f := fun x => match x with | .tuple [.str a, .str b] => .bool (ltS a b) | _ => .none) hI rfl rfl (by simp; omega) (by
      intro x hx
      obtain ⟨p, hp, rfl⟩ := List.mem_map.mp hx
      exact ⟨_, _, rfl, rfl, rfl, fun _ => ⟨_, _, ev_cmp (ox_var rfl rfl) (ox_var rfl rfl) rfl, rfl, rfl⟩⟩)
  rw [List.filter_eq_self.mpr (fun _ _ => rfl), List.map_map] at e
  have e2 := ev_fnE (f := .all) rfl e (all_map (o.zip (o.drop 1)) (fun p => ltS p.1 p.2))
  have e3 : ((o.zip (o.drop 1)).all fun p => ltS p.1 p.2) = true := by
    clear e2 e hI hl
    induction o with
    | nil => rfl
    | cons a r ih =>
      cases r with
      | nil => rfl
      | cons b s =>
        obtain ⟨h1, h2⟩ := List.pairwise_cons.mp hp
        have := ih h2
        simp only [List.drop_succ_cons, List.drop_zero, List.zip_cons_cons, List.all_cons, Bool.and_eq_true] at this ⊢
        exact ⟨h1 b List.mem_cons_self, this⟩
  rw [e3] at e2
  exact e2
theorem r_is_name_set {o : Lot} (hl : o.length ≤ lim) (h : okS o) (hp : o.Pairwise fun a b => ltS a b = true) : d_is_name_set.run [.d (eS o)] = .ok (.d (.bool true), []) := by
  have a1 := ev_fnE (T := tbOf c_is_name_set) (f := .all) rfl (ev_lcM (i := 1) (elt := .call "is_name" (.cons (.var 1) (.nil)) [] (.nil)) (e0 := [some (.d (eS o)), none, none]) o .str (fun _ => .bool true) (evI_src (e := .var 0) (ev_var rfl) rfl) hl
    fun y hy => ⟨_, ev_call (fd := d_is_name) rfl rfl (evs_x (ev_var rfl) rfl evs_nil) evs_nil (zs := [.str y]) rfl (r_is_name (h y hy)), rfl⟩) (all_map o _)
  rw [List.all_eq_true.mpr (fun _ _ => rfl)] at a1
  have s1 := exS_f (X := []) (a := .cons (.ret (.cst (.bool false))) .nil) (ev_orR (evOr_f (ev_not (ev_ins (t := .tuple) (b := true) (ev_var (T := tbOf c_is_name_set) (i := 0) (env := [some (.d (eS o)), none, none]) rfl) rfl)) (evOr_f (ev_not a1) evOr_nil))) exB_nil
  exact run_b rfl (exB_n s1 (exB_r (exS_ret rfl (e_zip_lt hl _ hp _ rfl)))) rfl
theorem r_is_lot_of {H a : Lot} (hH : okS H) (hl : H.length ≤ 9) (hs : a.Sublist H) (hp : H.Pairwise fun a b => ltS a b = true) : d_is_lot_of.run [.d (eS H), .d (eS a)] = .ok (.d (.bool true), []) := by
  have hal : a.length ≤ lim := by have := hs.length_le; show _ ≤ 16000000; omega
  have hin : liesIn a H = true := liesIn_iff.mpr fun n hn => hs.subset hn
  have h2 := r_lies_in hal (okS_sub hH hs) hH
  rw [hin] at h2
  exact run_ret rfl rfl (ev_andR (evAnd_t (ev_call (fd := d_is_name_set) rfl rfl (evs_x (ev_var rfl) rfl evs_nil) evs_nil (zs := [eS a]) rfl (r_is_name_set hal (okS_sub hH hs) (hp.sublist hs)))
    (evAnd_1 (ev_call (fd := d_lies_in) rfl rfl (evs_x (ev_var rfl) rfl (evs_x (ev_var rfl) rfl evs_nil)) evs_nil (zs := [eS a, eS H]) rfl h2)))) rfl
theorem ltb (T : Tb) {x : Nat} {env : Evn} {d : List PyData} {i : Nat} {l : List PyData} (hi : i ≠ 0) (hx : env[x]? = some (some (.d (.tuple l)))) (hk : env[i]? = some (some (.d (.int d.length)))) (hd : d ≠ []) (ht : l.take d.length = d) :
    Ox T (.sub (.var x) (.bin .sub (.var i) (.cst (.int 1)))) env (d.getLast hd) := by
  have hl : d.length ≤ l.length := by
    have := congrArg List.length ht
    rw [List.length_take] at this
    omega
  have hp : 0 < d.length := List.length_pos_iff.mpr hd
  refine ox_ev rfl (ev_sub (ox_var hx rfl) (ox_ev rfl (ev_bin (z := .int (d.length - 1 : Nat)) (ox_var hk rfl) ox_cst ?_) rfl) ?_) rfl
  · show Except.ok (PyData.int ((d.length : Int) - 1)) = _
    congr 2
    omega
  · have := cons_at id l (d.length - 1) (by omega)
    rw [List.map_id] at this
    refine this.trans ?_
    congr 1
    rw [List.getLast_eq_getElem]
    have : l[d.length - 1]? = d[d.length - 1]? := by
      have h3 : (l.take d.length)[d.length - 1]? = d[d.length - 1]? := by rw [ht]
      rw [List.getElem?_take, if_pos (by omega)] at h3
      exact h3
    rw [List.getElem?_eq_getElem (by omega), List.getElem?_eq_getElem (by omega)] at this
    simpa using this
theorem r_family_fault {H : Lot} {f : Fam} (hH : okS H) (hHl : H.length ≤ 9) (hp : H.Pairwise fun a b => ltS a b = true) (F : FamOk H f) (hne : f ≠ []) (hfl : f.length ≤ lim) : d_family_fault.run [.d (eS H), .d (eF f)] = .ok (.d .none, []) := by
  have hok := okF_lots hH F.lots
  have hlen : ∀ a ∈ f, a.length ≤ lim := fun a ha => by have := (F.lots.sub a ha).length_le; show _ ≤ 16000000; omega
  let e0 : Evn := [some (.d (eS H)), some (.d (eF f)), none, none, none]
  have a1 := ev_fnE (T := tbOf c_family_fault) (f := .all) rfl (ev_lcM (i := 2) (elt := .inst (.var 2) .tuple) (e0 := e0) f eS (fun _ => .bool true) (evI_src (e := .var 1) (ev_var rfl) rfl) hfl fun y hy => ⟨_, ev_inst (ev_var rfl), rfl⟩) (all_map f _)
  rw [List.all_eq_true.mpr (fun _ _ => rfl)] at a1
  have hn0 : (f.map eS).length ≠ 0 := by rw [List.length_map]; exact fun e => hne (List.length_eq_zero_iff.mp e)
  have s1 := exS_f (X := []) (a := .cons (.ret (.tup (.cons (.cst (.str "family")) (.cons (.neg (.cst (.int 1))) (.nil))))) .nil) (ev_orR (evOr_f (ev_not (ev_ins (t := .tuple) (b := true) (ev_var (T := tbOf c_family_fault) (i := 1) (env := e0) rfl) rfl))
    (evOr_f (ev_cmp (ox_ev rfl (ev_fn (f := .len) (a := .var 1) (z := .int (f.map eS).length) (ox_var rfl rfl) rfl) rfl) ox_cst (eq0 hn0)) (evOr_f (ev_not a1) evOr_nil)))) exB_nil
  obtain ⟨e', s2, p, q, he'⟩ := exS_enu (T := tbOf c_family_fault) (X := []) (i := 3) (j := 2) (e := .var 1) (env := e0) (e0 := e0) (body := (.cons (.iff (.or (.cons (.not (.call "is_lot_of" (.cons (.var 0) (.cons (.var 2) (.nil))) [] (.nil))) (.cons (.and (.cons (.cmp .gt (.var 3) (.cst (.int 0))) (.cons (.not (.cmp .lt (.sub (.var 1) (.bin .sub (.var 3) (.cst (.int 1)))) (.var 2))) (.nil)))) (.nil))))
  (.cons (.ret (.tup (.cons (.cst (.str "lot")) (.cons (.var 3) (.nil)))))
  .nil)
  .nil)
  (.cons (.iff (.fn .any (.lc [4] (.or (.cons (.call "lies_in" (.cons (.var 2) (.cons (.var 4) (.nil))) [] (.nil)) (.cons (.call "lies_in" (.cons (.var 4) (.cons (.var 2) (.nil))) [] (.nil)) (.nil)))) (.nm 4) (.src (.slc (.var 1) (.cst .none) (.var 3))) (.nil)))
  (.cons (.ret (.tup (.cons (.cst (.str "within")) (.cons (.var 3) (.nil)))))
  .nil)
  .nil)
  .nil))) f eS (fun _ e => ∃ p q, e = [some (.d (eS H)), some (.d (eF f)), p, q, none]) (ev_var rfl) (.inl rfl) ⟨_, _, rfl⟩ (by
    rintro d x s hd e ⟨p, q, rfl⟩
    have hx : x ∈ f := by rw [hd]; simp
    have hdf : ∀ a ∈ d, a ∈ f := fun a ha => by rw [hd]; simp [ha]
    let e1 : Evn := [some (.d (eS H)), some (.d (eF f)), some (.d (eS x)), some (.d (.int d.length)), none]
    have hlot := ev_call (T := tbOf c_family_fault) (f := "is_lot_of") (es := .cons (.var 0) (.cons (.var 2) .nil)) (ks := []) (kes := .nil) (fd := d_is_lot_of) (env := e1) rfl rfl (evs_x (ev_var rfl) rfl (evs_x (ev_var rfl) rfl evs_nil)) evs_nil (zs := [eS H, eS x]) rfl (r_is_lot_of hH hHl (F.lots.sub x hx) hp)
    have hand : evAnd (tbOf c_family_fault) (.cons (.cmp .gt (.var 3) (.cst (.int 0))) (.cons (.not (.cmp .lt (.sub (.var 1) (.bin .sub (.var 3) (.cst (.int 1)))) (.var 2))) (.nil))) e1 = .ok (false, e1) := by
      by_cases h0 : d = []
      · subst h0
        exact evAnd_f (ev_cmp (ox_var rfl rfl) ox_cst rfl)
      · have hpos : 0 < d.length := List.length_pos_iff.mpr h0
        have g0 := gt0 d.length
        rw [decide_eq_true hpos] at g0
        refine evAnd_t (ev_cmp (ox_var rfl rfl) ox_cst g0) (evAnd_1 ?_)
        have hne2 : d.map eS ≠ [] := by simpa using h0
        have o1 := ltb (tbOf c_family_fault) (x := 1) (env := e1) (d := d.map eS) (i := 3) (l := f.map eS) (by decide) rfl (by rw [List.length_map]; rfl) hne2 (by rw [List.length_map, hd, List.map_append, List.take_left' (by simp)])
        rw [List.getLast_map] at o1
        have hm : d.getLast h0 ∈ d := List.getLast_mem h0
        have hlt : ltL (d.getLast h0) x = true := by
          have := F.asc
          rw [hd] at this
          exact (List.pairwise_append.mp this).2.2 _ hm x List.mem_cons_self
        have c := e_ltL (hok _ (hdf _ hm)) (hok x hx)
        rw [hlt] at c
        have o2 : Ox (tbOf c_family_fault) (.var 2) e1 (eS x) := ox_var rfl rfl
        exact ev_not (ev_cmp o1 o2 c)
    have b1 := exS_f (X := []) (a := .cons (.ret (.tup (.cons (.cst (.str "lot")) (.cons (.var 3) (.nil))))) .nil) (ev_orR (evOr_f (ev_not hlot) (evOr_f (ev_andR hand) evOr_nil))) exB_nil
    have htake : slcD (eF f) .none (.int d.length) = .ok (.tuple (d.map eS)) := by
      refine (slc_to d.length (by rw [List.length_map, hd]; simp)).trans ?_
      congr 2
      rw [hd, List.map_append, List.take_left' (by simp)]
    have hsl : ev (tbOf c_family_fault) (.slc (.var 1) (.cst .none) (.var 3)) e1 = .ok (.d (.tuple (d.map eS)), e1) := ev_slc (z := .tuple (d.map eS)) (p := .vl (.d (eF f))) (q := .d .none) (s := .d (.int d.length)) rfl rfl rfl rfl rfl rfl htake
    have hdl : d.length ≤ lim := by
      have := congrArg List.length hd
      rw [List.length_append] at this
      omega
    have hany := ev_fnE (T := tbOf c_family_fault) (f := .any) rfl (ev_lcM (i := 4) (elt := (.or (.cons (.call "lies_in" (.cons (.var 2) (.cons (.var 4) (.nil))) [] (.nil)) (.cons (.call "lies_in" (.cons (.var 4) (.cons (.var 2) (.nil))) [] (.nil)) (.nil))))) (e0 := e1) d eS (fun a => .bool (liesIn x a || liesIn a x)) (evI_src hsl rfl) hdl
      fun a ha => ⟨_, ev_orR (evOr_c (ev_call (fd := d_lies_in) rfl rfl (evs_x (ev_var rfl) rfl (evs_x (ev_var rfl) rfl evs_nil)) evs_nil (zs := [eS x, eS a]) rfl (r_lies_in (hlen x hx) (hok x hx) (hok a (hdf a ha))))
        fun _ => evOr_c (ev_call (fd := d_lies_in) rfl rfl (evs_x (ev_var rfl) rfl (evs_x (ev_var rfl) rfl evs_nil)) evs_nil (zs := [eS a, eS x]) rfl (r_lies_in (hlen a (hdf a ha)) (hok a (hdf a ha)) (hok x hx))) fun _ => evOr_nil), by rw [Bool.or_false]; rfl⟩) (any_map d _)
    have hno : (d.any fun a => liesIn x a || liesIn a x) = false := by
      rw [List.any_eq_false]
      intro a ha
      have := F.apart
      rw [hd] at this
      have := (List.pairwise_append.mp this).2.2 a ha x List.mem_cons_self
      rw [this.1, this.2]
      decide
    rw [hno] at hany
    have b2 := exS_f (X := []) (a := .cons (.ret (.tup (.cons (.cst (.str "within")) (.cons (.var 3) (.nil))))) .nil) hany exB_nil
    exact ⟨_, exB_n b1 (exB_n b2 exB_nil), _, _, rfl⟩)
  subst he'
  exact run_b rfl (exB_n s1 (exB_n s2 (exB_r (exS_ret rfl rfl)))) rfl
theorem r_houses_fault {H : Lot} (hH : okS H) (hp : H.Pairwise fun a b => ltS a b = true) : d_houses_fault.run [.d (eS H)] = .ok (.d .none, []) := by
  obtain ⟨e', s2, p, q, he'⟩ := exS_enu (T := tbOf c_houses_fault) (X := []) (i := 1) (j := 2) (e := .var 0) (env := [some (.d (eS H)), none, none]) (e0 := [some (.d (eS H)), none, none]) (body := (.cons (.iff (.or (.cons (.not (.call "is_name" (.cons (.var 2) (.nil)) [] (.nil))) (.cons (.and (.cons (.cmp .gt (.var 1) (.cst (.int 0))) (.cons (.not (.cmp .lt (.sub (.var 0) (.bin .sub (.var 1) (.cst (.int 1)))) (.var 2))) (.nil)))) (.nil))))
  (.cons (.ret (.tup (.cons (.cst (.str "house")) (.cons (.var 1) (.nil)))))
  .nil)
  .nil)
  .nil)) H .str (fun _ e => ∃ p q, e = [some (.d (eS H)), p, q]) (ev_var rfl) (.inl rfl) ⟨_, _, rfl⟩ (by
    rintro d x s hd e ⟨p, q, rfl⟩
    have hx : x ∈ H := by rw [hd]; simp
    let e1 : Evn := [some (.d (eS H)), some (.d (.int d.length)), some (.d (.str x))]
    have hnm := ev_call (T := tbOf c_houses_fault) (f := "is_name") (es := .cons (.var 2) .nil) (ks := []) (kes := .nil) (fd := d_is_name) (env := e1) rfl rfl (evs_x (ev_var rfl) rfl evs_nil) evs_nil (zs := [.str x]) rfl (r_is_name (hH x hx))
    have hand : evAnd (tbOf c_houses_fault) (.cons (.cmp .gt (.var 1) (.cst (.int 0))) (.cons (.not (.cmp .lt (.sub (.var 0) (.bin .sub (.var 1) (.cst (.int 1)))) (.var 2))) (.nil))) e1 = .ok (false, e1) := by
      by_cases h0 : d = []
      · subst h0
        exact evAnd_f (ev_cmp (ox_var rfl rfl) ox_cst rfl)
      · have hpos : 0 < d.length := List.length_pos_iff.mpr h0
        have g0 := gt0 d.length
        rw [decide_eq_true hpos] at g0
        refine evAnd_t (ev_cmp (ox_var rfl rfl) ox_cst g0) (evAnd_1 ?_)
        have hne2 : d.map PyData.str ≠ [] := by simpa using h0
        have o1 := ltb (tbOf c_houses_fault) (x := 0) (env := e1) (d := d.map .str) (i := 1) (l := H.map .str) (by decide) rfl (by rw [List.length_map]; rfl) hne2 (by rw [List.length_map, hd, List.map_append, List.take_left' (by simp)])
        rw [List.getLast_map] at o1
        have hm : d.getLast h0 ∈ d := List.getLast_mem h0
        have hlt : ltS (d.getLast h0) x = true := by
          have := hp
          rw [hd] at this
          exact (List.pairwise_append.mp this).2.2 _ hm x List.mem_cons_self
        have c : cmpD .lt (.str (d.getLast h0)) (.str x) = .ok (ltS (d.getLast h0) x) := rfl
        rw [hlt] at c
        have o2 : Ox (tbOf c_houses_fault) (.var 2) e1 (.str x) := ox_var rfl rfl
        exact ev_not (ev_cmp o1 o2 c)
    have b1 := exS_f (X := []) (a := .cons (.ret (.tup (.cons (.cst (.str "house")) (.cons (.var 1) (.nil))))) .nil) (ev_orR (evOr_f (ev_not hnm) (evOr_f (ev_andR hand) evOr_nil))) exB_nil
    exact ⟨_, exB_n b1 exB_nil, _, _, rfl⟩)
  subst he'
  exact run_b rfl (exB_n s2 (exB_r (exS_ret rfl rfl))) rfl
structure NetOk (H : Lot) (F : List Fam) : Prop where
  names : okS H
  asc : H.Pairwise fun a b => ltS a b = true
  hne : H ≠ []
  hlen : H.length ≤ 9
  len : F.length = H.length
  fam : ∀ f ∈ F, FamOk H f
  fne : ∀ f ∈ F, f ≠ []
  flen : ∀ f ∈ F, f.length ≤ 63
theorem eq_int (n m : Nat) : cmpD .eq (.int n) (.int m) = .ok (decide (n = m)) := by
  have : cmpD .eq (.int n) (.int m) = grd (shp (.int n) && shp (.int m)) (PyData.eqv (.int n) (.int m)) := rfl
  rw [this]
  have s : ∀ i : Int, shp (.int i) = true := fun i => by simp [shp, SeqAt.shaped, PyData.canLay0, PyData.depth]
  have e : PyData.eqv (.int n) (.int m) = decide (n = m) := by
    rw [PyData.eqv]
    by_cases h : n = m
    · subst h; simp
    · rw [decide_eq_false h]
      simp only [beq_eq_false_iff_ne, ne_eq]
      omega
  rw [s, s, e]
  rfl
theorem r_is_pair (x y : PyData) : d_is_pair.run [.d (.tuple [x, y])] = .ok (.d (.bool true), []) :=
  run_ret rfl rfl (ev_andR (evAnd_t (ev_ins (ev_var rfl) rfl) (evAnd_1 (ev_cmp (x := .int (2 : Nat)) (y := .int (2 : Nat)) (ox_ev rfl (ev_fn (f := .len) (z := .int (2 : Nat)) (ox_var (x := .tuple [x, y]) rfl rfl) rfl) rfl) ox_cst (eq_int 2 2))))) rfl
theorem ev_n0 {T : Tb} {i : Nat} {env : Evn} {H : Lot} {F : List Fam} (h : env[i]? = some (some (.d (eN H F)))) : ev T (.sub (.var i) (.cst (.int 0))) env = .ok (.d (eS H), env) := ev_sub (ox_var h rfl) ox_cst rfl
theorem ev_n1 {T : Tb} {i : Nat} {env : Evn} {H : Lot} {F : List Fam} (h : env[i]? = some (some (.d (eN H F)))) : ev T (.sub (.var i) (.cst (.int 1))) env = .ok (.d (.tuple (F.map eF)), env) := ev_sub (ox_var h rfl) ox_cst rfl
theorem r_net_fault {H : Lot} {F : List Fam} (N : NetOk H F) : d_net_fault.run [.d (eN H F)] = .ok (.d .none, []) := by
  let e0 : Evn := [some (.d (eN H F)), none, none, none]
  have g0 : e0[0]? = some (some (.d (eN H F))) := rfl
  have s1 := exS_f (T := tbOf c_net_fault) (X := []) (a := (.cons (.ret (.tup (.cons (.cst (.str "shape")) (.cons (.neg (.cst (.int 1))) (.nil))))) .nil))
    (ev_orR (evOr_f (ev_not (ev_call (T := tbOf c_net_fault) (f := "is_pair") (es := .cons (.var 0) .nil) (ks := []) (kes := .nil) (fd := d_is_pair) (env := e0) rfl rfl (evs_x (ev_var rfl) rfl evs_nil) evs_nil (zs := [eN H F]) rfl (r_is_pair _ _)))
    (evOr_f (ev_not (ev_ins (t := .tuple) (b := true) (ev_n0 g0) rfl)) (evOr_f (ev_not (ev_ins (t := .tuple) (b := true) (ev_n1 g0) rfl)) evOr_nil)))) exB_nil
  have l0 : ev (tbOf c_net_fault) (.fn .len (.sub (.var 0) (.cst (.int 0)))) e0 = .ok (.d (.int H.length), e0) := by
    have := ev_fnE (T := tbOf c_net_fault) (f := .len) (z := .int (H.map PyData.str).length) rfl (ev_n0 g0) rfl
    rw [List.length_map] at this
    exact this
  have l1 : ev (tbOf c_net_fault) (.fn .len (.sub (.var 0) (.cst (.int 1)))) e0 = .ok (.d (.int F.length), e0) := by
    have := ev_fnE (T := tbOf c_net_fault) (f := .len) (z := .int (F.map eF).length) rfl (ev_n1 g0) rfl
    rw [List.length_map] at this
    exact this
  have hn0 : H.length ≠ 0 := fun e => N.hne (List.length_eq_zero_iff.mp e)
  have q := ne_int H.length F.length
  rw [N.len, decide_eq_true rfl] at q
  rw [N.len] at l1
  have s2 := exS_f (T := tbOf c_net_fault) (X := []) (a := (.cons (.ret (.tup (.cons (.cst (.str "shape")) (.cons (.neg (.cst (.int 1))) (.nil))))) .nil))
    (ev_orR (evOr_f (ev_cmp (ox_ev rfl l0 rfl) (ox_cst (c := .int 0)) (eq0 hn0)) (evOr_f (ev_cmp (ox_ev rfl l0 rfl) (ox_ev rfl l1 rfl) q) evOr_nil))) exB_nil
  have s3 := exS_asg (X := []) (i := 1) (ev_call (T := tbOf c_net_fault) (f := "houses_fault") (es := .cons (.sub (.var 0) (.cst (.int 0))) .nil) (ks := []) (kes := .nil) (fd := d_houses_fault) (env := e0) rfl rfl (evs_x (ev_n0 g0) rfl evs_nil) evs_nil (zs := [eS H]) rfl (r_houses_fault N.names N.asc))
  let e1 : Evn := [some (.d (eN H F)), some (.d .none), none, none]
  have s4 := exS_f (T := tbOf c_net_fault) (X := []) (a := (.cons (.ret (.var 1)) .nil)) (ev_cmp (op := .isnn) (a := .var 1) (b := .cst .none) (env := e1) (z := false) (ox_var rfl rfl) ox_cst rfl) exB_nil
  obtain ⟨e', s5, p, q, he'⟩ := exS_enu (T := tbOf c_net_fault) (X := []) (i := 2) (j := 3) (e := .sub (.var 0) (.cst (.int 1))) (env := e1) (e0 := e1) (body := (.cons (.asg 1 (.call "family_fault" (.cons (.sub (.var 0) (.cst (.int 0))) (.cons (.var 3) (.nil))) [] (.nil)))
  (.cons (.iff (.cmp .isnn (.var 1) (.cst .none))
  (.cons (.ret (.tup (.cons (.sub (.var 1) (.cst (.int 0))) (.cons (.ite (.cmp .eq (.sub (.var 1) (.cst (.int 0))) (.cst (.str "family"))) (.var 2) (.tup (.cons (.var 2) (.cons (.sub (.var 1) (.cst (.int 1))) (.nil))))) (.nil)))))
  .nil)
  .nil)
  .nil))) F eF (fun _ e => ∃ p q, e = [some (.d (eN H F)), some (.d .none), p, q]) (ev_n1 rfl) (.inl rfl) ⟨_, _, rfl⟩ (by
    rintro d f s hd e ⟨p, q, rfl⟩
    have hf : f ∈ F := by rw [hd]; simp
    have b1 := exS_asg (X := []) (i := 1) (ev_call (T := tbOf c_net_fault) (f := "family_fault") (es := .cons (.sub (.var 0) (.cst (.int 0))) (.cons (.var 3) .nil)) (ks := []) (kes := .nil) (fd := d_family_fault) (env := [some (.d (eN H F)), some (.d .none), some (.d (.int d.length)), some (.d (eF f))]) rfl rfl (evs_x (ev_n0 rfl) rfl (evs_x (ev_var rfl) rfl evs_nil)) evs_nil (zs := [eS H, eF f]) rfl
      (r_family_fault N.names N.hlen N.asc (N.fam f hf) (N.fne f hf) (by have := N.flen f hf; show _ ≤ 16000000; omega)))
    have b2 := exS_f (T := tbOf c_net_fault) (X := []) (a := (.cons (.ret (.tup (.cons (.sub (.var 1) (.cst (.int 0))) (.cons (.ite (.cmp .eq (.sub (.var 1) (.cst (.int 0))) (.cst (.str "family"))) (.var 2) (.tup (.cons (.var 2) (.cons (.sub (.var 1) (.cst (.int 1))) (.nil))))) (.nil))))) .nil))
      (ev_cmp (op := .isnn) (a := .var 1) (b := .cst .none) (env := [some (.d (eN H F)), some (.d .none), some (.d (.int d.length)), some (.d (eF f))]) (z := false) (ox_var rfl rfl) ox_cst rfl) exB_nil
    exact ⟨_, exB_n b1 (exB_n b2 exB_nil), _, _, rfl⟩)
  subst he'
  exact run_b rfl (exB_n s1 (exB_n s2 (exB_n s3 (exB_n s4 (exB_n s5 (exB_r (exS_ret rfl rfl))))))) rfl
theorem r_is_net {H : Lot} {F : List Fam} (N : NetOk H F) : d_is_net.run [.d (eN H F)] = .ok (.d (.bool true), []) :=
  run_ret rfl rfl (ev_cmp (ox_ev rfl (ev_call (fd := d_net_fault) rfl rfl (evs_x (ev_var rfl) rfl evs_nil) evs_nil (zs := [eN H F]) rfl (r_net_fault N)) rfl) ox_cst rfl) rfl
theorem r_is_house {H : Lot} {F : List Fam} (N : NetOk H F) {t : Str} (ht : t ∈ H) : d_is_house.run [.d (eN H F), .d (.str t)] = .ok (.d (.bool true), []) := by
  have c := e_in (N.names t ht) N.names
  rw [List.contains_iff_mem.mpr ht] at c
  exact run_ret rfl rfl (ev_andR (evAnd_t (ev_ins (ev_var rfl) rfl) (evAnd_1 (ev_cmp (ox_var rfl rfl) (ox_ev rfl (ev_n0 rfl) rfl) c)))) rfl
theorem r_want (x y : PyData) : d_want.run [.d (.bool true), .d x, .d y] = .ok (.d .none, []) :=
  run_n rfl (exB_n (exS_f (ev_not (b := true) (ev_var rfl)) exB_nil) exB_nil) rfl
theorem r_want_net {H : Lot} {F : List Fam} (N : NetOk H F) : d_want_net.run [.d (eN H F)] = .ok (.d .none, []) :=
  run_n rfl (exB_n (exS_exp (ev_call (fd := d_want) rfl rfl (evs_x (ev_call (fd := d_is_net) rfl rfl (evs_x (ev_var rfl) rfl evs_nil) evs_nil (zs := [eN H F]) rfl (r_is_net N)) rfl (evs_x (r := .d (.str "net")) rfl rfl evs_nil)) evs_nil (zs := [.bool true, .str "net", .int (-1)]) rfl (r_want _ _))) exB_nil) rfl
theorem r_want_house {H : Lot} {F : List Fam} (N : NetOk H F) {t : Str} (ht : t ∈ H) (x : Str) : d_want_house.run [.d (eN H F), .d (.str t), .d (.str x)] = .ok (.d .none, []) :=
  run_n rfl (exB_n (exS_exp (ev_call (fd := d_want) rfl rfl (evs_x (ev_call (fd := d_is_house) rfl rfl (evs_x (ev_var rfl) rfl (evs_x (ev_var rfl) rfl evs_nil)) evs_nil (zs := [eN H F, .str t]) rfl (r_is_house N ht)) rfl (evs_x (ev_var rfl) rfl evs_nil)) evs_nil (zs := [.bool true, .str x, .int (-1)]) rfl (r_want _ _))) exB_nil) rfl
theorem r_want_lot {H : Lot} {F : List Fam} (N : NetOk H F) {a : Lot} (ha : a.Sublist H) (x : Str) : d_want_lot.run [.d (eN H F), .d (eS a), .d (.str x)] = .ok (.d .none, []) :=
  run_n rfl (exB_n (exS_exp (ev_call (fd := d_want) rfl rfl (evs_x (ev_call (fd := d_is_lot_of) rfl rfl (evs_x (ev_n0 rfl) rfl (evs_x (ev_var rfl) rfl evs_nil)) evs_nil (zs := [eS H, eS a]) rfl (r_is_lot_of N.names N.hlen ha N.asc)) rfl (evs_x (ev_var rfl) rfl evs_nil)) evs_nil (zs := [.bool true, .str x, .int (-1)]) rfl (r_want _ _))) exB_nil) rfl
def famBy (H : Lot) (F : List Fam) (t : Str) : Fam := F.getD (H.findIdx fun z => PyData.eqv (.str z) (.str t)) []
theorem idx_lt {H : Lot} {t : Str} (ht : t ∈ H) : (H.findIdx fun z => PyData.eqv (.str z) (.str t)) < H.length := by
  rw [List.findIdx_lt_length]
  exact ⟨t, ht, by rw [PyData.eqv]; simp⟩
theorem famBy_mem {H : Lot} {F : List Fam} (hl : F.length = H.length) {t : Str} (ht : t ∈ H) : famBy H F t ∈ F := by
  have := idx_lt ht
  unfold famBy
  rw [List.getD_eq_getElem?_getD, List.getElem?_eq_getElem (by omega)]
  exact List.getElem_mem _
theorem e_famBy {T : Tb} {H : Lot} {F : List Fam} (N : NetOk H F) {t : Str} (ht : t ∈ H) {i j : Nat} {env : Evn} (h1 : env[i]? = some (some (.d (eN H F)))) (h2 : env[j]? = some (some (.d (.str t)))) :
    ev T (.sub (.sub (.var i) (.cst (.int 1))) (.meth .index (.sub (.var i) (.cst (.int 0))) (.cons (.var j) (.nil)))) env = .ok (.d (eF (famBy H F t)), env) := by
  have hm : methD .index (eS H) [.str t] = .ok (.int (H.findIdx fun z => PyData.eqv (.str z) (.str t))) := by
    have : methD .index (eS H) [.str t] = grd (shp (eS H) && shp (.str t) && (H.map PyData.str).any fun z => PyData.eqv z (.str t)) (.int ((H.map PyData.str).findIdx fun z => PyData.eqv z (.str t))) := rfl
    rw [this, any_str, List.contains_iff_mem.mpr ht, (nice_S N.names).shp (by decide), (nice_name (N.names t ht)).shp (by decide), List.findIdx_map]
    rfl
  have hlt := idx_lt ht
  have hc := cons_at eF F (H.findIdx fun z => PyData.eqv (.str z) (.str t)) (by have := N.len; omega)
  have : F[H.findIdx fun z => PyData.eqv (.str z) (.str t)]'(by have := N.len; omega) = famBy H F t := by
    unfold famBy
    rw [List.getD_eq_getElem?_getD, List.getElem?_eq_getElem (by have := N.len; omega)]
    rfl
  rw [this] at hc
  exact ev_sub (ox_ev rfl (ev_n1 h1) rfl) (ox_ev rfl (ev_meth (m := .index) (z := .int (H.findIdx fun z => PyData.eqv (.str z) (.str t))) (ox_ev rfl (ev_n0 h1) rfl) rfl (evs_x (ev_var h2) rfl evs_nil) rfl hm) rfl) hc
end HeadT

set_option maxRecDepth 100000
namespace HeadT
open PySem Qv
def eQ (Q : List Fam) : PyData := .tuple (Q.map eF)
structure QuOk (H : Lot) (Q : List Fam) : Prop where
  len : Q.length = H.length
  fam : ∀ f ∈ Q, FamOk H f
  fne : ∀ f ∈ Q, f ≠ []
  full : ∀ f ∈ Q, ∀ a ∈ f, a ≠ []
theorem fam_take {H : Lot} {f : Fam} (F : FamOk H f) (k : Nat) : FamOk H (f.take k) :=
  ⟨⟨F.lots.nd, fun a ha => F.lots.sub a (List.mem_of_mem_take ha)⟩, F.asc.sublist (List.take_sublist _ _), F.apart.sublist (List.take_sublist _ _)⟩
theorem e_quBy {T : Tb} {H : Lot} {F Q : List Fam} (N : NetOk H F) (hl : Q.length = H.length) {t : Str} (ht : t ∈ H) {i j l : Nat} {env : Evn} (h1 : env[i]? = some (some (.d (eN H F)))) (h2 : env[j]? = some (some (.d (.str t)))) (h3 : env[l]? = some (some (.d (eQ Q)))) :
    ev T (.sub (.var l) (.meth .index (.sub (.var i) (.cst (.int 0))) (.cons (.var j) (.nil)))) env = .ok (.d (eF (famBy H Q t)), env) := by
  have hm : methD .index (eS H) [.str t] = .ok (.int (H.findIdx fun z => PyData.eqv (.str z) (.str t))) := by
    have : methD .index (eS H) [.str t] = grd (shp (eS H) && shp (.str t) && (H.map PyData.str).any fun z => PyData.eqv z (.str t)) (.int ((H.map PyData.str).findIdx fun z => PyData.eqv z (.str t))) := rfl
    rw [this, any_str, List.contains_iff_mem.mpr ht, (nice_S N.names).shp (by decide), (nice_name (N.names t ht)).shp (by decide), List.findIdx_map]
    rfl
  have hlt := idx_lt ht
  have hc := cons_at eF Q (H.findIdx fun z => PyData.eqv (.str z) (.str t)) (by omega)
  have : Q[H.findIdx fun z => PyData.eqv (.str z) (.str t)]'(by omega) = famBy H Q t := by
    unfold famBy
    rw [List.getD_eq_getElem?_getD, List.getElem?_eq_getElem (by omega)]
    rfl
  rw [this] at hc
  exact ev_sub (ox_var h3 rfl) (ox_ev rfl (ev_meth (m := .index) (z := .int (H.findIdx fun z => PyData.eqv (.str z) (.str t))) (ox_ev rfl (ev_n0 h1) rfl) rfl (evs_x (ev_var h2) rfl evs_nil) rfl hm) rfl) hc
theorem r_quorums_by {H : Lot} {F Q : List Fam} (N : NetOk H F) (hl : Q.length = H.length) {t : Str} (ht : t ∈ H) : d_quorums_by.run [.d (eN H F), .d (eQ Q), .d (.str t)] = .ok (.d (eF (famBy H Q t)), []) :=
  run_ret rfl rfl (e_quBy N hl ht rfl rfl rfl) rfl
def qfIn : Sms := (.cons (.asg 6 (.call "family_fault" (.cons (.sub (.var 0) (.cst (.int 0))) (.cons (.slc (.var 3) (.cst .none) (.bin .add (.var 5) (.cst (.int 1)))) (.nil))) [] (.nil)))
  (.cons (.iff (.and (.cons (.cmp .isnn (.var 6) (.cst .none)) (.cons (.cmp .eq (.sub (.var 6) (.cst (.int 0))) (.cst (.str "lot"))) (.nil))))
  (.cons (.ret (.tup (.cons (.cst (.str "lot")) (.cons (.tup (.cons (.var 2) (.cons (.var 5) (.nil)))) (.nil)))))
  .nil)
  .nil)
  (.cons (.iff (.cmp .eq (.sub (.var 3) (.var 5)) (.tup (.nil)))
  (.cons (.ret (.tup (.cons (.cst (.str "empty")) (.cons (.tup (.cons (.var 2) (.cons (.var 5) (.nil)))) (.nil)))))
  .nil)
  .nil)
  (.cons (.iff (.cmp .isnn (.var 6) (.cst .none))
  (.cons (.ret (.tup (.cons (.cst (.str "within")) (.cons (.tup (.cons (.var 2) (.cons (.var 5) (.nil)))) (.nil)))))
  .nil)
  .nil)
  .nil))))
theorem qf_in {H : Lot} {F : List Fam} (N : NetOk H F) {f : Fam} (G : FamOk H f) (hfl : f.length ≤ 63) (full : ∀ a ∈ f, a ≠ []) (k : Nat) (hk : k < f.length) (th : PyData) (h o p : Option Vl) :
    exB (tbOf c_quorums_fault) [] qfIn [some (.d (eN H F)), some (.d th), h, some (.d (eF f)), o, some (.d (.int k)), p] = .ok (.nx, [some (.d (eN H F)), some (.d th), h, some (.d (eF f)), o, some (.d (.int k)), some (.d .none)]) := by
  let A : Evn := [some (.d (eN H F)), some (.d th), h, some (.d (eF f)), o, some (.d (.int k)), p]
  let B : Evn := [some (.d (eN H F)), some (.d th), h, some (.d (eF f)), o, some (.d (.int k)), some (.d .none)]
  have b1 : ev (tbOf c_quorums_fault) (.bin .add (.var 5) (.cst (.int 1))) A = .ok (.d (.int ((k + 1 : Nat) : Int)), A) := ev_bin (z := .int ((k + 1 : Nat) : Int)) (ox_var rfl rfl) ox_cst rfl
  have hs := slcT_to (xs := f.map eS) (k + 1)
  rw [← List.map_take] at hs
  have b2 : ev (tbOf c_quorums_fault) (.slc (.var 3) (.cst .none) (.bin .add (.var 5) (.cst (.int 1)))) A = .ok (.d (eF (f.take (k + 1))), A) := ev_slc (z := eF (f.take (k + 1))) (p := .vl (.d (eF f))) (q := .d .none) rfl rfl rfl b1 rfl rfl hs
  have a1 : evs (tbOf c_quorums_fault) (.cons (.sub (.var 0) (.cst (.int 0))) (.cons (.slc (.var 3) (.cst .none) (.bin .add (.var 5) (.cst (.int 1)))) (.nil))) A = .ok ([eS H, eF (f.take (k + 1))], A) := evs_x (ev_n0 rfl) rfl (evs_x b2 rfl evs_nil)
  have hne : f.take (k + 1) ≠ [] := by
    intro e
    have := congrArg List.length e
    rw [List.length_take] at this
    simp only [List.length_nil] at this
    omega
  have c1 : ev (tbOf c_quorums_fault) (.call "family_fault" (.cons (.sub (.var 0) (.cst (.int 0))) (.cons (.slc (.var 3) (.cst .none) (.bin .add (.var 5) (.cst (.int 1)))) (.nil))) [] (.nil)) A = .ok (.d .none, A) :=
    ev_call (fd := d_family_fault) rfl rfl a1 evs_nil (zs := [eS H, eF (f.take (k + 1))]) rfl (r_family_fault N.names N.hlen N.asc (fam_take G (k + 1)) hne (by rw [List.length_take]; show _ ≤ 16000000; omega))
  have s1 : exS (tbOf c_quorums_fault) [] (.asg 6 (.call "family_fault" (.cons (.sub (.var 0) (.cst (.int 0))) (.cons (.slc (.var 3) (.cst .none) (.bin .add (.var 5) (.cst (.int 1)))) (.nil))) [] (.nil))) A = .ok (.nx, B) := exS_asg c1
  have t0 : ev (tbOf c_quorums_fault) (.cmp .isnn (.var 6) (.cst .none)) B = .ok (.d (.bool false), B) := ev_cmp (x := .none) (y := .none) (ox_var rfl rfl) ox_cst rfl
  have s2 := exS_f (X := []) (a := (.cons (.ret (.tup (.cons (.cst (.str "lot")) (.cons (.tup (.cons (.var 2) (.cons (.var 5) (.nil)))) (.nil))))) .nil)) (ev_andR (evAnd_f (es := .cons (.cmp .eq (.sub (.var 6) (.cst (.int 0))) (.cst (.str "lot"))) .nil) t0)) exB_nil
  have hx := full f[k] (List.getElem_mem _)
  have okx := okS_sub N.names (G.lots.sub f[k] (List.getElem_mem _))
  have e1 := e_eqL okx (b := []) (fun _ h => nomatch h)
  rw [decide_eq_false hx] at e1
  have v1 : ev (tbOf c_quorums_fault) (.sub (.var 3) (.var 5)) B = .ok (.d (eS f[k]), B) := ev_sub (x := eF f) (y := .int k) (ox_var rfl rfl) (ox_var rfl rfl) (cons_at eS f k hk)
  have v2 : ev (tbOf c_quorums_fault) (.tup .nil) B = .ok (.d (eS []), B) := ev_tup evs_nil (Nat.zero_le _)
  have s3 := exS_f (X := []) (a := (.cons (.ret (.tup (.cons (.cst (.str "empty")) (.cons (.tup (.cons (.var 2) (.cons (.var 5) (.nil)))) (.nil))))) .nil)) (ev_cmp (ox_ev rfl v1 rfl) (ox_ev rfl v2 rfl) e1) exB_nil
  have s4 := exS_f (X := []) (a := (.cons (.ret (.tup (.cons (.cst (.str "within")) (.cons (.tup (.cons (.var 2) (.cons (.var 5) (.nil)))) (.nil))))) .nil)) t0 exB_nil
  exact exB_n s1 (exB_n s2 (exB_n s3 (exB_n s4 exB_nil)))
theorem r_quorums_fault {H : Lot} {F Q : List Fam} (N : NetOk H F) (U : QuOk H Q) (h5 : H.length ≤ 5) : d_quorums_fault.run [.d (eN H F), .d (eQ Q)] = .ok (.d .none, []) := by
  let e0 : Evn := [some (.d (eN H F)), some (.d (eQ Q)), none, none, none, none, none]
  have l1 : ev (tbOf c_quorums_fault) (.fn .len (.var 1)) e0 = .ok (.d (.int Q.length), e0) := by
    have := ev_fn (T := tbOf c_quorums_fault) (f := .len) (a := .var 1) (env := e0) (z := .int (Q.map eF).length) (ox_var rfl rfl) rfl
    rw [List.length_map] at this
    exact this
  have l0 : ev (tbOf c_quorums_fault) (.fn .len (.sub (.var 0) (.cst (.int 0)))) e0 = .ok (.d (.int H.length), e0) := by
    have := ev_fnE (T := tbOf c_quorums_fault) (f := .len) (z := .int (H.map PyData.str).length) rfl (ev_n0 (T := tbOf c_quorums_fault) (i := 0) (env := e0) rfl) rfl
    rw [List.length_map] at this
    exact this
  have q := ne_int Q.length H.length
  rw [U.len, decide_eq_true rfl] at q
  rw [U.len] at l1
  have s1 := exS_f (T := tbOf c_quorums_fault) (X := []) (a := (.cons (.ret (.tup (.cons (.cst (.str "shape")) (.cons (.neg (.cst (.int 1))) (.nil))))) .nil))
    (ev_orR (evOr_f (ev_not (ev_ins (t := .tuple) (b := true) (ev_var (T := tbOf c_quorums_fault) (i := 1) (env := e0) rfl) rfl)) (evOr_f (ev_cmp (ox_ev rfl l1 rfl) (ox_ev rfl l0 rfl) q) evOr_nil))) exB_nil
  obtain ⟨e', s2, a, b, c, d, he'⟩ := exS_enu (T := tbOf c_quorums_fault) (X := []) (i := 2) (j := 3) (e := .var 1) (env := e0) (e0 := e0) (body := (.cons (.iff (.or (.cons (.not (.inst (.var 3) .tuple)) (.cons (.cmp .eq (.fn .len (.var 3)) (.cst (.int 0))) (.cons (.not (.fn .all (.lc [4] (.inst (.var 4) .tuple) (.nm 4) (.src (.var 3)) (.nil)))) (.nil)))))
  (.cons (.ret (.tup (.cons (.cst (.str "family")) (.cons (.var 2) (.nil)))))
  .nil)
  .nil)
  (.cons (.for (.nm 5) (.rng1 (.fn .len (.var 3))) qfIn)
  .nil))) Q eF (fun _ e => ∃ a b c d, e = [some (.d (eN H F)), some (.d (eQ Q)), a, b, none, c, d]) (ev_var rfl) (.inl rfl) ⟨_, _, _, _, rfl⟩ (by
    rintro d f s hd e ⟨a, b, c, p, rfl⟩
    have hf : f ∈ Q := by rw [hd]; simp
    have G := U.fam f hf
    have fl := few_fam G h5
    let A : Evn := [some (.d (eN H F)), some (.d (eQ Q)), some (.d (.int d.length)), some (.d (eF f)), none, c, p]
    have a1 := ev_fnE (T := tbOf c_quorums_fault) (f := .all) rfl (ev_lcM (i := 4) (elt := .inst (.var 4) .tuple) (e0 := A) f eS (fun _ => .bool true) (evI_src (e := .var 3) (ev_var rfl) rfl) (by show _ ≤ 16000000; omega) fun y hy => ⟨_, ev_inst (ev_var rfl), rfl⟩) (all_map f _)
    rw [List.all_eq_true.mpr (fun _ _ => rfl)] at a1
    have hn0 : f.length ≠ 0 := fun e => U.fne f hf (List.length_eq_zero_iff.mp e)
    have lf : ev (tbOf c_quorums_fault) (.fn .len (.var 3)) A = .ok (.d (.int f.length), A) := by
      have := ev_fn (T := tbOf c_quorums_fault) (f := .len) (a := .var 3) (env := A) (z := .int (f.map eS).length) (ox_var rfl rfl) rfl
      rw [List.length_map] at this
      exact this
    have s3 := exS_f (X := []) (a := (.cons (.ret (.tup (.cons (.cst (.str "family")) (.cons (.var 2) (.nil))))) .nil)) (ev_orR (evOr_f (ev_not (ev_ins (t := .tuple) (b := true) (ev_var (T := tbOf c_quorums_fault) (i := 3) (env := A) rfl) rfl)) (evOr_f (ev_cmp (ox_ev rfl lf rfl) (ox_cst (c := .int 0)) (eq0 hn0)) (evOr_f (ev_not a1) evOr_nil)))) exB_nil
    obtain ⟨e', s4, c', p', he'⟩ := exS_for (T := tbOf c_quorums_fault) (X := []) (tg := .nm 5) (it := .rng1 (.fn .len (.var 3))) (body := qfIn) (env := A) (e0 := A) (List.range f.length) (fun (k : Nat) => PyData.int k)
      (fun _ e => ∃ c p, e = [some (.d (eN H F)), some (.d (eQ Q)), some (.d (.int d.length)), some (.d (eF f)), none, c, p]) (evI_rng1 lf (by show _ ≤ 16000000; omega)) ⟨_, _, rfl⟩ (by
        rintro dd k ss hdd e ⟨c, p, rfl⟩
        have hk : k < f.length := List.mem_range.mp (by rw [hdd]; simp)
        exact ⟨_, _, rfl, qf_in N G (by omega) (U.full f hf) k hk _ _ _ _, _, _, rfl⟩)
    subst he'
    exact ⟨_, exB_n s3 (exB_n s4 exB_nil), _, _, _, _, rfl⟩)
  subst he'
  exact run_b rfl (exB_n s1 (exB_n s2 (exB_r (exS_ret rfl rfl)))) rfl
theorem r_are_quorums {H : Lot} {F Q : List Fam} (N : NetOk H F) (U : QuOk H Q) (h5 : H.length ≤ 5) : d_are_quorums.run [.d (eN H F), .d (eQ Q)] = .ok (.d (.bool true), []) := by
  let e0 : Evn := [some (.d (eN H F)), some (.d (eQ Q))]
  have a0 : evs (tbOf c_are_quorums) (.cons (.var 0) .nil) e0 = .ok ([eN H F], e0) := evs_x (ev_var rfl) rfl evs_nil
  have a1 : evs (tbOf c_are_quorums) (.cons (.var 0) (.cons (.var 1) .nil)) e0 = .ok ([eN H F, eQ Q], e0) := evs_x (ev_var rfl) rfl (evs_x (ev_var rfl) rfl evs_nil)
  have c0 : ev (tbOf c_are_quorums) (.call "want_net" (.cons (.var 0) (.nil)) [] (.nil)) e0 = .ok (.d .none, e0) := ev_call (fd := d_want_net) rfl rfl a0 evs_nil (zs := [eN H F]) rfl (r_want_net N)
  have c1 : ev (tbOf c_are_quorums) (.call "quorums_fault" (.cons (.var 0) (.cons (.var 1) (.nil))) [] (.nil)) e0 = .ok (.d .none, e0) := ev_call (fd := d_quorums_fault) rfl rfl a1 evs_nil (zs := [eN H F, eQ Q]) rfl (r_quorums_fault N U h5)
  exact run_b rfl (exB_n (exS_exp c0) (exB_r (exS_ret rfl (ev_cmp (ox_ev rfl c1 rfl) ox_cst rfl)))) rfl
theorem r_want_quorums {H : Lot} {F Q : List Fam} (N : NetOk H F) (U : QuOk H Q) (h5 : H.length ≤ 5) : d_want_quorums.run [.d (eN H F), .d (eQ Q)] = .ok (.d .none, []) := by
  let e0 : Evn := [some (.d (eN H F)), some (.d (eQ Q))]
  have a1 : evs (tbOf c_want_quorums) (.cons (.var 0) (.cons (.var 1) .nil)) e0 = .ok ([eN H F, eQ Q], e0) := evs_x (ev_var rfl) rfl (evs_x (ev_var rfl) rfl evs_nil)
  have c1 : ev (tbOf c_want_quorums) (.call "are_quorums" (.cons (.var 0) (.cons (.var 1) (.nil))) [] (.nil)) e0 = .ok (.d (.bool true), e0) := ev_call (fd := d_are_quorums) rfl rfl a1 evs_nil (zs := [eN H F, eQ Q]) rfl (r_are_quorums N U h5)
  have a2 : evs (tbOf c_want_quorums) (.cons (.call "are_quorums" (.cons (.var 0) (.cons (.var 1) (.nil))) [] (.nil)) (.cons (.cst (.str "quorums")) .nil)) e0 = .ok ([.bool true, .str "quorums"], e0) := evs_x c1 rfl (evs_x (r := .d (.str "quorums")) rfl rfl evs_nil)
  exact run_n rfl (exB_n (exS_exp (ev_call (fd := d_want) rfl rfl a2 evs_nil (zs := [.bool true, .str "quorums", .int (-1)]) rfl (r_want _ _))) exB_nil) rfl
theorem r_least_of {xs : Fam} (h : okF xs) (hs : ∀ a ∈ xs, a.length ≤ lim) (hl : xs.length ≤ 4000) (hd : (dedupL xs).length < 64) : d_least_of.run [.d (.list (xs.map eS))] = .ok (.d (eF (leastM xs)), []) := by
  have hk : okF (sortL xs) := fun a ha => h a (mem_sortL.mp ha)
  have hs' : ∀ a ∈ sortL xs, a.length ≤ lim := fun a ha => hs a (mem_sortL.mp ha)
  have hll : (sortL xs).length ≤ lim := by rw [len_sortL]; show _ ≤ 16000000; omega
  let e1 : Evn := [some (.d (.list (xs.map eS))), some (.d (.list ((sortL xs).map eS))), none, none]
  have s1 : exS (tbOf c_least_of) [] (.asg 1 (.fn .sset (.var 0))) [some (.d (.list (xs.map eS))), none, none, none] = .ok (.nx, [some (.d (.list (xs.map eS))), some (.o (.list ((sortL xs).map eS))), none, none]) :=
    exS_asg (ev_fn (z := .list ((sortL xs).map eS)) (ox_var rfl rfl) (sset_S h hl hd))
  have hin : ∀ a ∈ sortL xs, ev (tbOf c_least_of) (.fn .any (.lc [3] (.and (.cons (.cmp .ne (.var 3) (.var 2)) (.cons (.call "lies_in" (.cons (.var 3) (.cons (.var 2) (.nil))) [] (.nil)) (.nil)))) (.nm 3) (.src (.var 1)) (.nil))) (e1.set 2 (some (.d (eS a)))) =
      .ok (.d (.bool ((sortL xs).any fun o => !decide (o = a) && liesIn o a)), e1.set 2 (some (.d (eS a)))) := by
    intro a ha
    refine ev_fnE rfl (ev_lcM (sortL xs) eS (fun o => .bool (!decide (o = a) && liesIn o a)) (evI_src (ev_var rfl) rfl) hll fun o ho => ?_) (any_map _ _)
    exact ⟨_, ev_andR (evAnd_c (ev_cmp (ox_var rfl rfl) (ox_var rfl rfl) (e_neL (hk o ho) (hk a ha))) fun _ => evAnd_1 (ev_call (fd := d_lies_in) rfl rfl (evs_x (ev_var rfl) rfl (evs_x (ev_var rfl) rfl evs_nil)) evs_nil (zs := [eS o, eS a]) rfl (r_lies_in (hs' o ho) (hk o ho) (hk a ha)))), rfl⟩
  have e2 := ev_lcF (T := tbOf c_least_of) (i := 2) (env := [some (.d (.list (xs.map eS))), some (.o (.list ((sortL xs).map eS))), none, none]) (e0 := e1) (sortL xs) eS _ (evI_src (e := .var 1) (ev_varO rfl) rfl) hll (show 2 < 4 by decide) fun a ha => ev_not (hin a ha)
  exact run_b rfl (exB_n s1 (exB_r (exS_ret rfl (ev_fnE (z := eF (leastM xs)) rfl e2 rfl)))) rfl
def kerIn : Sms := (.cons (.iff (.cmp .gt (.fn .len (.call "common_of" (.cons (.var 6) (.cons (.var 4) (.nil))) [] (.nil))) (.cst (.int 0)))
  (.cons (.app 5 (.var 6))
  .nil)
  (.cons (.ext 5 (.lc [7] (.fn .tuple (.fn .sorted (.lst (.star (.var 6) (.cons (.var 7) (.nil)))))) (.nm 7) (.src (.var 4)) (.nil)))
  .nil))
  .nil)
theorem ker_in {H : Lot} (hH : okS H) (hl : H.length ≤ 5) {k q : Lot} (hk : k.Sublist H) (hq : q.Sublist H) (L : Fam) (hL : L.length ≤ 1000) (a b c d : Option Vl) :
    exB (tbOf c_kernels_of) [] kerIn [a, b, c, d, some (.d (eS q)), some (.o (.list (L.map eS))), some (.d (eS k)), none] =
      .ok (.nx, [a, b, c, d, some (.d (eS q)), some (.o (.list ((L ++ (if hits k q then [k] else q.map fun n => sortS (k ++ [n]))).map eS))), some (.d (eS k)), none]) := by
  have okk := okS_sub hH hk
  have okq := okS_sub hH hq
  have lk := hk.length_le
  have lq := hq.length_le
  let A : Evn := [a, b, c, d, some (.d (eS q)), some (.o (.list (L.map eS))), some (.d (eS k)), none]
  have a1 : evs (tbOf c_kernels_of) (.cons (.var 6) (.cons (.var 4) .nil)) A = .ok ([eS k, eS q], A) := evs_x (ev_var rfl) rfl (evs_x (ev_var rfl) rfl evs_nil)
  have c1 : ev (tbOf c_kernels_of) (.call "common_of" (.cons (.var 6) (.cons (.var 4) (.nil))) [] (.nil)) A = .ok (.d (eS (commonOf k q)), A) := ev_call (fd := d_common_of) rfl rfl a1 evs_nil (zs := [eS k, eS q]) rfl (r_common_of (by show _ ≤ 16000000; omega) okk okq)
  have l1 : ev (tbOf c_kernels_of) (.fn .len (.call "common_of" (.cons (.var 6) (.cons (.var 4) (.nil))) [] (.nil))) A = .ok (.d (.int (commonOf k q).length), A) := by
    have := ev_fnE (f := .len) (z := .int ((commonOf k q).map PyData.str).length) rfl c1 rfl
    rw [List.length_map] at this
    exact this
  have g := gt0 (commonOf k q).length
  rw [hits_common] at g
  have t1 := ev_cmp (op := .gt) (ox_ev rfl l1 rfl) (ox_cst (c := .int 0)) g
  cases hb : hits k q with
  | true =>
    rw [hb] at t1
    have s1 := exS_app (T := tbOf c_kernels_of) (X := []) (i := 5) (e := .var 6) (env := A) (ys := L.map eS) (xs := L.map eS) rfl (ev_var rfl) rfl (by rw [List.length_map]; show _ < 16000000; omega)
    refine exB_n (exS_t t1 (exB_n s1 exB_nil)) ?_
    rw [if_pos rfl, List.map_append]
    rfl
  | false =>
    rw [hb] at t1
    have e1 := ev_lcM (T := tbOf c_kernels_of) (i := 7) (elt := .fn .tuple (.fn .sorted (.lst (.star (.var 6) (.cons (.var 7) (.nil)))))) (env := A) (e0 := A) q PyData.str (fun n => eS (sortS (k ++ [n]))) (evI_src (e := .var 4) (ev_var rfl) (items_S q)) (by show _ ≤ 16000000; omega) (fun n hn => by
      let B : Evn := A.set 7 (some (.d (.str n)))
      have v6 : ev (tbOf c_kernels_of) (.var 6) B = .ok (.d (eS k), B) := ev_var rfl
      have v7 : ev (tbOf c_kernels_of) (.var 7) B = .ok (.d (.str n), B) := ev_var rfl
      have w1 : evs (tbOf c_kernels_of) (.star (.var 6) (.cons (.var 7) .nil)) B = .ok (k.map PyData.str ++ [.str n], B) := evs_star v6 rfl (evs_x v7 rfl evs_nil)
      have w2 := ev_lst w1 (by rw [List.length_append, List.length_map]; show k.length + 1 ≤ 16000000; omega)
      have e : k.map PyData.str ++ [PyData.str n] = (k ++ [n]).map PyData.str := by simp
      rw [e] at w2
      have okn : okS (k ++ [n]) := fun m hm => (List.mem_append.mp hm).elim (okk m) fun h => by rw [List.mem_singleton.mp h]; exact okq n hn
      have w3 := ev_fnE (f := .sorted) rfl w2 (sorted_N okn (by rw [List.length_append]; show k.length + 1 ≤ 16000000; omega))
      have w4 := ev_fnE (f := .tuple) (z := eS (sortS (k ++ [n]))) rfl w3 rfl
      exact ⟨_, w4, rfl⟩)
    have s1 := exS_ext (X := []) (i := 5) (env := A) (ws := L.map eS) (xs := L.map eS) rfl e1 rfl (by rw [List.length_map, List.length_map]; show _ ≤ 16000000; omega)
    refine exB_n (exS_f t1 (exB_n s1 exB_nil)) ?_
    rw [if_neg (by decide), List.map_append, List.map_map]
    rfl
theorem r_kernels_of {H : Lot} {F Q : List Fam} (N : NetOk H F) (U : QuOk H Q) (h5 : H.length ≤ 5) {t : Str} (ht : t ∈ H) : d_kernels_of.run [.d (eN H F), .d (eQ Q), .d (.str t)] = .ok (.d (eF (kern (famBy H Q t))), []) := by
  have hf := famBy_mem U.len ht
  generalize hfe : famBy H Q t = f at *
  have G := U.fam f hf
  have fl := few_fam G h5
  have hasc : H.Pairwise fun a b => ltN a b = true := N.asc
  let A : Evn := [some (.d (eN H F)), some (.d (eQ Q)), some (.d (.str t)), none, none, none, none, none]
  have a1 : evs (tbOf c_kernels_of) (.cons (.var 0) (.cons (.var 1) .nil)) A = .ok ([eN H F, eQ Q], A) := evs_x (ev_var rfl) rfl (evs_x (ev_var rfl) rfl evs_nil)
  have a2 : evs (tbOf c_kernels_of) (.cons (.var 0) (.cons (.var 2) .nil)) A = .ok ([eN H F, .str t], A) := evs_x (ev_var rfl) rfl (evs_x (ev_var rfl) rfl evs_nil)
  have c1 : ev (tbOf c_kernels_of) (.call "want_quorums" (.cons (.var 0) (.cons (.var 1) (.nil))) [] (.nil)) A = .ok (.d .none, A) := ev_call (fd := d_want_quorums) rfl rfl a1 evs_nil (zs := [eN H F, eQ Q]) rfl (r_want_quorums N U h5)
  have c2 : ev (tbOf c_kernels_of) (.call "want_house" (.cons (.var 0) (.cons (.var 2) (.nil))) [] (.nil)) A = .ok (.d .none, A) := ev_call (fd := d_want_house) rfl rfl a2 evs_nil (zs := [eN H F, .str t, .str "house"]) rfl (r_want_house N ht "house")
  let B : Evn := [some (.d (eN H F)), some (.d (eQ Q)), some (.d (.str t)), some (.d (eF [[]])), none, none, none, none]
  have s3 : exS (tbOf c_kernels_of) [] (.asg 3 (.tup (.cons (.tup (.nil)) (.nil)))) A = .ok (.nx, B) := exS_asg (ev_tup (evs_x (r := .d (eS [])) (ev_tup evs_nil (Nat.zero_le _)) rfl evs_nil) (show 1 ≤ 16000000 by decide))
  have a4 : evs (tbOf c_kernels_of) (.cons (.var 0) (.cons (.var 1) (.cons (.var 2) .nil))) B = .ok ([eN H F, eQ Q, .str t], B) := evs_x (ev_var rfl) rfl (evs_x (ev_var rfl) rfl (evs_x (ev_var rfl) rfl evs_nil))
  have c4 : ev (tbOf c_kernels_of) (.call "quorums_by" (.cons (.var 0) (.cons (.var 1) (.cons (.var 2) (.nil)))) [] (.nil)) B = .ok (.d (eF f), B) := ev_call (fd := d_quorums_by) rfl rfl a4 evs_nil (zs := [eN H F, eQ Q, .str t]) rfl (hfe ▸ r_quorums_by N U.len ht)
  obtain ⟨e', s4, p, q, r, he'⟩ := exS_for (T := tbOf c_kernels_of) (X := []) (tg := .nm 4) (it := .src (.call "quorums_by" (.cons (.var 0) (.cons (.var 1) (.cons (.var 2) (.nil)))) [] (.nil))) (body := (.cons (.asg 5 (.lst (.nil)))
  (.cons (.for (.nm 6) (.src (.var 3)) kerIn)
  (.cons (.asg 3 (.call "least_of" (.cons (.var 5) (.nil)) [] (.nil)))
  .nil)))) (env := B) (e0 := B) f eS (fun P e => ∃ p q r, e = [some (.d (eN H F)), some (.d (eQ Q)), some (.d (.str t)), some (.d (eF (kern P))), p, q, r, none]) (evI_src c4 rfl) ⟨none, none, none, rfl⟩ (by
    rintro P g s hd e ⟨p, q, r, rfl⟩
    have hg : g ∈ f := by rw [hd]; simp
    have hgs := G.lots.sub g hg
    have hP : ∀ x ∈ P, x.Sublist H := fun x hx => G.lots.sub x (by rw [hd]; simp [hx])
    obtain ⟨D, FK⟩ := kern_ok hasc P hP
    have kl := few_fam FK h5
    have gl := hgs.length_le
    have s5 : exS (tbOf c_kernels_of) [] (.asg 5 (.lst (.nil))) [some (.d (eN H F)), some (.d (eQ Q)), some (.d (.str t)), some (.d (eF (kern P))), some (.d (eS g)), q, r, none] = .ok (.nx, [some (.d (eN H F)), some (.d (eQ Q)), some (.d (.str t)), some (.d (eF (kern P))), some (.d (eS g)), some (.o (.list [])), r, none]) := exS_asg (ev_lst evs_nil (Nat.zero_le _))
    let C : Evn := [some (.d (eN H F)), some (.d (eQ Q)), some (.d (.str t)), some (.d (eF (kern P))), some (.d (eS g)), some (.o (.list [])), r, none]
    obtain ⟨e', s6, r', he'⟩ := exS_for (T := tbOf c_kernels_of) (X := []) (tg := .nm 6) (it := .src (.var 3)) (body := kerIn) (env := C) (e0 := C) (kern P) eS
      (fun d e => ∃ r, e = [some (.d (eN H F)), some (.d (eQ Q)), some (.d (.str t)), some (.d (eF (kern P))), some (.d (eS g)), some (.o (.list ((late d g).map eS))), r, none]) (evI_src (ev_var rfl) rfl) ⟨r, rfl⟩ (by
        rintro d k s hd e ⟨r, rfl⟩
        have hk : k ∈ kern P := by rw [hd]; simp
        have hdl : d.length ≤ 32 := by have := congrArg List.length hd; rw [List.length_append] at this; omega
        have ll : (late d g).length ≤ 1000 := by
          have := late_len d g
          have : d.length * (g.length + 1) ≤ 32 * 6 := Nat.mul_le_mul hdl (by omega)
          omega
        have w := ker_in N.names h5 (D.lots.sub k hk) hgs (late d g) ll (some (.d (eN H F))) (some (.d (eQ Q))) (some (.d (.str t))) (some (.d (eF (kern P))))
        refine ⟨_, _, rfl, w, some (.d (eS k)), ?_⟩
        rw [late_snoc])
    subst he'
    have LL := late_lots hasc D.lots hgs
    have ll : (late (kern P) g).length ≤ 4000 := by
      have := late_len (kern P) g
      have : (kern P).length * (g.length + 1) ≤ 32 * 6 := Nat.mul_le_mul kl (by omega)
      omega
    let E : Evn := [some (.d (eN H F)), some (.d (eQ Q)), some (.d (.str t)), some (.d (eF (kern P))), some (.d (eS g)), some (.o (.list ((late (kern P) g).map eS))), r', none]
    let E2 : Evn := [some (.d (eN H F)), some (.d (eQ Q)), some (.d (.str t)), some (.d (eF (kern P))), some (.d (eS g)), some (.d (.list ((late (kern P) g).map eS))), r', none]
    have a7 : evs (tbOf c_kernels_of) (.cons (.var 5) .nil) E = .ok ([.list ((late (kern P) g).map eS)], E2) := evs_x (ev_varO rfl) rfl evs_nil
    have c7 : ev (tbOf c_kernels_of) (.call "least_of" (.cons (.var 5) (.nil)) [] (.nil)) E = .ok (.d (eF (leastM (late (kern P) g))), E2) := ev_call (fd := d_least_of) rfl rfl a7 evs_nil (zs := [.list ((late (kern P) g).map eS)]) rfl
      (r_least_of (okF_lots N.names LL) (fun a ha => by have := (LL.sub a ha).length_le; show _ ≤ 16000000; omega) ll (few LL h5))
    have s7 := exS_asg (X := []) (i := 3) c7
    refine ⟨_, _, rfl, exB_n s5 (exB_n s6 (exB_n s7 exB_nil)), some (.d (eS g)), some (.d (.list ((late (kern P) g).map eS))), r', ?_⟩
    rw [kern_snoc]
    rfl)
  subst he'
  exact run_b rfl (exB_n (exS_exp c1) (exB_n (exS_exp c2) (exB_n s3 (exB_n s4 (exB_r (exS_retV rfl)))))) rfl
end HeadT

set_option maxRecDepth 100000
namespace HeadT
open PySem Qv
theorem r_is_kernel {H : Lot} {F Q : List Fam} (N : NetOk H F) (U : QuOk H Q) (h5 : H.length ≤ 5) {t : Str} (ht : t ∈ H) {s : Lot} (hs : s.Sublist H) : d_is_kernel.run [.d (eN H F), .d (eQ Q), .d (.str t), .d (eS s)] = .ok (.d (.bool (decide (s ∈ kern (famBy H Q t)))), []) := by
  have hf := famBy_mem U.len ht
  obtain ⟨D, FK⟩ := kern_ok (H := H) N.asc (famBy H Q t) (U.fam _ hf).lots.sub
  let A : Evn := [some (.d (eN H F)), some (.d (eQ Q)), some (.d (.str t)), some (.d (eS s)), none]
  let B : Evn := [some (.d (eN H F)), some (.d (eQ Q)), some (.d (.str t)), some (.d (eS s)), some (.d (eF (kern (famBy H Q t))))]
  have a1 : evs (tbOf c_is_kernel) (.cons (.var 0) (.cons (.var 1) (.cons (.var 2) .nil))) A = .ok ([eN H F, eQ Q, .str t], A) := evs_x (ev_var rfl) rfl (evs_x (ev_var rfl) rfl (evs_x (ev_var rfl) rfl evs_nil))
  have c1 : ev (tbOf c_is_kernel) (.call "kernels_of" (.cons (.var 0) (.cons (.var 1) (.cons (.var 2) (.nil)))) [] (.nil)) A = .ok (.d (eF (kern (famBy H Q t))), A) := ev_call (fd := d_kernels_of) rfl rfl a1 evs_nil (zs := [eN H F, eQ Q, .str t]) rfl (r_kernels_of N U h5 ht)
  have s1 : exS (tbOf c_is_kernel) [] (.asg 4 (.call "kernels_of" (.cons (.var 0) (.cons (.var 1) (.cons (.var 2) (.nil)))) [] (.nil))) A = .ok (.nx, B) := exS_asg c1
  have a2 : evs (tbOf c_is_kernel) (.cons (.var 0) (.cons (.var 3) .nil)) B = .ok ([eN H F, eS s], B) := evs_x (ev_var rfl) rfl (evs_x (ev_var rfl) rfl evs_nil)
  have c2 : ev (tbOf c_is_kernel) (.call "want_lot" (.cons (.var 0) (.cons (.var 3) (.nil))) [] (.nil)) B = .ok (.d .none, B) := ev_call (fd := d_want_lot) rfl rfl a2 evs_nil (zs := [eN H F, eS s, .str "lot"]) rfl (r_want_lot N hs "lot")
  have sh : shp (eF (kern (famBy H Q t))) = true := (nice_fam N.names N.hlen FK.lots (by have := few_fam FK h5; omega)).shp (by decide)
  have o3 : Ox (tbOf c_is_kernel) (.var 3) B (eS s) := ox_var rfl rfl
  have o4 : Ox (tbOf c_is_kernel) (.var 4) B (eF (kern (famBy H Q t))) := ox_var rfl rfl
  exact run_b rfl (exB_n s1 (exB_n (exS_exp c2) (exB_r (exS_ret rfl (ev_cmp o3 o4 (e_inL (okS_sub N.names hs) sh)))))) rfl
theorem bsmall_of2 {i : Int} (h1 : 0 ≤ i) (h2 : i < 2147483649) : bsmall i = true := by
  unfold bsmall
  rw [decide_eq_true (by omega), decide_eq_true (by omega)]
  rfl
def fdx (cells : List Int) (nx lf dr : Int) : PyData := .dict [(.str "cells", .list (cells.map .int)), (.str "at", .int nx), (.str "left", .int lf), (.str "drawn", .int dr)]
def FeedOk (x : PyData) : Prop := ∃ (cells : List Int) (nx lf dr : Int), x = fdx cells nx lf dr ∧ cells.length ≤ 63
theorem sub_cells {cells : List Int} {nx lf dr : Int} : subD (fdx cells nx lf dr) (.str "cells") = .ok (.list (cells.map .int)) := by rfl
theorem sub_next {cells : List Int} {nx lf dr : Int} : subD (fdx cells nx lf dr) (.str "at") = .ok (.int nx) := by rfl
theorem sub_left {cells : List Int} {nx lf dr : Int} : subD (fdx cells nx lf dr) (.str "left") = .ok (.int lf) := by rfl
theorem sub_drawn {cells : List Int} {nx lf dr : Int} : subD (fdx cells nx lf dr) (.str "drawn") = .ok (.int dr) := by rfl
theorem put_drawn {T : Tb} {X : Xcs} {e : Ex} {cells : List Int} {nx lf dr z : Int} {p : List (Option Vl)} (h : ev T e (some (.o (fdx cells nx lf dr)) :: p) = .ok (.d (.int z), some (.o (fdx cells nx lf dr)) :: p)) :
    exS T X (.put 0 "drawn" e) (some (.o (fdx cells nx lf dr)) :: p) = .ok (.nx, some (.o (fdx cells nx lf z)) :: p) := (exS_put h rfl (by show 4 ≤ 16000000; decide)).trans rfl
theorem put_left {T : Tb} {X : Xcs} {e : Ex} {cells : List Int} {nx lf dr z : Int} {p : List (Option Vl)} (h : ev T e (some (.o (fdx cells nx lf dr)) :: p) = .ok (.d (.int z), some (.o (fdx cells nx lf dr)) :: p)) :
    exS T X (.put 0 "left" e) (some (.o (fdx cells nx lf dr)) :: p) = .ok (.nx, some (.o (fdx cells nx z dr)) :: p) := (exS_put h rfl (by show 4 ≤ 16000000; decide)).trans rfl
theorem put_next {T : Tb} {X : Xcs} {e : Ex} {cells : List Int} {nx lf dr z : Int} {p : List (Option Vl)} (h : ev T e (some (.o (fdx cells nx lf dr)) :: p) = .ok (.d (.int z), some (.o (fdx cells nx lf dr)) :: p)) :
    exS T X (.put 0 "at" e) (some (.o (fdx cells nx lf dr)) :: p) = .ok (.nx, some (.o (fdx cells z lf dr)) :: p) := (exS_put h rfl (by show 4 ≤ 16000000; decide)).trans rfl
theorem r_feed (ns : List Int) (h : ns.length ≤ 63) : d__law_feed.run [.d (.list (ns.map .int))] = .ok (.o (fdx ns 0 0 0), []) := by
  have e1 : ev (tbOf c__law_feed) (.slc (.var 0) (.cst .none) (.cst (.int 63))) [some (.d (.list (ns.map .int))), none] = .ok (.o (.list (ns.map .int)), [some (.d (.list (ns.map .int))), none]) :=
    ev_slc (z := .list (ns.map .int)) (p := .vl (.d (.list (ns.map .int)))) (q := .d .none) (s := .d (.int (63 : Nat))) rfl rfl rfl rfl rfl rfl (slcL_all 63 (by rw [List.length_map]; exact h))
  have e2 := ev_lcM (T := tbOf c__law_feed) (i := 1) (elt := .fn .int (.var 1)) (e0 := [some (.d (.list (ns.map .int))), none]) ns .int .int (evI_src e1 rfl) (by show _ ≤ 16000000; omega) (fun n hn => ⟨_, ev_fn (z := .int n) (ox_var rfl rfl) rfl, rfl⟩)
  exact run_ret rfl rfl (ev_dct (ks := ["cells", "at", "left", "drawn"]) (evs_x e2 rfl (evs_x (r := .d (.int 0)) rfl rfl (evs_x (r := .d (.int 0)) rfl rfl (evs_x (r := .d (.int 0)) rfl rfl evs_nil))))) rfl
theorem r_draw {x : PyData} (hx : FeedOk x) {m : Nat} (hm : 0 < m) (hm2 : m < 1073741824) : ∃ (v : Nat) (x' : PyData), d__law_draw.run [.o x, .d (.int m)] = .ok (.d (.int v), [x']) ∧ v < m ∧ FeedOk x' := by
  obtain ⟨cells, nx, lf, dr, rfl, hc⟩ := hx
  have hm0 : (m : Int) ≠ 0 := by omega
  have hma : (m : Int).natAbs < 1073741824 := by omega
  have vof : ∀ z : Int, ∃ v : Nat, (.int (z.fmod m) : PyData) = .int v ∧ v < m := by
    intro z
    have h1 : 0 ≤ z.fmod m := fmod_lo (by omega)
    have h2 : z.fmod m < m := fmod_hi (by omega)
    exact ⟨(z.fmod m).toNat, by rw [Int.toNat_of_nonneg h1], by omega⟩
  let T : Tb := tbOf c__law_draw
  let p : List (Option Vl) := [some (.d (.int m)), none, none, none, none, none]
  have s1 := put_drawn (T := T) (X := []) (e := .bin .add (.sub (.var 0) (.cst (.str "drawn"))) (.cst (.int 1))) (cells := cells) (nx := nx) (lf := lf) (dr := dr) (z := dr + 1) (p := p) (ev_bin (z := .int (dr + 1)) (ox_ev rfl (ev_sub (ox_var rfl rfl) ox_cst sub_drawn) rfl) ox_cst rfl)
  have t1 : ev T (.cmp .gt (.sub (.var 0) (.cst (.str "left"))) (.cst (.int 0))) (some (.o (fdx cells nx lf (dr + 1))) :: p) = .ok (.d (.bool (decide (0 < lf))), some (.o (fdx cells nx lf (dr + 1))) :: p) :=
    ev_cmp (ox_ev rfl (ev_sub (ox_var rfl rfl) ox_cst sub_left) rfl) ox_cst rfl
  cases hb : decide (0 < lf) with
  | true =>
    rw [hb] at t1
    have a1 := exS_asg (T := T) (X := []) (i := 2) (e := .bin .mod (.fn .int (.sub (.var 0) (.cst (.str "left")))) (.var 1)) (env := some (.o (fdx cells nx lf (dr + 1))) :: p)
      (ev_bin (z := .int (lf.fmod m)) (ox_ev rfl (ev_fnE (f := .int) (z := .int lf) rfl (ev_sub (ox_var rfl rfl) ox_cst sub_left) rfl) rfl) (ox_var rfl rfl) (mod_ok hm0))
    have a2 := put_left (T := T) (X := []) (e := .bin .fdiv (.sub (.var 0) (.cst (.str "left"))) (.var 1)) (cells := cells) (nx := nx) (lf := lf) (dr := dr + 1) (z := lf.fdiv m) (p := [some (.d (.int m)), some (.d (.int (lf.fmod m))), none, none, none, none])
      (ev_bin (z := .int (lf.fdiv m)) (ox_ev rfl (ev_sub (ox_var rfl rfl) ox_cst sub_left) rfl) (ox_var rfl rfl) (fdiv_ok hm0 hma))
    obtain ⟨v, hv, hvm⟩ := vof lf
    refine ⟨v, fdx cells nx (lf.fdiv m) (dr + 1), ?_, hvm, _, _, _, _, rfl, hc⟩
    rw [← hv]
    exact run_b rfl (exB_n s1 (exB_r (exS_t t1 (exB_n a1 (exB_n a2 (exB_r (exS_retV rfl))))))) rfl
  | false =>
    rw [hb] at t1
    have s2 := exS_f (X := []) (a := (.cons (.asg 2 (.bin .mod (.fn .int (.sub (.var 0) (.cst (.str "left")))) (.var 1))) (.cons (.put 0 "left" (.bin .fdiv (.sub (.var 0) (.cst (.str "left"))) (.var 1))) (.cons (.ret (.var 2)) .nil)))) t1 exB_nil
    have s3 := exS_asg2 (T := T) (X := []) (i := 3) (j := 4) (env := some (.o (fdx cells nx lf (dr + 1))) :: p) (ev_sub (a := .var 0) (b := .cst (.str "cells")) (ox_var rfl rfl) ox_cst sub_cells) (ev_sub (a := .var 0) (b := .cst (.str "at")) (ox_var rfl rfl) ox_cst sub_next)
    have s4 := put_next (T := T) (X := []) (e := .bin .add (.var 4) (.cst (.int 1))) (cells := cells) (nx := nx) (lf := lf) (dr := dr + 1) (z := nx + 1) (p := [some (.d (.int m)), none, some (.d (.list (cells.map .int))), some (.d (.int nx)), none, none]) (ev_bin (z := .int (nx + 1)) (ox_var rfl rfl) ox_cst rfl)
    have lenE : ∀ q r, ev T (.fn .len (.var 3)) [some (.o (fdx cells (nx + 1) lf (dr + 1))), some (.d (.int m)), none, some (.d (.list (cells.map .int))), some (.d (.int nx)), q, r] = .ok (.d (.int cells.length), [some (.o (fdx cells (nx + 1) lf (dr + 1))), some (.d (.int m)), none, some (.d (.list (cells.map .int))), some (.d (.int nx)), q, r]) := by
      intro q r
      have := ev_fn (T := T) (f := .len) (a := .var 3) (env := [some (.o (fdx cells (nx + 1) lf (dr + 1))), some (.d (.int m)), none, some (.d (.list (cells.map .int))), some (.d (.int nx)), q, r]) (z := .int (cells.map PyData.int).length) (ox_var rfl rfl) rfl
      rw [List.length_map] at this
      exact this
    let E : Evn := [some (.o (fdx cells (nx + 1) lf (dr + 1))), some (.d (.int m)), none, some (.d (.list (cells.map .int))), some (.d (.int nx)), none, none]
    have hcell : ∃ c : Int, ev T (.ite (.cmp .ne (.var 3) (.lst (.nil))) (.sub (.var 3) (.bin .mod (.fn .int (.var 4)) (.fn .len (.var 3)))) (.cst (.int 68927))) E = .ok (.d (.int c), E) := by
      have c1 := ev_cmp (T := T) (op := .ne) (a := .var 3) (b := .lst .nil) (env := E) (ox_var rfl rfl) ox_nil (list_nnil (shp_ints cells))
      have c2 := (ev_ite c1 (a := .sub (.var 3) (.bin .mod (.fn .int (.var 4)) (.fn .len (.var 3)))) (b := .cst (.int 68927)))
      by_cases h0 : cells = []
      · exact ⟨68927, c2.trans (by subst h0; rfl)⟩
      · have hl : 0 < cells.length := List.length_pos_iff.mpr h0
        have he : (!(cells.map PyData.int).isEmpty) = true := by cases cells with
          | nil => exact absurd rfl h0
          | cons _ _ => rfl
        rw [he] at c2
        have m1 := fmod_lo (i := nx) (j := cells.length) (by omega)
        have m2 := fmod_hi (i := nx) (j := cells.length) (by omega)
        have hs : subD (.list (cells.map .int)) (.int (nx.fmod cells.length)) = .ok (.int (cells[(nx.fmod cells.length).toNat]'(by omega))) := by
          show optR ((idxD (cells.map PyData.int).length (nx.fmod cells.length)).bind fun k => (cells.map PyData.int)[k]?) = _
          have : idxD (cells.map PyData.int).length (nx.fmod cells.length) = some (nx.fmod cells.length).toNat := by
            unfold idxD
            rw [if_pos m1, List.length_map, if_pos (by omega)]
          rw [this]
          simp only [Option.bind_some, List.getElem?_map]
          rw [List.getElem?_eq_getElem (by omega)]
          rfl
        have i1 := ev_fn (T := T) (f := .int) (a := .var 4) (env := E) (z := .int nx) (ox_var rfl rfl) rfl
        have hl0 : (cells.length : Int) ≠ 0 := by omega
        exact ⟨_, c2.trans (ev_sub (ox_var rfl rfl) (ox_ev rfl (ev_bin (z := .int (nx.fmod cells.length)) (ox_ev rfl i1 rfl) (ox_ev rfl (lenE none none) rfl) (mod_ok hl0)) rfl) hs)⟩
    obtain ⟨c, hcv⟩ := hcell
    have s5 := exS_asg (X := []) (i := 5) hcv
    let G : Evn := [some (.o (fdx cells (nx + 1) lf (dr + 1))), some (.d (.int m)), none, some (.d (.list (cells.map .int))), some (.d (.int nx)), some (.d (.int c)), none]
    have t2 := ev_andR (evAnd_c (T := T) (env := G) (e1 := G) (a := .cmp .ge (.var 5) (.bin .pow (.cst (.int 10)) (.cst (.int 18)))) (es := .cons (.cmp .lt (.var 4) (.fn .len (.var 3))) .nil) (b := decide ((10 ^ 18 : Int) ≤ c)) (c := decide (nx < cells.length))
      (ev_cmp (ox_var rfl rfl) (ox_ev rfl (ev_bin (z := .int (10 ^ 18)) ox_cst ox_cst rfl) rfl) rfl) fun _ => evAnd_1 (ev_cmp (ox_var rfl rfl) (ox_ev rfl (lenE (some (.d (.int c))) none) rfl) rfl))
    cases hb2 : (decide ((10 ^ 18 : Int) ≤ c) && decide (nx < cells.length)) with
    | true =>
      rw [hb2] at t2
      have a1 := put_left (T := T) (X := []) (e := .bin .fdiv (.var 5) (.var 1)) (cells := cells) (nx := nx + 1) (lf := lf) (dr := dr + 1) (z := c.fdiv m) (p := [some (.d (.int m)), none, some (.d (.list (cells.map .int))), some (.d (.int nx)), some (.d (.int c)), none])
        (ev_bin (z := .int (c.fdiv m)) (ox_var rfl rfl) (ox_var rfl rfl) (fdiv_ok hm0 hma))
      have a2 := exS_ret (T := T) (X := []) (e := .bin .mod (.fn .int (.var 5)) (.var 1)) (env := [some (.o (fdx cells (nx + 1) (c.fdiv m) (dr + 1))), some (.d (.int m)), none, some (.d (.list (cells.map .int))), some (.d (.int nx)), some (.d (.int c)), none]) rfl
        (ev_bin (z := .int (c.fmod m)) (ox_ev rfl (ev_fn (f := .int) (z := .int c) (ox_var rfl rfl) rfl) rfl) (ox_var rfl rfl) (mod_ok hm0))
      obtain ⟨v, hv, hvm⟩ := vof c
      refine ⟨v, fdx cells (nx + 1) (c.fdiv m) (dr + 1), ?_, hvm, _, _, _, _, rfl, hc⟩
      rw [← hv]
      exact run_b rfl (exB_n s1 (exB_n s2 (exB_n s3 (exB_n s4 (exB_n s5 (exB_r (exS_t t2 (exB_n a1 (exB_r a2))))))))) rfl
    | false =>
      rw [hb2] at t2
      have s6 := exS_f (X := []) (a := (.cons (.put 0 "left" (.bin .fdiv (.var 5) (.var 1))) (.cons (.ret (.bin .mod (.fn .int (.var 5)) (.var 1))) .nil))) t2 exB_nil
      have dG : ∀ q : Option Vl, ev T (.sub (.var 0) (.cst (.str "drawn"))) [some (.o (fdx cells (nx + 1) lf (dr + 1))), some (.d (.int m)), none, some (.d (.list (cells.map .int))), some (.d (.int nx)), some (.d (.int c)), q] = .ok (.d (.int (dr + 1)), [some (.o (fdx cells (nx + 1) lf (dr + 1))), some (.d (.int m)), none, some (.d (.list (cells.map .int))), some (.d (.int nx)), some (.d (.int c)), q]) :=
        fun q => ev_sub (ox_var rfl rfl) ox_cst sub_drawn
      have hm1 : ∃ z : Int, ev T (.bin .mod (.fn .int (.bin .add (.bin .add (.bin .mod (.fn .int (.var 5)) (.cst (.int 1000001581))) (.bin .mul (.cst (.int 76441)) (.sub (.var 0) (.cst (.str "drawn"))))) (.cst (.int 569)))) (.cst (.int 2147483489))) G = .ok (.d (.int z), G) ∧ 0 ≤ z ∧ z < 2147483649 := by
        let w : Int := c.fmod 1000001581 + 76441 * (dr + 1) + 569
        have hw := fmod_hi (i := w) (j := 2147483489) (by decide)
        refine ⟨w.fmod 2147483489, ?_, fmod_lo (by decide), by omega⟩
        have e1 := ev_fn (T := T) (f := .int) (a := .var 5) (env := G) (z := .int c) (ox_var rfl rfl) rfl
        have e2 := ev_bin (op := .mod) (z := .int (c.fmod 1000001581)) (ox_ev rfl e1 rfl) (ox_cst (c := .int 1000001581)) (mod_ok (by decide))
        have e4 := ev_bin (op := .mul) (z := .int (76441 * (dr + 1))) (ox_cst (c := .int 76441)) (ox_ev rfl (dG none) rfl) (mul_ok (.inl (by decide)))
        have e5 := ev_bin (op := .add) (z := .int (c.fmod 1000001581 + 76441 * (dr + 1))) (ox_ev rfl e2 rfl) (ox_ev rfl e4 rfl) rfl
        have e6 := ev_bin (op := .add) (z := .int w) (ox_ev rfl e5 rfl) (ox_cst (c := .int 569)) rfl
        have e7 := ev_fnE (f := .int) (z := .int w) rfl e6 rfl
        exact ev_bin (op := .mod) (z := .int (w.fmod 2147483489)) (ox_ev rfl e7 rfl) (ox_cst (c := .int 2147483489)) (mod_ok (by decide))
      obtain ⟨z1, hz1, z1a, z1b⟩ := hm1
      have s7 := exS_asg (X := []) (i := 6) hz1
      let J : Evn := [some (.o (fdx cells (nx + 1) lf (dr + 1))), some (.d (.int m)), none, some (.d (.list (cells.map .int))), some (.d (.int nx)), some (.d (.int c)), some (.d (.int z1))]
      have hm3 : ∃ z : Int, ev T (.bin .mod (.fn .int (.bin .add (.bin .add (.bin .mul (.var 6) (.var 6)) (.bin .mul (.cst (.int 6111491)) (.sub (.var 0) (.cst (.str "drawn"))))) (.cst (.int 359)))) (.cst (.int 2147483323))) J = .ok (.d (.int z), J) ∧ 0 ≤ z ∧ z < 2147483649 := by
        let w : Int := z1 * z1 + 6111491 * (dr + 1) + 359
        have hw := fmod_hi (i := w) (j := 2147483323) (by decide)
        refine ⟨w.fmod 2147483323, ?_, fmod_lo (by decide), by omega⟩
        have e3 := ev_bin (T := T) (op := .mul) (a := .var 6) (b := .var 6) (env := J) (z := .int (z1 * z1)) (ox_var rfl rfl) (ox_var rfl rfl) (mul_ok (.inl (bsmall_of2 z1a z1b)))
        have e4 := ev_bin (op := .mul) (z := .int (6111491 * (dr + 1))) (ox_cst (c := .int 6111491)) (ox_ev rfl (dG (some (.d (.int z1)))) rfl) (mul_ok (.inl (by decide)))
        have e5 := ev_bin (op := .add) (z := .int (z1 * z1 + 6111491 * (dr + 1))) (ox_ev rfl e3 rfl) (ox_ev rfl e4 rfl) rfl
        have e6 := ev_bin (op := .add) (z := .int w) (ox_ev rfl e5 rfl) (ox_cst (c := .int 359)) rfl
        have e7 := ev_fnE (f := .int) (z := .int w) rfl e6 rfl
        exact ev_bin (op := .mod) (z := .int (w.fmod 2147483323)) (ox_ev rfl e7 rfl) (ox_cst (c := .int 2147483323)) (mod_ok (by decide))
      obtain ⟨z2, hz2, z2a, z2b⟩ := hm3
      have s8 := exS_asg (X := []) (i := 6) hz2
      let K : Evn := [some (.o (fdx cells (nx + 1) lf (dr + 1))), some (.d (.int m)), none, some (.d (.list (cells.map .int))), some (.d (.int nx)), some (.d (.int c)), some (.d (.int z2))]
      let w : Int := ((z2 * z2 + 1063 * z2).fmod 2147483249).fdiv 32
      have e3 := ev_bin (T := T) (op := .mul) (a := .var 6) (b := .var 6) (env := K) (z := .int (z2 * z2)) (ox_var rfl rfl) (ox_var rfl rfl) (mul_ok (.inl (bsmall_of2 z2a z2b)))
      have e4 := ev_bin (T := T) (op := .mul) (b := .var 6) (env := K) (z := .int (1063 * z2)) (ox_cst (c := .int 1063)) (ox_var rfl rfl) (mul_ok (.inl (by decide)))
      have e5 := ev_bin (op := .add) (z := .int (z2 * z2 + 1063 * z2)) (ox_ev rfl e3 rfl) (ox_ev rfl e4 rfl) rfl
      have e6 := ev_fnE (f := .int) (z := .int (z2 * z2 + 1063 * z2)) rfl e5 rfl
      have e7 := ev_bin (op := .mod) (z := .int ((z2 * z2 + 1063 * z2).fmod 2147483249)) (ox_ev rfl e6 rfl) (ox_cst (c := .int 2147483249)) (mod_ok (by decide))
      have e8 := ev_bin (op := .fdiv) (z := .int w) (ox_ev rfl e7 rfl) (ox_cst (c := .int 32)) (fdiv_ok (by decide) (by decide))
      have e9 := ev_fnE (f := .int) (z := .int w) rfl e8 rfl
      have e10 := ev_bin (op := .mod) (b := .var 1) (z := .int (w.fmod m)) (ox_ev rfl e9 rfl) (ox_var rfl rfl) (mod_ok hm0)
      have s9 := exS_ret (X := []) rfl e10
      obtain ⟨v, hv, hvm⟩ := vof w
      refine ⟨v, fdx cells (nx + 1) lf (dr + 1), ?_, hvm, _, _, _, _, rfl, hc⟩
      rw [← hv]
      exact run_b rfl (exB_n s1 (exB_n s2 (exB_n s3 (exB_n s4 (exB_n s5 (exB_n s6 (exB_n s7 (exB_n s8 (exB_r s9))))))))) rfl

theorem subL_at {α : Type} (l : List α) (enc : α → PyData) (v : Nat) (h : v < l.length) : subD (.list (l.map enc)) (.int v) = .ok (enc l[v]) := by
  show optR ((idxD (l.map enc).length v).bind fun k => (l.map enc)[k]?) = _
  have : idxD (l.map enc).length (v : Int) = some v := by
    unfold idxD
    rw [if_pos (Int.natCast_nonneg v), Int.toNat_natCast, List.length_map, if_pos h]
  rw [this]
  simp [h, optR]
theorem r_pick {α : Type} {x : PyData} (hx : FeedOk x) (l : List α) (enc : α → PyData) (h0 : l ≠ []) (hl : l.length < 1073741824) : ∃ (a : α) (x' : PyData), d__law_pick.run [.o x, .d (.list (l.map enc))] = .ok (.d (enc a), [x']) ∧ a ∈ l ∧ FeedOk x' := by
  obtain ⟨v, x', h1, h2, h3⟩ := r_draw hx (m := l.length) (List.length_pos_iff.mpr h0) hl
  refine ⟨l[v], x', ?_, List.getElem_mem _, h3⟩
  have e1 := ev_fn (T := tbOf c__law_pick) (f := .len) (a := .var 1) (env := [some (.o x), some (.d (.list (l.map enc)))]) (z := .int (l.map enc).length) (ox_var rfl rfl) rfl
  rw [List.length_map] at e1
  have e2 := ev_callF (T := tbOf c__law_pick) (f := "_law_draw") (i := 0) (es := .cons (.fn .len (.var 1)) .nil) (fd := d__law_draw) (env := [some (.o x), some (.d (.list (l.map enc)))]) (xs := [.int l.length]) rfl rfl rfl rfl (evs_x e1 rfl evs_nil) rfl h1
  exact run_ret rfl rfl (ev_subG (p := .vl (.d (.list (l.map enc)))) rfl (opd_n rfl e2) rfl rfl (subL_at l enc v h2)) rfl
theorem r_pickT {α : Type} {x : PyData} (hx : FeedOk x) (l : List α) (enc : α → PyData) (h0 : l ≠ []) (hl : l.length < 1073741824) : ∃ (a : α) (x' : PyData), d__law_pick.run [.o x, .d (.tuple (l.map enc))] = .ok (.d (enc a), [x']) ∧ a ∈ l ∧ FeedOk x' := by
  obtain ⟨v, x', h1, h2, h3⟩ := r_draw hx (m := l.length) (List.length_pos_iff.mpr h0) hl
  refine ⟨l[v], x', ?_, List.getElem_mem _, h3⟩
  have e1 := ev_fn (T := tbOf c__law_pick) (f := .len) (a := .var 1) (env := [some (.o x), some (.d (.tuple (l.map enc)))]) (z := .int (l.map enc).length) (ox_var rfl rfl) rfl
  rw [List.length_map] at e1
  have e2 := ev_callF (T := tbOf c__law_pick) (f := "_law_draw") (i := 0) (es := .cons (.fn .len (.var 1)) .nil) (fd := d__law_draw) (env := [some (.o x), some (.d (.tuple (l.map enc)))]) (xs := [.int l.length]) rfl rfl rfl rfl (evs_x e1 rfl evs_nil) rfl h1
  exact run_ret rfl rfl (ev_subG (p := .vl (.d (.tuple (l.map enc)))) rfl (opd_n rfl e2) rfl rfl (cons_at enc l v h2)) rfl
theorem r_lies {l o : Lot} (hl : l.length ≤ lim) (h1 : okS l) (h2 : okS o) : d__law_lies.run [.d (eS l), .d (eS o)] = .ok (.d (.bool (liesIn l o)), []) := by
  have e := ev_lcF (T := tbOf c__law_lies) (i := 2) (t := .cmp .notin (.var 2) (.var 1)) (env := [some (.d (eS l)), some (.d (eS o)), none]) (e0 := [some (.d (eS l)), some (.d (eS o)), none]) l .str (fun n => !o.contains n) (evI_src (e := .var 0) (ev_var rfl) (items_S l)) hl (show 2 < 3 by decide) (fun y hy => ev_cmp (ox_var rfl rfl) (ox_var rfl rfl) (e_notin (h1 y hy) h2))
  have hs : shp (.list ((l.filter fun n => !o.contains n).map .str)) = true := shp_strs fun x hx => h1 x (List.mem_filter.mp hx).1
  have c := list_nil hs
  have hb : ((l.filter fun n => !o.contains n).map PyData.str).isEmpty = liesIn l o := by
    unfold liesIn
    clear e hs c hl h1 h2
    induction l with
    | nil => rfl
    | cons x r ih =>
      rw [List.filter_cons, List.all_cons]
      cases q : o.contains x with
      | true => simpa using ih
      | false => simp
  rw [hb] at c
  exact run_ret rfl rfl (ev_cmp (ox_ev rfl e rfl) ox_nil c) rfl
theorem any_flip {P : Lot → Bool} (a : Lot) (l : Fam) : ((l.filter fun o => !decide (o = a) && P o).map eS).isEmpty = !(l.any fun o => !decide (o = a) && P o) := by
  induction l with
  | nil => rfl
  | cons x r ih =>
    rw [List.filter_cons, List.any_cons]
    cases q : (!decide (x = a) && P x) with
    | true => simp
    | false => simpa using ih
theorem r_law_greatest {xs : Fam} (h : okF xs) (hs : ∀ a ∈ xs, a.length ≤ lim) (hl : xs.length ≤ 4000) (hd : (dedupL xs).length < 64) : d__law_greatest.run [.d (.list (xs.map eS))] = .ok (.d (eF (greatM xs)), []) := by
  have hk : okF (sortL xs) := fun a ha => h a (mem_sortL.mp ha)
  have hs' : ∀ a ∈ sortL xs, a.length ≤ lim := fun a ha => hs a (mem_sortL.mp ha)
  have hll : (sortL xs).length ≤ lim := by rw [len_sortL]; show _ ≤ 16000000; omega
  let e1 : Evn := [some (.d (.list (xs.map eS))), some (.d (.list ((sortL xs).map eS))), none, none]
  have s1 : exS (tbOf c__law_greatest) [] (.asg 1 (.fn .sset (.fn .list (.var 0)))) [some (.d (.list (xs.map eS))), none, none, none] = .ok (.nx, [some (.d (.list (xs.map eS))), some (.o (.list ((sortL xs).map eS))), none, none]) :=
    exS_asg (ev_fnE (z := .list ((sortL xs).map eS)) rfl (ev_fn (f := .list) (z := .list (xs.map eS)) (ox_var rfl rfl) rfl) (sset_S h hl hd))
  have hin : ∀ a ∈ sortL xs, ev (tbOf c__law_greatest) (.cmp .eq (.lc [3] (.var 3) (.nm 3) (.src (.var 1)) (.cons (.and (.cons (.cmp .ne (.var 3) (.var 2)) (.cons (.call "_law_lies" (.cons (.var 2) (.cons (.var 3) (.nil))) [] (.nil)) (.nil)))) (.nil))) (.lst (.nil))) (e1.set 2 (some (.d (eS a)))) =
      .ok (.d (.bool (!((sortL xs).any fun o => !decide (a = o) && liesIn a o))), e1.set 2 (some (.d (eS a)))) := by
    intro a ha
    have e := ev_lcF (T := tbOf c__law_greatest) (i := 3) (t := (.and (.cons (.cmp .ne (.var 3) (.var 2)) (.cons (.call "_law_lies" (.cons (.var 2) (.cons (.var 3) (.nil))) [] (.nil)) (.nil))))) (e0 := e1.set 2 (some (.d (eS a)))) (sortL xs) eS (fun o => !decide (o = a) && liesIn a o) (evI_src (e := .var 1) (ev_var rfl) rfl) hll (show 3 < 4 by decide) (fun o ho =>
      ev_andR (evAnd_c (ev_cmp (ox_var rfl rfl) (ox_var rfl rfl) (e_neL (hk o ho) (hk a ha))) fun _ => evAnd_1 (ev_call (fd := d__law_lies) rfl rfl (evs_x (ev_var rfl) rfl (evs_x (ev_var rfl) rfl evs_nil)) evs_nil (zs := [eS a, eS o]) rfl (r_lies (hs' a ha) (hk a ha) (hk o ho)))))
    have c := list_nil (shp_fam (f := (sortL xs).filter fun o => !decide (o = a) && liesIn a o) fun o ho => hk o (List.mem_filter.mp ho).1)
    rw [any_flip (P := fun o => liesIn a o)] at c
    have e3 : ((sortL xs).any fun o => !decide (o = a) && liesIn a o) = ((sortL xs).any fun o => !decide (a = o) && liesIn a o) := by
      congr 1
      funext o
      rw [show decide (o = a) = decide (a = o) from decide_eq_decide.mpr eq_comm]
    rw [e3] at c
    exact ev_cmp (ox_ev rfl e rfl) ox_nil c
  have e2 := ev_lcF (T := tbOf c__law_greatest) (i := 2) (env := [some (.d (.list (xs.map eS))), some (.o (.list ((sortL xs).map eS))), none, none]) (e0 := e1) (sortL xs) eS _ (evI_src (e := .var 1) (ev_varO rfl) rfl) hll (show 2 < 4 by decide) hin
  exact run_b rfl (exB_n s1 (exB_r (exS_ret rfl (ev_fnE (z := eF (greatM xs)) rfl e2 rfl)))) rfl
theorem r_law_least {xs : Fam} (h : okF xs) (hs : ∀ a ∈ xs, a.length ≤ lim) (hl : xs.length ≤ 4000) (hd : (dedupL xs).length < 64) : d__law_least.run [.d (.list (xs.map eS))] = .ok (.d (eF (leastM xs)), []) := by
  have hk : okF (sortL xs) := fun a ha => h a (mem_sortL.mp ha)
  have hs' : ∀ a ∈ sortL xs, a.length ≤ lim := fun a ha => hs a (mem_sortL.mp ha)
  have hll : (sortL xs).length ≤ lim := by rw [len_sortL]; show _ ≤ 16000000; omega
  let e1 : Evn := [some (.d (.list (xs.map eS))), some (.d (.list ((sortL xs).map eS))), none, none]
  have s1 : exS (tbOf c__law_least) [] (.asg 1 (.fn .sset (.fn .list (.var 0)))) [some (.d (.list (xs.map eS))), none, none, none] = .ok (.nx, [some (.d (.list (xs.map eS))), some (.o (.list ((sortL xs).map eS))), none, none]) :=
    exS_asg (ev_fnE (z := .list ((sortL xs).map eS)) rfl (ev_fn (f := .list) (z := .list (xs.map eS)) (ox_var rfl rfl) rfl) (sset_S h hl hd))
  have hin : ∀ a ∈ sortL xs, ev (tbOf c__law_least) (.cmp .eq (.lc [3] (.var 3) (.nm 3) (.src (.var 1)) (.cons (.and (.cons (.cmp .ne (.var 3) (.var 2)) (.cons (.call "_law_lies" (.cons (.var 3) (.cons (.var 2) (.nil))) [] (.nil)) (.nil)))) (.nil))) (.lst (.nil))) (e1.set 2 (some (.d (eS a)))) =
      .ok (.d (.bool (!((sortL xs).any fun o => !decide (o = a) && liesIn o a))), e1.set 2 (some (.d (eS a)))) := by
    intro a ha
    have e := ev_lcF (T := tbOf c__law_least) (i := 3) (t := (.and (.cons (.cmp .ne (.var 3) (.var 2)) (.cons (.call "_law_lies" (.cons (.var 3) (.cons (.var 2) (.nil))) [] (.nil)) (.nil))))) (e0 := e1.set 2 (some (.d (eS a)))) (sortL xs) eS (fun o => !decide (o = a) && liesIn o a) (evI_src (e := .var 1) (ev_var rfl) rfl) hll (show 3 < 4 by decide) (fun o ho =>
      ev_andR (evAnd_c (ev_cmp (ox_var rfl rfl) (ox_var rfl rfl) (e_neL (hk o ho) (hk a ha))) fun _ => evAnd_1 (ev_call (fd := d__law_lies) rfl rfl (evs_x (ev_var rfl) rfl (evs_x (ev_var rfl) rfl evs_nil)) evs_nil (zs := [eS o, eS a]) rfl (r_lies (hs' o ho) (hk o ho) (hk a ha)))))
    have c := list_nil (shp_fam (f := (sortL xs).filter fun o => !decide (o = a) && liesIn o a) fun o ho => hk o (List.mem_filter.mp ho).1)
    rw [any_flip (P := fun o => liesIn o a)] at c
    exact ev_cmp (ox_ev rfl e rfl) ox_nil c
  have e2 := ev_lcF (T := tbOf c__law_least) (i := 2) (env := [some (.d (.list (xs.map eS))), some (.o (.list ((sortL xs).map eS))), none, none]) (e0 := e1) (sortL xs) eS _ (evI_src (e := .var 1) (ev_varO rfl) rfl) hll (show 2 < 4 by decide) hin
  exact run_b rfl (exB_n s1 (exB_r (exS_ret rfl (ev_fnE (z := eF (leastM xs)) rfl e2 rfl)))) rfl
def restM (H a : Lot) : Lot := H.filter fun n => !a.contains n
theorem r_others {H a : Lot} (hl : H.length ≤ lim) (h1 : okS H) (h2 : okS a) : d__law_others.run [.d (eS H), .d (eS a)] = .ok (.d (eS (restM H a)), []) := by
  have e := ev_lcF (T := tbOf c__law_others) (i := 2) (t := .cmp .notin (.var 2) (.var 1)) (env := [some (.d (eS H)), some (.d (eS a)), none]) (e0 := [some (.d (eS H)), some (.d (eS a)), none]) H .str (fun n => !a.contains n) (evI_src (e := .var 0) (ev_var rfl) (items_S H)) hl (show 2 < 3 by decide) (fun y hy => ev_cmp (ox_var rfl rfl) (ox_var rfl rfl) (e_notin (h1 y hy) h2))
  exact run_ret rfl rfl (ev_fnE (z := eS (restM H a)) rfl e rfl) rfl
end HeadT

set_option maxRecDepth 100000
namespace HeadT
open PySem Qv
def eI (n : Nat) : PyData := .int n
def eL (p : Lot) : PyData := .list (p.map PyData.str)
theorem add1 (v : Nat) : binD .add (.int 1) (.int v) = .ok (.int ((1 + v : Nat) : Int)) := by
  show Except.ok (PyData.int (1 + (v : Int))) = _
  congr 2
def pools : List Lot := [["a", "b", "c", "d", "e", "f", "g", "h", "i"], ["a", "aa", "aaa", "ab", "b", "ba", "lot", "zz", "zzzzzzzz"], ["agree", "fallen", "fell", "naive", "rest", "rose", "round", "wise", "within"]]
theorem pools_ok : ∀ p ∈ pools, p.length = 9 ∧ (p.Pairwise fun a b => ltN a b = true) ∧ ∀ n ∈ p, nameB n = true := by decide +kernel
theorem r_pool {x : PyData} (hx : FeedOk x) : ∃ (p : Lot) (x' : PyData), d__law_pool.run [.o x] = .ok (.d (eL p), [x']) ∧ p ∈ pools ∧ FeedOk x' := by
  let T := tbOf c__law_pool
  have k9 : ∀ {es : Exs} {env : Evn} {p : Lot}, p.length = 9 → evs T es env = .ok (p.map .str, env) → ev T (.lst es) env = .ok (.o (eL p), env) := fun hp h => ev_lst h (by rw [List.length_map, hp]; show 9 ≤ 16000000; decide)
  have s1 : exS T [] (.asg 1 (.lst (.cons (.lst (.cons (.cst (.str "a")) (.cons (.cst (.str "b")) (.cons (.cst (.str "c")) (.cons (.cst (.str "d")) (.cons (.cst (.str "e")) (.cons (.cst (.str "f")) (.cons (.cst (.str "g")) (.cons (.cst (.str "h")) (.cons (.cst (.str "i")) (.nil))))))))))) (.nil)))) [some (.o x), none] = .ok (.nx, [some (.o x), some (.o (.list ((pools.take 1).map eL)))]) :=
    exS_asg (ev_lst (xs := (pools.take 1).map eL) (evs_x (k9 (p := ["a", "b", "c", "d", "e", "f", "g", "h", "i"]) rfl rfl) rfl evs_nil) (show 1 ≤ 16000000 by decide))
  have s2 : exS T [] (.app 1 (.lst (.cons (.cst (.str "a")) (.cons (.cst (.str "aa")) (.cons (.cst (.str "aaa")) (.cons (.cst (.str "ab")) (.cons (.cst (.str "b")) (.cons (.cst (.str "ba")) (.cons (.cst (.str "lot")) (.cons (.cst (.str "zz")) (.cons (.cst (.str "zzzzzzzz")) (.nil)))))))))))) [some (.o x), some (.o (.list ((pools.take 1).map eL)))] = .ok (.nx, [some (.o x), some (.o (.list ((pools.take 2).map eL)))]) :=
    exS_app (ys := (pools.take 1).map eL) (xs := (pools.take 1).map eL) rfl (k9 (p := ["a", "aa", "aaa", "ab", "b", "ba", "lot", "zz", "zzzzzzzz"]) rfl rfl) rfl (show 1 < 16000000 by decide)
  have s3 : exS T [] (.app 1 (.lst (.cons (.cst (.str "agree")) (.cons (.cst (.str "fallen")) (.cons (.cst (.str "fell")) (.cons (.cst (.str "naive")) (.cons (.cst (.str "rest")) (.cons (.cst (.str "rose")) (.cons (.cst (.str "round")) (.cons (.cst (.str "wise")) (.cons (.cst (.str "within")) (.nil)))))))))))) [some (.o x), some (.o (.list ((pools.take 2).map eL)))] = .ok (.nx, [some (.o x), some (.o (.list (pools.map eL)))]) :=
    exS_app (ys := (pools.take 2).map eL) (xs := (pools.take 2).map eL) rfl (k9 (p := ["agree", "fallen", "fell", "naive", "rest", "rose", "round", "wise", "within"]) rfl rfl) rfl (show 2 < 16000000 by decide)
  obtain ⟨p, x1, g1, g2, g3⟩ := r_pick hx pools eL (by decide) (by decide)
  let A : Evn := [some (.o x), some (.o (.list (pools.map eL)))]
  let A1 : Evn := [some (.o x), some (.d (.list (pools.map eL)))]
  have z0 : A[0]? = some (some (.o x)) := rfl
  have z1 : A1[0]? = some (some (.o x)) := rfl
  have a1 : evs T (.cons (.var 1) .nil) A = .ok ([.list (pools.map eL)], A1) := evs_x (ev_varO rfl) rfl evs_nil
  have c1 : ev T (.call "_law_pick" (.cons (.var 0) (.cons (.var 1) (.nil))) [] (.nil)) A = .ok (.d (eL p), [some (.o x1), some (.d (.list (pools.map eL)))]) := ev_callF (fd := d__law_pick) rfl rfl rfl z0 a1 z1 g1
  exact ⟨p, x1, run_b rfl (exB_n s1 (exB_n s2 (exB_n s3 (exB_r (exS_ret rfl c1))))) rfl, g2, g3⟩
theorem r_part {x : PyData} (hx : FeedOk x) {l : Lot} {dd : PyData} (hd : itemsD dd = .ok (l.map PyData.str)) (hl : l.length ≤ 100) {m : Nat} (hm : 0 < m) (hm2 : m < 100) : ∃ (a : Lot) (x' : PyData), d__law_part.run [.o x, .d dd, .d (.int m)] = .ok (.d (eS a), [x']) ∧ a.Sublist l ∧ FeedOk x' := by
  let T := tbOf c__law_part
  let E : Evn := [some (.o x), some (.d dd), some (.d (.int m)), none]
  have hi : evI T (.src (.var 1)) E = .ok (l.map PyData.str, E) := evI_src (r := .d dd) (ev_var rfl) hd
  obtain ⟨ks, e', h1, h2, h3, x', hx', he'⟩ := ev_lcI (T := T) (i := 3) (elt := .var 3) (cs := .cons (.cmp .eq (.call "_law_draw" (.cons (.var 0) (.cons (.var 2) (.nil))) [] (.nil)) (.cst (.int 0))) .nil) (e0 := E) l PyData.str
    (fun e => ∃ x, FeedOk x ∧ e = [some (.o x), some (.d dd), some (.d (.int m)), none]) (fun a d => d = .str a) hi (by show _ ≤ 16000000; omega) ⟨x, hx, rfl⟩ (by
    rintro n hn e ⟨x, hx, rfl⟩
    obtain ⟨v, x', g1, g2, g3⟩ := r_draw hx hm (by omega)
    let B : Evn := [some (.o x), some (.d dd), some (.d (.int m)), some (.d (.str n))]
    let B1 : Evn := [some (.o x'), some (.d dd), some (.d (.int m)), some (.d (.str n))]
    have z : B[0]? = some (some (.o x)) := rfl
    have a : evs T (.cons (.var 2) .nil) B = .ok ([.int m], B) := evs_x (ev_var rfl) rfl evs_nil
    have c1 : ev T (.call "_law_draw" (.cons (.var 0) (.cons (.var 2) (.nil))) [] (.nil)) B = .ok (.d (.int v), B1) := ev_callF (fd := d__law_draw) rfl rfl rfl z a z g1
    have c2 := ev_cmpG (op := .eq) (b := .cst (.int 0)) (q := .vl (.d (.int 0))) (opd_n rfl c1) rfl rfl rfl (eq_int v 0)
    exact ⟨decide (v = 0), B1, evAnd_1 c2, fun _ => ⟨x', g3, rfl⟩, fun _ => ⟨.d (.str n), B1, ev_var rfl, rfl, x', g3, rfl⟩⟩)
  have hk : ks.map (·.2) = (ks.map (·.1)).map .str := by
    rw [List.map_map]
    exact List.map_congr_left fun p hp => h2 p hp
  rw [hk] at h3
  let E2 : Evn := [some (.o x'), some (.d dd), some (.d (.int m)), none]
  have h3' : ev T (.lc [3] (.var 3) (.nm 3) (.src (.var 1)) (.cons (.cmp .eq (.call "_law_draw" (.cons (.var 0) (.cons (.var 2) (.nil))) [] (.nil)) (.cst (.int 0))) .nil)) E = .ok (.o (.list ((ks.map (·.1)).map .str)), E2) := h3.trans (congrArg (fun e => Except.ok (Vl.o (PyData.list ((ks.map (·.1)).map .str)), e)) he')
  exact ⟨ks.map (·.1), x', run_ret rfl rfl (ev_fnE (z := eS (ks.map (·.1))) rfl h3' rfl) rfl, h1, hx'⟩
theorem r_set {l : Lot} (h : okS l) (hl : l.length ≤ 4000) : d__law_set.run [.d (eS l)] = .ok (.d (eS (sortN l)), []) := by
  have e1 := ev_fn (T := tbOf c__law_set) (f := .list) (a := .var 0) (env := [some (.d (eS l))]) (z := .list (l.map PyData.str)) (ox_var (x := eS l) rfl rfl) rfl
  have e2 := ev_fnE (f := .sset) rfl e1 (sset_N h hl)
  exact run_ret rfl rfl (ev_fnE (z := eS (sortN l)) rfl e2 rfl) rfl
theorem r_common {l o : Lot} (hl : l.length ≤ lim) (h1 : okS l) (h2 : okS o) : d__law_common.run [.d (eS l), .d (eS o)] = .ok (.d (eS (commonOf l o)), []) :=
  run_ret rfl rfl (ev_fnE (z := eS (commonOf l o)) rfl (ev_lcF (i := 2) (e0 := [some (.d (eS l)), some (.d (eS o)), none]) l .str (fun n => o.contains n) (evI_src (ev_var rfl) (items_S l)) hl (show 2 < 3 by decide) fun y hy => ev_cmp (ox_var rfl rfl) (ox_var rfl rfl) (e_in (h1 y hy) h2)) rfl) rfl
theorem str_neb {x y : Str} (hx : nameB x = true) (hy : nameB y = true) : cmpD .ne (.str x) (.str y) = .ok (!(x == y)) := by
  have : cmpD .ne (.str x) (.str y) = grd (shp (.str x) && shp (.str y)) (!PyData.eqv (.str x) (.str y)) := rfl
  rw [this, (nice_name hx).shp (by decide), (nice_name hy).shp (by decide), PyData.eqv]
  rfl
/-- a draw at any place of a def -/
theorem ev_draw {T : Tb} (hT : List.lookup ("_law_draw" : Str) T = some d__law_draw) {x : PyData} (hx : FeedOk x) (m : Nat) (hm : 0 < m) (hm2 : m < 1000) (e : Ex) (r : List (Option Vl)) (he : ev T e (some (.o x) :: r) = .ok (.d (.int m), some (.o x) :: r)) :
    ∃ v x', v < m ∧ FeedOk x' ∧ ev T (.call "_law_draw" (.cons (.var 0) (.cons e .nil)) [] .nil) (some (.o x) :: r) = .ok (.d (.int v), some (.o x') :: r) := by
  obtain ⟨v, x', g1, g2, g3⟩ := r_draw hx hm (by omega)
  have z : (some (Vl.o x) :: r)[0]? = some (some (.o x)) := rfl
  have a : evs T (.cons e .nil) (some (.o x) :: r) = .ok ([.int m], some (.o x) :: r) := evs_x he rfl evs_nil
  exact ⟨v, x', g2, g3, ev_callF hT rfl rfl z a z g1⟩
def netB : Sms := (.cons (.asg 6 (.lc [7] (.var 7) (.nm 7) (.src (.var 2)) (.cons (.cmp .ne (.var 7) (.var 5)) (.nil))))
  (.cons (.asg 8 (.lc [9] (.call "_law_part" (.cons (.var 0) (.cons (.var 6) (.cons (.call "_law_pick" (.cons (.var 0) (.cons (.lst (.cons (.cst (.int 2)) (.cons (.cst (.int 3)) (.cons (.cst (.int 3)) (.nil))))) (.nil))) [] (.nil)) (.nil)))) [] (.nil)) (.nm 9) (.rng1 (.bin .add (.cst (.int 1)) (.call "_law_draw" (.cons (.var 0) (.cons (.cst (.int 4)) (.nil))) [] (.nil)))) (.nil)))
  (.cons (.iff (.cmp .eq (.var 3) (.cst (.int 0)))
  (.cons (.asg 8 (.lc [7] (.tup (.cons (.var 7) (.nil))) (.nm 7) (.src (.var 2)) (.nil)))
  .nil)
  .nil)
  (.cons (.iff (.and (.cons (.cmp .eq (.var 3) (.cst (.int 1))) (.cons (.cmp .eq (.call "_law_draw" (.cons (.var 0) (.cons (.cst (.int 3)) (.nil))) [] (.nil)) (.cst (.int 0))) (.nil))))
  (.cons (.app 8 (.call "_law_part" (.cons (.var 0) (.cons (.var 2) (.cons (.cst (.int 2)) (.nil)))) [] (.nil)))
  .nil)
  .nil)
  (.cons (.app 4 (.call "_law_greatest" (.cons (.var 8) (.nil)) [] (.nil)))
  .nil)))))
def opts : List Nat := [2, 3, 3]
theorem net_b {H : Lot} (hH : okS H) (hnd : H.Nodup) (hne : H ≠ []) (h5 : H.length ≤ 5) {t : Str} (ht : t ∈ H) {x : PyData} (hx : FeedOk x) (w : Nat) (F : List Fam) (hF : F.length ≤ 100) (p1 p6 p8 : Option Vl) :
    ∃ x' f q6 q8, FeedOk x' ∧ FamOk H f ∧ f ≠ [] ∧ exB (tbOf c__law_net) [] netB [some (.o x), p1, some (.d (eS H)), some (.d (.int w)), some (.o (.list (F.map eF))), some (.d (.str t)), p6, none, p8, none] =
      .ok (.nx, [some (.o x'), p1, some (.d (eS H)), some (.d (.int w)), some (.o (.list ((F ++ [f]).map eF))), some (.d (.str t)), q6, none, q8, none]) := by
  let T := tbOf c__law_net
  let rest : Lot := H.filter fun n => !(n == t)
  have rs : rest.Sublist H := List.filter_sublist
  have rl := rs.length_le
  let A : Evn := [some (.o x), p1, some (.d (eS H)), some (.d (.int w)), some (.o (.list (F.map eF))), some (.d (.str t)), p6, none, p8, none]
  have e1 := ev_lcF (T := T) (i := 7) (t := .cmp .ne (.var 7) (.var 5)) (env := A) (e0 := A) H PyData.str (fun n => !(n == t)) (evI_src (e := .var 2) (ev_var rfl) (items_S H)) (by show _ ≤ 16000000; omega) (show 7 < 10 by decide) (fun n hn => ev_cmp (ox_var rfl rfl) (ox_var rfl rfl) (str_neb (hH n hn) (hH t ht)))
  have s1 := exS_asg (X := []) (i := 6) e1
  let RD : PyData := .list (rest.map PyData.str)
  let B (x : PyData) (r6 : Vl) : Evn := [some (.o x), p1, some (.d (eS H)), some (.d (.int w)), some (.o (.list (F.map eF))), some (.d (.str t)), some r6, none, p8, none]
  obtain ⟨v, x1, v4, hx1, c1⟩ := ev_draw (T := T) rfl hx 4 (by decide) (by decide) (.cst (.int 4)) [p1, some (.d (eS H)), some (.d (.int w)), some (.o (.list (F.map eF))), some (.d (.str t)), some (.o RD), none, p8, none] rfl
  have c2 : ev T (.bin .add (.cst (.int 1)) (.call "_law_draw" (.cons (.var 0) (.cons (.cst (.int 4)) (.nil))) [] (.nil))) (B x (.o RD)) = .ok (.d (.int ((1 + v : Nat) : Int)), B x1 (.o RD)) := ev_binG (p := .vl (.d (.int 1))) (z := .int ((1 + v : Nat) : Int)) rfl (opd_n rfl c1) rfl rfl (add1 v)
  obtain ⟨ks, e', h1, h2, h3, x2, r6, hx2, hr6, he'⟩ := ev_lcJ (T := T) (i := 9) (elt := .call "_law_part" (.cons (.var 0) (.cons (.var 6) (.cons (.call "_law_pick" (.cons (.var 0) (.cons (.lst (.cons (.cst (.int 2)) (.cons (.cst (.int 3)) (.cons (.cst (.int 3)) (.nil))))) (.nil))) [] (.nil)) (.nil)))) [] (.nil)) (e0 := B x1 (.o RD)) (List.range (1 + v)) (fun (k : Nat) => PyData.int k)
    (fun e => ∃ (x : PyData) (r6 : Vl), FeedOk x ∧ r6.x = RD ∧ e = B x r6) (fun _ d => ∃ a : Lot, a.Sublist H ∧ d = eS a) (evI_rng1 c2 (by show _ ≤ 16000000; omega)) (by rw [List.length_range]; show _ ≤ 16000000; omega) ⟨x1, .o RD, hx1, rfl, rfl⟩ (by
      rintro k hk e ⟨x, r6, hx, hr, rfl⟩
      obtain ⟨m, x2, g1, g2, g3⟩ := r_pick hx opts eI (by decide) (by decide)
      have hm : 0 < m ∧ m < 100 := by
        have : ∀ n ∈ opts, 0 < n ∧ n < 100 := by decide
        exact this m g2
      obtain ⟨a, x3, k1, k2, k3⟩ := r_part g3 (dd := RD) (l := rest) rfl (by omega) hm.1 hm.2
      let C (x : PyData) (r6 : Vl) : Evn := [some (.o x), p1, some (.d (eS H)), some (.d (.int w)), some (.o (.list (F.map eF))), some (.d (.str t)), some r6, none, p8, some (.d (.int k))]
      have v6 : ev T (.var 6) (C x r6) = .ok (.d RD, C x (.d RD)) := by
        cases r6 with
        | d y =>
          have : y = RD := hr
          subst this
          exact ev_var rfl
        | o y =>
          have : y = RD := hr
          subst this
          exact ev_varO rfl
      have z0 : (C x r6)[0]? = some (some (.o x)) := rfl
      have z1 : (C x (.d RD))[0]? = some (some (.o x)) := rfl
      have z2 : (C x2 (.d RD))[0]? = some (some (.o x2)) := rfl
      have l1 : ev T (.lst (.cons (.cst (.int 2)) (.cons (.cst (.int 3)) (.cons (.cst (.int 3)) (.nil))))) (C x (.d RD)) = .ok (.o (.list (opts.map eI)), C x (.d RD)) := ev_lst (xs := opts.map eI) rfl (show 3 ≤ 16000000 by decide)
      have a1 : evs T (.cons (.lst (.cons (.cst (.int 2)) (.cons (.cst (.int 3)) (.cons (.cst (.int 3)) (.nil))))) (.nil)) (C x (.d RD)) = .ok ([.list (opts.map eI)], C x (.d RD)) := evs_x l1 rfl evs_nil
      have d1 : ev T (.call "_law_pick" (.cons (.var 0) (.cons (.lst (.cons (.cst (.int 2)) (.cons (.cst (.int 3)) (.cons (.cst (.int 3)) (.nil))))) (.nil))) [] (.nil)) (C x (.d RD)) = .ok (.d (eI m), C x2 (.d RD)) := ev_callF (fd := d__law_pick) rfl rfl rfl z1 a1 z1 g1
      have a2 : evs T (.cons (.var 6) (.cons (.call "_law_pick" (.cons (.var 0) (.cons (.lst (.cons (.cst (.int 2)) (.cons (.cst (.int 3)) (.cons (.cst (.int 3)) (.nil))))) (.nil))) [] (.nil)) (.nil))) (C x r6) = .ok ([RD, eI m], C x2 (.d RD)) := evs_x v6 rfl (evs_x d1 rfl evs_nil)
      have d2 : ev T (.call "_law_part" (.cons (.var 0) (.cons (.var 6) (.cons (.call "_law_pick" (.cons (.var 0) (.cons (.lst (.cons (.cst (.int 2)) (.cons (.cst (.int 3)) (.cons (.cst (.int 3)) (.nil))))) (.nil))) [] (.nil)) (.nil)))) [] (.nil)) (C x r6) = .ok (.d (eS a), C x3 (.d RD)) := ev_callF (fd := d__law_part) rfl rfl rfl z0 a2 z2 k1
      exact ⟨_, _, d2, ⟨a, k2.trans rs, rfl⟩, x3, .d RD, k3, rfl, rfl⟩)
  have hL : ∃ L : Fam, ks.map (·.2) = L.map eS ∧ L.length = 1 + v ∧ ∀ a ∈ L, a.Sublist H := by
    have hlen : ks.length = 1 + v := by have := congrArg List.length h1; rw [List.length_map, List.length_range] at this; exact this
    rw [← hlen]
    clear h3 he' h1 hlen
    induction ks with
    | nil => exact ⟨[], rfl, rfl, fun _ h => nomatch h⟩
    | cons q r ih =>
      obtain ⟨b, b1, b3⟩ := h2 q List.mem_cons_self
      obtain ⟨L', i1, i2, i3⟩ := ih fun p hp => h2 p (List.mem_cons_of_mem _ hp)
      refine ⟨b :: L', by rw [List.map_cons, List.map_cons, i1, b3], by simp [i2], fun c hc => ?_⟩
      rcases List.mem_cons.mp hc with rfl | hc
      · exact b1
      · exact i3 c hc
  obtain ⟨L, l1, l2, l3⟩ := hL
  rw [l1] at h3
  have h3' : ev T (.lc [9] (.call "_law_part" (.cons (.var 0) (.cons (.var 6) (.cons (.call "_law_pick" (.cons (.var 0) (.cons (.lst (.cons (.cst (.int 2)) (.cons (.cst (.int 3)) (.cons (.cst (.int 3)) (.nil))))) (.nil))) [] (.nil)) (.nil)))) [] (.nil)) (.nm 9) (.rng1 (.bin .add (.cst (.int 1)) (.call "_law_draw" (.cons (.var 0) (.cons (.cst (.int 4)) (.nil))) [] (.nil)))) (.nil)) (B x (.o RD)) = .ok (.o (.list (L.map eS)), B x2 r6) := h3.trans (congrArg (fun e => Except.ok (Vl.o (PyData.list (L.map eS)), e)) he')
  have s2 := exS_asg (X := []) (i := 8) h3'
  let D (x : PyData) (L : Fam) : Evn := [some (.o x), p1, some (.d (eS H)), some (.d (.int w)), some (.o (.list (F.map eF))), some (.d (.str t)), some r6, none, some (.o (.list (L.map eS))), none]
  have s3 : ∃ L1 : Fam, L1 ≠ [] ∧ L1.length ≤ 10 ∧ (∀ a ∈ L1, a.Sublist H) ∧ exS T [] (.iff (.cmp .eq (.var 3) (.cst (.int 0))) (.cons (.asg 8 (.lc [7] (.tup (.cons (.var 7) (.nil))) (.nm 7) (.src (.var 2)) (.nil))) .nil) .nil) (D x2 L) = .ok (.nx, D x2 L1) := by
    have tt : ev T (.cmp .eq (.var 3) (.cst (.int 0))) (D x2 L) = .ok (.d (.bool (decide (w = 0))), D x2 L) := ev_cmp (ox_var rfl rfl) ox_cst (eq_int w 0)
    by_cases hw : w = 0
    · rw [decide_eq_true hw] at tt
      have e4 := ev_lcM (T := T) (i := 7) (elt := .tup (.cons (.var 7) (.nil))) (env := D x2 L) (e0 := D x2 L) H PyData.str (fun y => eS [y]) (evI_src (e := .var 2) (ev_var rfl) (items_S H)) (by show _ ≤ 16000000; omega) (fun y hy => by
        have v7 : ev T (.var 7) ((D x2 L).set 7 (some (.d (.str y)))) = .ok (.d (.str y), (D x2 L).set 7 (some (.d (.str y)))) := ev_var rfl
        exact ⟨_, ev_tup (evs_x v7 rfl evs_nil) (show 1 ≤ 16000000 by decide), rfl⟩)
      have em : (H.map fun y => eS [y]) = (H.map fun x => [x]).map eS := by rw [List.map_map]; rfl
      rw [em] at e4
      refine ⟨H.map fun x => [x], by simpa using hne, by rw [List.length_map]; omega, fun a ha => ?_, exS_t tt (exB_n (exS_asg e4) exB_nil)⟩
      obtain ⟨y, hy, rfl⟩ := List.mem_map.mp ha
      exact List.singleton_sublist.mpr hy
    · rw [decide_eq_false hw] at tt
      exact ⟨L, fun e => by rw [e] at l2; simp at l2; omega, by omega, l3, exS_f tt exB_nil⟩
  obtain ⟨L1, n1, m1, q1, s3⟩ := s3
  have s4 : ∃ x3 L2, FeedOk x3 ∧ L2 ≠ [] ∧ L2.length ≤ 20 ∧ (∀ a ∈ L2, a.Sublist H) ∧ exS T [] (.iff (.and (.cons (.cmp .eq (.var 3) (.cst (.int 1))) (.cons (.cmp .eq (.call "_law_draw" (.cons (.var 0) (.cons (.cst (.int 3)) (.nil))) [] (.nil)) (.cst (.int 0))) (.nil))))
      (.cons (.app 8 (.call "_law_part" (.cons (.var 0) (.cons (.var 2) (.cons (.cst (.int 2)) (.nil)))) [] (.nil))) .nil) .nil) (D x2 L1) = .ok (.nx, D x3 L2) := by
    have t1 : ev T (.cmp .eq (.var 3) (.cst (.int 1))) (D x2 L1) = .ok (.d (.bool (decide (w = 1))), D x2 L1) := ev_cmp (ox_var rfl rfl) ox_cst (eq_int w 1)
    by_cases hw : w = 1
    · rw [decide_eq_true hw] at t1
      obtain ⟨u, x3, u3, hx3, c3⟩ := ev_draw (T := T) rfl hx2 3 (by decide) (by decide) (.cst (.int 3)) (D x2 L1).tail rfl
      have t2 := ev_cmpG (op := .eq) (b := .cst (.int 0)) (q := .vl (.d (.int 0))) (opd_n rfl c3) rfl rfl rfl (eq_int u 0)
      have t3 := ev_andR (evAnd_t t1 (evAnd_1 t2))
      cases hb : decide (u = 0) with
      | false =>
        rw [hb] at t3
        exact ⟨x3, L1, hx3, n1, by omega, q1, exS_f t3 exB_nil⟩
      | true =>
        rw [hb] at t3
        obtain ⟨a, x4, k1, k2, k3⟩ := r_part hx3 (dd := eS H) (l := H) rfl (by omega) (m := 2) (by decide) (by decide)
        have z : (D x3 L1)[0]? = some (some (.o x3)) := rfl
        have a1 : evs T (.cons (.var 2) (.cons (.cst (.int 2)) .nil)) (D x3 L1) = .ok ([eS H, .int (2 : Nat)], D x3 L1) := evs_x (ev_var rfl) rfl (evs_x (r := .d (.int 2)) rfl rfl evs_nil)
        have c4 : ev T (.call "_law_part" (.cons (.var 0) (.cons (.var 2) (.cons (.cst (.int 2)) (.nil)))) [] (.nil)) (D x3 L1) = .ok (.d (eS a), D x4 L1) := ev_callF (fd := d__law_part) rfl rfl rfl z a1 z k1
        have z8 : (D x3 L1)[8]? = some (some (.o (.list (L1.map eS)))) := rfl
        have z9 : (D x4 L1)[8]? = some (some (.o (.list (L1.map eS)))) := rfl
        have u1 := exS_app (X := []) (i := 8) z8 c4 z9 (by rw [List.length_map]; show _ < 16000000; omega)
        refine ⟨x4, L1 ++ [a], k3, by simp, by rw [List.length_append]; show L1.length + 1 ≤ 20; omega, fun b hb => ?_, exS_t t3 (exB_n u1 ?_)⟩
        · rcases List.mem_append.mp hb with hb | hb
          · exact q1 b hb
          · rw [List.mem_singleton.mp hb]; exact k2
        · show Except.ok _ = Except.ok (Fl.nx, D x4 (L1 ++ [a]))
          show _ = Except.ok (Fl.nx, [some (Vl.o x4), p1, some (.d (eS H)), some (.d (.int w)), some (.o (.list (F.map eF))), some (.d (.str t)), some r6, none, some (.o (.list ((L1 ++ [a]).map eS))), none])
          rw [List.map_append]
          rfl
    · rw [decide_eq_false hw] at t1
      exact ⟨x2, L1, hx2, n1, by omega, q1, exS_f (ev_andR (evAnd_f t1)) exB_nil⟩
  obtain ⟨x3, L2, hx3, n2, m2, q2, s4⟩ := s4
  have LL : LotsOf H L2 := ⟨hnd, q2⟩
  let K : Evn := [some (.o x3), p1, some (.d (eS H)), some (.d (.int w)), some (.o (.list (F.map eF))), some (.d (.str t)), some r6, none, some (.d (.list (L2.map eS))), none]
  have a5 : evs T (.cons (.var 8) .nil) (D x3 L2) = .ok ([.list (L2.map eS)], K) := evs_x (ev_varO rfl) rfl evs_nil
  have c5 : ev T (.call "_law_greatest" (.cons (.var 8) (.nil)) [] (.nil)) (D x3 L2) = .ok (.d (eF (greatM L2)), K) := ev_call (fd := d__law_greatest) rfl rfl a5 evs_nil (zs := [.list (L2.map eS)]) rfl
    (r_law_greatest (okF_lots hH LL) (fun a ha => by have := (q2 a ha).length_le; show _ ≤ 16000000; omega) (by omega) (few LL h5))
  have z4 : (D x3 L2)[4]? = some (some (.o (.list (F.map eF)))) := rfl
  have z5 : K[4]? = some (some (.o (.list (F.map eF)))) := rfl
  have s5 := exS_app (X := []) (i := 4) z4 c5 z5 (by rw [List.length_map]; show _ < 16000000; omega)
  refine ⟨x3, greatM L2, some r6, some (.d (.list (L2.map eS))), hx3, great_fam LL, great_ne LL n2, exB_n s1 (exB_n s2 (exB_n s3 (exB_n s4 (exB_n s5 ?_))))⟩
  rw [List.map_append]
  rfl
theorem r_net {x : PyData} (hx : FeedOk x) : ∃ (H : Lot) (F : List Fam) (x' : PyData), d__law_net.run [.o x, .d (.int 5)] = .ok (.d (eN H F), [x']) ∧ NetOk H F ∧ H.length ≤ 5 ∧ FeedOk x' := by
  let T := tbOf c__law_net
  obtain ⟨p, x1, g1, g2, g3⟩ := r_pool hx
  obtain ⟨pl, pa, pk⟩ := pools_ok p g2
  let R : List (Option Vl) := [some (.d (.int 5)), none, none, none, none, none, none, none, none]
  let A (x : PyData) : Evn := some (.o x) :: R
  have z0 : (A x)[0]? = some (some (.o x)) := rfl
  have c1 : ev T (.call "_law_pool" (.cons (.var 0) (.nil)) [] (.nil)) (A x) = .ok (.d (eL p), A x1) := ev_callF (fd := d__law_pool) (xs := []) rfl rfl rfl z0 evs_nil z0 g1
  obtain ⟨v, x2, v5, hx2, c2⟩ := ev_draw (T := T) rfl g3 5 (by decide) (by decide) (.var 1) R (ev_var rfl)
  have c3 : ev T (.bin .add (.cst (.int 1)) (.call "_law_draw" (.cons (.var 0) (.cons (.var 1) (.nil))) [] (.nil))) (A x1) = .ok (.d (.int ((1 + v : Nat) : Int)), A x2) := ev_binG (p := .vl (.d (.int 1))) (z := .int ((1 + v : Nat) : Int)) rfl (opd_n rfl c2) rfl rfl (add1 v)
  obtain ⟨H, hHe⟩ : ∃ H : Lot, H = p.take (1 + v) := ⟨_, rfl⟩
  have hsl : slcD (eL p) .none (.int ((1 + v : Nat) : Int)) = .ok (.list (H.map PyData.str)) := by
    have := slcL_to (xs := p.map PyData.str) (1 + v) (by rw [List.length_map, pl]; omega)
    rw [← List.map_take, ← hHe] at this
    exact this
  have c4 : ev T (.slc (.call "_law_pool" (.cons (.var 0) (.nil)) [] (.nil)) (.cst .none) (.bin .add (.cst (.int 1)) (.call "_law_draw" (.cons (.var 0) (.cons (.var 1) (.nil))) [] (.nil)))) (A x) = .ok (.o (.list (H.map PyData.str)), A x2) :=
    ev_slc (z := .list (H.map PyData.str)) (q := .d .none) (opd_n rfl c1) rfl rfl c3 rfl rfl hsl
  have c5 := ev_fnE (f := .tuple) (z := eS H) rfl c4 rfl
  have hsub : H.Sublist p := by rw [hHe]; exact List.take_sublist _ _
  have hH : okS H := fun n hn => pk n (hsub.subset hn)
  have hasc : H.Pairwise fun a b => ltN a b = true := pa.sublist hsub
  have hlen : H.length = 1 + v := by rw [hHe, List.length_take]; omega
  have hnd : H.Nodup := hasc.imp fun h => ltN_irr h
  have hne : H ≠ [] := fun e => by rw [e] at hlen; simp at hlen; omega
  have s1 := exS_asg (X := []) (i := 2) c5
  obtain ⟨w, x3, w6, hx3, c6⟩ := ev_draw (T := T) rfl hx2 6 (by decide) (by decide) (.cst (.int 6)) [some (.d (.int 5)), some (.d (eS H)), none, none, none, none, none, none, none] rfl
  have s2 := exS_asg2 (X := []) (i := 3) (j := 4) c6 (ev_lst (es := .nil) evs_nil (Nat.zero_le _))
  let B : Evn := [some (.o x3), some (.d (.int 5)), some (.d (eS H)), some (.d (.int w)), some (.o (.list [])), none, none, none, none, none]
  obtain ⟨e', s3, x4, F, p5, p6, p8, hx4, F1, F2, he'⟩ := exS_for (T := T) (X := []) (tg := .nm 5) (it := .src (.var 2)) (body := netB) (env := B) (e0 := B) H PyData.str
    (fun d e => ∃ x F p5 p6 p8, FeedOk x ∧ F.length = d.length ∧ (∀ f ∈ F, FamOk H f ∧ f ≠ []) ∧ e = [some (.o x), some (.d (.int 5)), some (.d (eS H)), some (.d (.int w)), some (.o (.list (F.map eF))), p5, p6, none, p8, none])
    (evI_src (ev_var rfl) (items_S H)) ⟨x3, [], none, none, none, hx3, rfl, (fun _ h => nomatch h), rfl⟩ (by
      rintro d n s hd e ⟨x, F, p5, p6, p8, hx, h1, h2, rfl⟩
      have hdl : d.length ≤ 5 := by have := congrArg List.length hd; rw [List.length_append] at this; omega
      obtain ⟨x', f, q6, q8, w1, w2, w3, w4⟩ := net_b hH hnd hne (by omega) (show n ∈ H by rw [hd]; simp) hx w F (by omega) (some (.d (.int 5))) p6 p8
      refine ⟨_, _, rfl, w4, x', F ++ [f], _, q6, q8, w1, by simp [h1], fun g hg => ?_, rfl⟩
      rcases List.mem_append.mp hg with hg | hg
      · exact h2 g hg
      · rw [List.mem_singleton.mp hg]; exact ⟨w2, w3⟩)
  subst he'
  refine ⟨H, F, x4, ?_, ⟨hH, hasc, hne, by omega, F1, fun f hf => (F2 f hf).1, fun f hf => (F2 f hf).2, fun f hf => by have := few_fam (F2 f hf).1 (by omega); omega⟩, by omega, hx4⟩
  have e9 := ev_fn (T := T) (f := .tuple) (a := .var 4) (env := [some (.o x4), some (.d (.int 5)), some (.d (eS H)), some (.d (.int w)), some (.o (.list (F.map eF))), p5, p6, none, p8, none]) (z := .tuple (F.map eF)) (ox_var rfl rfl) rfl
  exact run_b rfl (exB_n s1 (exB_n s2 (exB_n s3 (exB_r (exS_ret rfl (ev_tup (evs_x (ev_var rfl) rfl (evs_x e9 rfl evs_nil)) (show 2 ≤ 16000000 by decide))))))) rfl
end HeadT

set_option maxRecDepth 100000
namespace HeadT
open PySem Qv
/-! ### the plain quorums, or none -/
def plainM (H : Lot) (F : List Fam) : List Fam := F.map fun f => sortL (f.map (restM H))
theorem rest_sub (H a : Lot) : (restM H a).Sublist H := List.filter_sublist
theorem rests_lots {H : Lot} (hnd : H.Nodup) (f : Fam) : LotsOf H (f.map (restM H)) := ⟨hnd, fun a ha => by
  obtain ⟨b, _, rfl⟩ := List.mem_map.mp ha
  exact rest_sub H b⟩
theorem plain_facts {H : Lot} {F : List Fam} (N : NetOk H F) (h5 : H.length ≤ 5) : (plainM H F).length = H.length ∧ ∀ P ∈ plainM H F, P ≠ [] ∧ P.length ≤ 32 ∧ ∀ a ∈ P, a.Sublist H := by
  have hnd : H.Nodup := (show H.Pairwise fun a b => ltN a b = true from N.asc).imp fun h => ltN_irr h
  refine ⟨by unfold plainM; rw [List.length_map]; exact N.len, fun P hP => ?_⟩
  obtain ⟨f, hf, rfl⟩ := List.mem_map.mp hP
  refine ⟨fun e => ?_, ?_, fun a ha => (rests_lots hnd f).sub a (mem_sortL.mp ha)⟩
  · cases hc : f with
    | nil => exact N.fne f hf hc
    | cons a r =>
      have : restM H a ∈ sortL (f.map (restM H)) := mem_sortL.mpr (List.mem_map.mpr ⟨a, by rw [hc]; exact List.mem_cons_self, rfl⟩)
      rw [e] at this
      cases this
  · rw [len_sortL]
    have h1 := nodup_le (nodup_dedupL (f.map (restM H))) (m := allLots H) fun a ha => mem_allLots.mpr ((rests_lots hnd f).sub a (mem_dedupL.mp ha))
    rw [len_allLots] at h1
    have : 2 ^ H.length ≤ 2 ^ 5 := Nat.pow_le_pow_right (by decide) h5
    omega
theorem shp_famL {H : Lot} (hH : okS H) (hl : H.length ≤ 9) {f : Fam} (hs : ∀ a ∈ f, a.Sublist H) (h : f.length ≤ 63) : Nice 2 5166 (eF f) :=
  nice_mono (nice_F (fun a ha => okS_sub hH (hs a ha)) fun a ha => Nat.le_trans (hs a ha).length_le hl) (Nat.le_refl _) (by omega)
/-- what _law_plain gives -/
def plainR (H : Lot) (F : List Fam) : PyData := if ((plainM H F).filter fun P => decide ([] ∈ P)).isEmpty then eQ (plainM H F) else .none
theorem r_plain {H : Lot} {F : List Fam} (N : NetOk H F) (h5 : H.length ≤ 5) : d__law_plain.run [.d (eN H F)] = .ok (.d (plainR H F), []) := by
  let T := tbOf c__law_plain
  have hnd : H.Nodup := (show H.Pairwise fun a b => ltN a b = true from N.asc).imp fun h => ltN_irr h
  have hHl : H.length ≤ lim := by show _ ≤ 16000000; omega
  have s1 : exS T [] (.asg 1 (.lst .nil)) [some (.d (eN H F)), none, none, none, none] = .ok (.nx, [some (.d (eN H F)), some (.o (.list [])), none, none, none]) := exS_asg (ev_lst evs_nil (Nat.zero_le _))
  let A : Evn := [some (.d (eN H F)), some (.o (.list [])), none, none, none]
  obtain ⟨e', s2, p, he'⟩ := exS_for (T := T) (X := []) (tg := .nm 2) (it := .src (.sub (.var 0) (.cst (.int 1)))) (body := (.cons (.app 1 (.fn .tuple (.fn .sset (.lc [3] (.call "_law_others" (.cons (.sub (.var 0) (.cst (.int 0))) (.cons (.var 3) (.nil))) [] (.nil)) (.nm 3) (.src (.var 2)) (.nil))))) .nil)) (env := A) (e0 := A) F eF
    (fun d e => ∃ p, e = [some (.d (eN H F)), some (.o (.list ((plainM H d).map eF))), p, none, none]) (evI_src (ev_n1 rfl) rfl) ⟨none, rfl⟩ (by
    rintro d f s hd e ⟨p, rfl⟩
    have hf : f ∈ F := by rw [hd]; simp
    have L := (N.fam f hf).lots
    have fl := N.flen f hf
    have dl : d.length ≤ 5 := by have := congrArg List.length hd; rw [List.length_append] at this; have := N.len; omega
    let B : Evn := [some (.d (eN H F)), some (.o (.list ((plainM H d).map eF))), some (.d (eF f)), none, none]
    have e1 := ev_lcM (T := T) (i := 3) (elt := .call "_law_others" (.cons (.sub (.var 0) (.cst (.int 0))) (.cons (.var 3) (.nil))) [] (.nil)) (env := B) (e0 := B) f eS (fun a => eS (restM H a)) (evI_src (e := .var 2) (ev_var rfl) rfl) (by show _ ≤ 16000000; omega) (fun a ha => by
      let C : Evn := B.set 3 (some (.d (eS a)))
      have w : evs T (.cons (.sub (.var 0) (.cst (.int 0))) (.cons (.var 3) (.nil))) C = .ok ([eS H, eS a], C) := evs_x (ev_n0 rfl) rfl (evs_x (ev_var rfl) rfl evs_nil)
      exact ⟨_, ev_call (fd := d__law_others) rfl rfl w evs_nil (zs := [eS H, eS a]) rfl (r_others hHl N.names (okS_sub N.names (L.sub a ha))), rfl⟩)
    have em : (f.map fun a => eS (restM H a)) = (f.map (restM H)).map eS := by rw [List.map_map]; rfl
    rw [em] at e1
    have LL := rests_lots hnd f
    have e2 := ev_fnE (f := .sset) rfl e1 (sset_S (okF_lots N.names LL) (by rw [List.length_map]; omega) (few LL h5))
    have e3 := ev_fnE (f := .tuple) (z := eF (sortL (f.map (restM H)))) rfl e2 rfl
    have a1 := exS_app (X := []) (i := 1) (ys := (plainM H d).map eF) (xs := (plainM H d).map eF) rfl e3 rfl (by rw [List.length_map]; unfold plainM; rw [List.length_map]; show _ < 16000000; omega)
    refine ⟨_, _, rfl, exB_n a1 exB_nil, some (.d (eF f)), ?_⟩
    have : (plainM H (d ++ [f])).map eF = (plainM H d).map eF ++ [eF (sortL (f.map (restM H)))] := by unfold plainM; rw [List.map_append, List.map_append]; rfl
    rw [this]
    rfl)
  subst he'
  obtain ⟨pl, pf⟩ := plain_facts N h5
  let B : Evn := [some (.d (eN H F)), some (.o (.list ((plainM H F).map eF))), p, none, none]
  let B' : Evn := [some (.d (eN H F)), some (.d (.list ((plainM H F).map eF))), p, none, none]
  have e4 := ev_lcF (T := T) (i := 4) (t := .cmp .isin (.tup (.nil)) (.var 4)) (env := B) (e0 := B') (plainM H F) eF (fun P => decide ([] ∈ P)) (evI_src (e := .var 1) (ev_varO rfl) rfl) (by rw [pl]; show _ ≤ 16000000; omega) (show 4 < 5 by decide) (fun P hP => by
    obtain ⟨p1, p2, p3⟩ := pf P hP
    let C : Evn := B'.set 4 (some (.d (eF P)))
    have v : ev T (.tup .nil) C = .ok (.d (eS []), C) := ev_tup evs_nil (Nat.zero_le _)
    have o4 : Ox T (.var 4) C (eF P) := ox_var rfl rfl
    exact ev_cmp (ox_ev rfl v rfl) o4 (e_inL (fun _ h => nomatch h) ((shp_famL N.names N.hlen p3 (by omega)).shp (by decide))))
  have sh : shp (.list (((plainM H F).filter fun P => decide ([] ∈ P)).map eF)) = true := shp_list (k := 2) (w := 5166) (fun x hx => by
    obtain ⟨P, hP, rfl⟩ := List.mem_map.mp hx
    obtain ⟨p1, p2, p3⟩ := pf P (List.mem_filter.mp hP).1
    exact shp_famL N.names N.hlen p3 (by omega)) (by decide)
  have nl : ev T (.lst .nil) B' = .ok (.o (.list []), B') := ev_lst evs_nil (Nat.zero_le _)
  have c := ev_cmpG (op := .ne) (opd_n rfl e4) (opd_n rfl nl) rfl rfl (list_nnil sh)
  have c2 := ev_ite c (a := .cst .none) (b := .fn .tuple (.var 1))
  have fin : ev T (.ite (.cmp .ne (.lc [4] (.var 4) (.nm 4) (.src (.var 1)) (.cons (.cmp .isin (.tup (.nil)) (.var 4)) (.nil))) (.lst (.nil))) (.cst .none) (.fn .tuple (.var 1))) B = .ok (.d (plainR H F), B') := by
    refine c2.trans ?_
    unfold plainR
    rw [show (((plainM H F).filter fun P => decide ([] ∈ P)).map eF).isEmpty = ((plainM H F).filter fun P => decide ([] ∈ P)).isEmpty by cases ((plainM H F).filter fun P => decide ([] ∈ P)) <;> rfl]
    cases ((plainM H F).filter fun P => decide ([] ∈ P)).isEmpty with
    | true => exact ev_fn (z := eQ (plainM H F)) (ox_var rfl rfl) rfl
    | false => rfl
  exact run_b rfl (exB_n s1 (exB_n s2 (exB_r (exS_ret rfl fin)))) rfl
theorem plainR_cases {H : Lot} {F : List Fam} : plainR H F = .none ∨ (plainR H F = eQ (plainM H F) ∧ ∀ P ∈ plainM H F, ∀ a ∈ P, a ≠ []) := by
  unfold plainR
  cases h : ((plainM H F).filter fun P => decide ([] ∈ P)).isEmpty with
  | false => exact .inl rfl
  | true =>
    refine .inr ⟨rfl, fun P hP a ha e => ?_⟩
    have : P ∈ (plainM H F).filter fun P => decide ([] ∈ P) := List.mem_filter.mpr ⟨hP, decide_eq_true (e ▸ ha)⟩
    rw [List.isEmpty_iff.mp h] at this
    cases this
/-! ### quorums -/
/-- lots of some houses, none of them empty -/
structure FullL (H : Lot) (L : Fam) : Prop where
  ne : L ≠ []
  len : L.length ≤ 40
  sub : ∀ a ∈ L, a.Sublist H
  full : ∀ a ∈ L, a ≠ []
theorem list_of {H : Lot} {n : Nat} {α : Type} {P : Lot → Prop} {ks : List (α × PyData)} (hn : ks.length = n) (h : ∀ p ∈ ks, ∃ a : Lot, P a ∧ p.2 = eS a) : ∃ L : Fam, ks.map (·.2) = L.map eS ∧ L.length = n ∧ ∀ a ∈ L, P a := by
  subst hn
  induction ks with
  | nil => exact ⟨[], rfl, rfl, fun _ h => nomatch h⟩
  | cons q r ih =>
    obtain ⟨b, b1, b3⟩ := h q List.mem_cons_self
    obtain ⟨L', i1, i2, i3⟩ := ih fun p hp => h p (List.mem_cons_of_mem _ hp)
    refine ⟨b :: L', by rw [List.map_cons, List.map_cons, i1, b3], by simp [i2], fun c hc => ?_⟩
    rcases List.mem_cons.mp hc with rfl | hc
    · exact b1
    · exact i3 c hc
def packIn : Sms := (.cons (.iff (.and (.cons (.cmp .eq (.var 4) (.cst (.int 1))) (.cons (.cmp .eq (.call "_law_draw" (.cons (.var 0) (.cons (.cst (.int 3)) (.nil))) [] (.nil)) (.cst (.int 0))) (.nil))))
  (.cons (.asg 6 (.lc [8] (.call "_law_set" (.cons (.bin .add (.var 8) (.tup (.cons (.call "_law_pick" (.cons (.var 0) (.cons (.sub (.var 1) (.cst (.int 0))) (.nil))) [] (.nil)) (.nil)))) (.nil)) [] (.nil)) (.nm 8) (.src (.var 6)) (.nil)))
  .nil)
  .nil)
  .nil)
theorem pack_in {H : Lot} {F : List Fam} (N : NetOk H F) {x : PyData} (hx : FeedOk x) {L : Fam} (hL : FullL H L) (G pl : PyData) (w : Nat) (k l : Option Vl) :
    ∃ x' L', FeedOk x' ∧ FullL H L' ∧ exB (tbOf c__law_packs) [] packIn [some (.o x), some (.d (eN H F)), some (.o G), some (.d pl), some (.d (.int w)), k, some (.o (.list (L.map eS))), l, none] =
      .ok (.nx, [some (.o x'), some (.d (eN H F)), some (.o G), some (.d pl), some (.d (.int w)), k, some (.o (.list (L'.map eS))), l, none]) := by
  let T := tbOf c__law_packs
  let E (x : PyData) (r : Vl) : Evn := [some (.o x), some (.d (eN H F)), some (.o G), some (.d pl), some (.d (.int w)), k, some r, l, none]
  let LD : PyData := .list (L.map eS)
  have t1 : ev T (.cmp .eq (.var 4) (.cst (.int 1))) (E x (.o LD)) = .ok (.d (.bool (decide (w = 1))), E x (.o LD)) := ev_cmp (ox_var rfl rfl) ox_cst (eq_int w 1)
  by_cases hw : w = 1
  · rw [decide_eq_true hw] at t1
    obtain ⟨u, x1, u3, hx1, c1⟩ := ev_draw (T := T) rfl hx 3 (by decide) (by decide) (.cst (.int 3)) (E x (.o LD)).tail rfl
    have t2 := ev_cmpG (op := .eq) (b := .cst (.int 0)) (q := .vl (.d (.int 0))) (opd_n rfl c1) rfl rfl rfl (eq_int u 0)
    have t3 := ev_andR (evAnd_t t1 (evAnd_1 t2))
    cases hb : decide (u = 0) with
    | false =>
      rw [hb] at t3
      exact ⟨x1, L, hx1, hL, exB_n (exS_f t3 exB_nil) exB_nil⟩
    | true =>
      rw [hb] at t3
      have hi : evI T (.src (.var 6)) (E x1 (.o LD)) = .ok (L.map eS, E x1 (.d LD)) := evI_src (ev_varO rfl) rfl
      obtain ⟨ks, e', h1, h2, h3, x', hx', he'⟩ := ev_lcJ (T := T) (i := 8) (elt := .call "_law_set" (.cons (.bin .add (.var 8) (.tup (.cons (.call "_law_pick" (.cons (.var 0) (.cons (.sub (.var 1) (.cst (.int 0))) (.nil))) [] (.nil)) (.nil)))) (.nil)) [] (.nil)) (e0 := E x1 (.d LD)) L eS
        (fun e => ∃ x, FeedOk x ∧ e = E x (.d LD)) (fun a d => ∃ b : Lot, (b.Sublist H ∧ b ≠ []) ∧ d = eS b) hi (by have := hL.len; show _ ≤ 16000000; omega) ⟨x1, hx1, rfl⟩ (by
          rintro a ha e ⟨x, hx, rfl⟩
          have hs := hL.sub a ha
          have al := hs.length_le
          have hl9 := N.hlen
          obtain ⟨p, x2, g1, hp, hx2⟩ := r_pickT hx H PyData.str N.hne (by omega)
          let C (x : PyData) : Evn := [some (.o x), some (.d (eN H F)), some (.o G), some (.d pl), some (.d (.int w)), k, some (.d LD), l, some (.d (eS a))]
          have z : (C x)[0]? = some (some (.o x)) := rfl
          have a1 : evs T (.cons (.sub (.var 1) (.cst (.int 0))) .nil) (C x) = .ok ([.tuple (H.map PyData.str)], C x) := evs_x (ev_n0 rfl) rfl evs_nil
          have c2 : ev T (.call "_law_pick" (.cons (.var 0) (.cons (.sub (.var 1) (.cst (.int 0))) (.nil))) [] (.nil)) (C x) = .ok (.d (.str p), C x2) := ev_callF (fd := d__law_pick) rfl rfl rfl z a1 z g1
          have c3 : ev T (.tup (.cons (.call "_law_pick" (.cons (.var 0) (.cons (.sub (.var 1) (.cst (.int 0))) (.nil))) [] (.nil)) .nil)) (C x) = .ok (.d (.tuple [.str p]), C x2) := ev_tup (evs_x c2 rfl evs_nil) (show 1 ≤ 16000000 by decide)
          have c4 : ev T (.bin .add (.var 8) (.tup (.cons (.call "_law_pick" (.cons (.var 0) (.cons (.sub (.var 1) (.cst (.int 0))) (.nil))) [] (.nil)) .nil))) (C x) = .ok (.d (eS (a ++ [p])), C x2) := by
            refine ev_binG (p := .vl (.d (eS a))) (z := eS (a ++ [p])) rfl (opd_n rfl c3) rfl rfl ?_
            show grd (decide ((a.map PyData.str).length + 1 ≤ lim)) (PyData.tuple (a.map PyData.str ++ [PyData.str p])) = _
            rw [decide_eq_true (by rw [List.length_map]; show _ ≤ 16000000; omega)]
            simp [grd, eS]
          have hin : ∀ n ∈ a ++ [p], n ∈ H := fun n hn => (List.mem_append.mp hn).elim (fun h => hs.subset h) fun h => by rw [List.mem_singleton.mp h]; exact hp
          have w1 : evs T (.cons (.bin .add (.var 8) (.tup (.cons (.call "_law_pick" (.cons (.var 0) (.cons (.sub (.var 1) (.cst (.int 0))) (.nil))) [] (.nil)) .nil))) .nil) (C x) = .ok ([eS (a ++ [p])], C x2) := evs_x c4 rfl evs_nil
          have c5 := ev_call (T := T) (f := "_law_set") (ks := []) (kes := .nil) (fd := d__law_set) rfl rfl w1 evs_nil (zs := [eS (a ++ [p])]) rfl (r_set (fun n hn => N.names n (hin n hn)) (by rw [List.length_append]; show a.length + 1 ≤ 4000; omega))
          exact ⟨_, _, c5, ⟨sortN (a ++ [p]), ⟨set_sub N.asc hin, List.ne_nil_of_mem (mem_sortN.mpr (List.mem_append_right _ List.mem_cons_self))⟩, rfl⟩, x2, hx2, rfl⟩)
      have kl : ks.length = L.length := by have := congrArg List.length h1; rw [List.length_map] at this; exact this
      obtain ⟨L', l1, l2, l3⟩ := list_of (H := H) (P := fun b => b.Sublist H ∧ b ≠ []) kl h2
      rw [l1] at h3
      have h3' : ev T (.lc [8] (.call "_law_set" (.cons (.bin .add (.var 8) (.tup (.cons (.call "_law_pick" (.cons (.var 0) (.cons (.sub (.var 1) (.cst (.int 0))) (.nil))) [] (.nil)) (.nil)))) (.nil)) [] (.nil)) (.nm 8) (.src (.var 6)) (.nil)) (E x1 (.o LD)) = .ok (.o (.list (L'.map eS)), E x' (.d LD)) := h3.trans (congrArg (fun e => Except.ok (Vl.o (PyData.list (L'.map eS)), e)) he')
      exact ⟨x', L', hx', ⟨fun e => hL.ne (List.length_eq_zero_iff.mp (by rw [← l2, e]; rfl)), by rw [l2]; exact hL.len, fun b hb => (l3 b hb).1, fun b hb => (l3 b hb).2⟩, exB_n (exS_t t3 (exB_n (exS_asg h3') exB_nil)) exB_nil⟩
  · rw [decide_eq_false hw] at t1
    exact ⟨x, L, hx, hL, exB_n (exS_f (ev_andR (evAnd_f t1)) exB_nil) exB_nil⟩
def packB : Sms := (.cons (.asg 6 (.lc [7] (.call "_law_part" (.cons (.var 0) (.cons (.sub (.var 1) (.cst (.int 0))) (.cons (.cst (.int 2)) (.nil)))) [] (.nil)) (.nm 7) (.rng1 (.bin .add (.cst (.int 1)) (.call "_law_draw" (.cons (.var 0) (.cons (.cst (.int 3)) (.nil))) [] (.nil)))) (.nil)))
  (.cons (.asg 6 (.lc [8] (.ite (.cmp .ne (.var 8) (.tup (.nil))) (.var 8) (.tup (.cons (.sub (.sub (.var 1) (.cst (.int 0))) (.var 5)) (.nil)))) (.nm 8) (.src (.var 6)) (.nil)))
  (.cons (.iff (.and (.cons (.cmp .isnn (.var 3) (.cst .none)) (.cons (.or (.cons (.cmp .lt (.var 4) (.cst (.int 2))) (.cons (.cmp .gt (.call "_law_draw" (.cons (.var 0) (.cons (.cst (.int 3)) (.nil))) [] (.nil)) (.cst (.int 0))) (.nil)))) (.nil))))
  (.cons (.asg 6 (.fn .list (.sub (.var 3) (.var 5)))) packIn)
  .nil)
  (.cons (.app 2 (.call "_law_least" (.cons (.var 6) (.nil)) [] (.nil)))
  .nil))))
theorem pack_b {H : Lot} {F : List Fam} (N : NetOk H F) (h5 : H.length ≤ 5) {x : PyData} (hx : FeedOk x) (G : List Fam) (hG : G.length ≤ 100) (w k : Nat) (hk : k < H.length) (p6 : Option Vl) :
    ∃ x' f q6, FeedOk x' ∧ FamOk H f ∧ f ≠ [] ∧ (∀ a ∈ f, a ≠ []) ∧ exB (tbOf c__law_packs) [] packB [some (.o x), some (.d (eN H F)), some (.o (.list (G.map eF))), some (.d (plainR H F)), some (.d (.int w)), some (.d (.int k)), p6, none, none] =
      .ok (.nx, [some (.o x'), some (.d (eN H F)), some (.o (.list ((G ++ [f]).map eF))), some (.d (plainR H F)), some (.d (.int w)), some (.d (.int k)), q6, none, none]) := by
  let T := tbOf c__law_packs
  have hnd : H.Nodup := (show H.Pairwise fun a b => ltN a b = true from N.asc).imp fun h => ltN_irr h
  let GD : PyData := .list (G.map eF)
  let E (x : PyData) (r : Option Vl) : Evn := [some (.o x), some (.d (eN H F)), some (.o GD), some (.d (plainR H F)), some (.d (.int w)), some (.d (.int k)), r, none, none]
  -- drawn lots
  obtain ⟨v, x1, v3, hx1, c1⟩ := ev_draw (T := T) rfl hx 3 (by decide) (by decide) (.cst (.int 3)) (E x p6).tail rfl
  have c2 : ev T (.bin .add (.cst (.int 1)) (.call "_law_draw" (.cons (.var 0) (.cons (.cst (.int 3)) (.nil))) [] (.nil))) (E x p6) = .ok (.d (.int ((1 + v : Nat) : Int)), E x1 p6) := ev_binG (p := .vl (.d (.int 1))) (z := .int ((1 + v : Nat) : Int)) rfl (opd_n rfl c1) rfl rfl (add1 v)
  obtain ⟨ks, e', h1, h2, h3, x2, hx2, he'⟩ := ev_lcJ (T := T) (i := 7) (elt := .call "_law_part" (.cons (.var 0) (.cons (.sub (.var 1) (.cst (.int 0))) (.cons (.cst (.int 2)) (.nil)))) [] (.nil)) (e0 := E x1 p6) (List.range (1 + v)) (fun (k : Nat) => PyData.int k)
    (fun e => ∃ x, FeedOk x ∧ e = E x p6) (fun _ d => ∃ a : Lot, a.Sublist H ∧ d = eS a) (evI_rng1 c2 (by show _ ≤ 16000000; omega)) (by rw [List.length_range]; show _ ≤ 16000000; omega) ⟨x1, hx1, rfl⟩ (by
      rintro j hj e ⟨x, hx, rfl⟩
      obtain ⟨a, x3, k1, k2, k3⟩ := r_part hx (dd := eS H) (l := H) rfl (by omega) (m := 2) (by decide) (by decide)
      let C (x : PyData) : Evn := [some (.o x), some (.d (eN H F)), some (.o GD), some (.d (plainR H F)), some (.d (.int w)), some (.d (.int k)), p6, some (.d (.int j)), none]
      have z : (C x)[0]? = some (some (.o x)) := rfl
      have a1 : evs T (.cons (.sub (.var 1) (.cst (.int 0))) (.cons (.cst (.int 2)) .nil)) (C x) = .ok ([eS H, .int (2 : Nat)], C x) := evs_x (ev_n0 rfl) rfl (evs_x (r := .d (.int 2)) rfl rfl evs_nil)
      have d1 : ev T (.call "_law_part" (.cons (.var 0) (.cons (.sub (.var 1) (.cst (.int 0))) (.cons (.cst (.int 2)) (.nil)))) [] (.nil)) (C x) = .ok (.d (eS a), C x3) := ev_callF (fd := d__law_part) rfl rfl rfl z a1 z k1
      exact ⟨_, _, d1, ⟨a, k2, rfl⟩, x3, k3, rfl⟩)
  have kl : ks.length = 1 + v := by have := congrArg List.length h1; rw [List.length_map, List.length_range] at this; exact this
  obtain ⟨L, l1, l2, l3⟩ := list_of (H := H) (P := fun b => b.Sublist H) kl h2
  rw [l1] at h3
  have h3' : ev T (.lc [7] (.call "_law_part" (.cons (.var 0) (.cons (.sub (.var 1) (.cst (.int 0))) (.cons (.cst (.int 2)) (.nil)))) [] (.nil)) (.nm 7) (.rng1 (.bin .add (.cst (.int 1)) (.call "_law_draw" (.cons (.var 0) (.cons (.cst (.int 3)) (.nil))) [] (.nil)))) (.nil)) (E x p6) = .ok (.o (.list (L.map eS)), E x2 p6) := h3.trans (congrArg (fun e => Except.ok (Vl.o (PyData.list (L.map eS)), e)) he')
  have s1 := exS_asg (X := []) (i := 6) h3'
  -- none of them empty
  let LD : PyData := .list (L.map eS)
  let tk : Str := H[k]
  have e4 := ev_lcM (T := T) (i := 8) (elt := .ite (.cmp .ne (.var 8) (.tup (.nil))) (.var 8) (.tup (.cons (.sub (.sub (.var 1) (.cst (.int 0))) (.var 5)) (.nil)))) (env := E x2 (some (.o LD))) (e0 := E x2 (some (.d LD))) L eS (fun a => eS (if a = [] then [tk] else a)) (evI_src (e := .var 6) (ev_varO rfl) rfl) (by show _ ≤ 16000000; omega) (fun a ha => by
    let B : Evn := (E x2 (some (.d LD))).set 8 (some (.d (eS a)))
    have v : ev T (.tup .nil) B = .ok (.d (eS []), B) := ev_tup evs_nil (Nat.zero_le _)
    have o8 : Ox T (.var 8) B (eS a) := ox_var rfl rfl
    have o5 : Ox T (.var 5) B (.int k) := ox_var rfl rfl
    have c := ev_cmp o8 (ox_ev rfl v rfl) (e_neL (okS_sub N.names (l3 a ha)) (b := []) (fun _ h => nomatch h))
    have q0 : ev T (.sub (.var 1) (.cst (.int 0))) B = .ok (.d (eS H), B) := ev_n0 rfl
    have q1 := ev_sub (ox_ev rfl q0 rfl) o5 (cons_at PyData.str H k hk)
    have q2 := ev_tup (evs_x q1 (x := .str tk) rfl evs_nil) (show 1 ≤ 16000000 by decide)
    have c2 := ev_ite c (a := .var 8) (b := .tup (.cons (.sub (.sub (.var 1) (.cst (.int 0))) (.var 5)) (.nil)))
    by_cases h : a = []
    · rw [decide_eq_true h] at c2
      exact ⟨_, c2.trans q2, by rw [if_pos h]; rfl⟩
    · rw [decide_eq_false h] at c2
      exact ⟨_, c2.trans (ev_var (T := T) rfl), by rw [if_neg h]; rfl⟩)
  let L0 : Fam := L.map fun a => if a = [] then [tk] else a
  have em : (L.map fun a => eS (if a = [] then [tk] else a)) = L0.map eS := by show _ = (L.map _).map eS; rw [List.map_map]; rfl
  rw [em] at e4
  have F0 : FullL H L0 := by
    refine ⟨fun e => ?_, by show (L.map _).length ≤ 40; rw [List.length_map]; omega, fun b hb => ?_, fun b hb => ?_⟩
    · have := congrArg List.length e
      simp only [L0, List.length_map, List.length_nil] at this
      omega
    · obtain ⟨a, ha, rfl⟩ := List.mem_map.mp hb
      by_cases h : a = []
      · rw [if_pos h]; exact List.singleton_sublist.mpr (List.getElem_mem _)
      · rw [if_neg h]; exact l3 a ha
    · obtain ⟨a, ha, rfl⟩ := List.mem_map.mp hb
      by_cases h : a = []
      · rw [if_pos h]; simp
      · rw [if_neg h]; exact h
  have s2 := exS_asg (X := []) (i := 6) e4
  -- the plain ones in their place
  obtain ⟨pln, pf⟩ := plain_facts N h5
  have s3 : ∃ x4 L2, FeedOk x4 ∧ FullL H L2 ∧ exS T [] (.iff (.and (.cons (.cmp .isnn (.var 3) (.cst .none)) (.cons (.or (.cons (.cmp .lt (.var 4) (.cst (.int 2))) (.cons (.cmp .gt (.call "_law_draw" (.cons (.var 0) (.cons (.cst (.int 3)) (.nil))) [] (.nil)) (.cst (.int 0))) (.nil)))) (.nil))))
      (.cons (.asg 6 (.fn .list (.sub (.var 3) (.var 5)))) packIn) .nil) (E x2 (some (.o (.list (L0.map eS))))) = .ok (.nx, E x4 (some (.o (.list (L2.map eS))))) := by
    rcases plainR_cases (H := H) (F := F) with hp | ⟨hp, hfull⟩
    · have t : ev T (.cmp .isnn (.var 3) (.cst .none)) (E x2 (some (.o (.list (L0.map eS))))) = .ok (.d (.bool false), E x2 (some (.o (.list (L0.map eS))))) := ev_cmp (x := .none) (y := .none) (ox_var (r := .d (plainR H F)) rfl hp) ox_cst rfl
      exact ⟨x2, L0, hx2, F0, exS_f (ev_andR (evAnd_f t)) exB_nil⟩
    · let A (x : PyData) : Evn := E x (some (.o (.list (L0.map eS))))
      have t : ev T (.cmp .isnn (.var 3) (.cst .none)) (A x2) = .ok (.d (.bool true), A x2) := ev_cmp (x := eQ (plainM H F)) (y := .none) (ox_var (r := .d (plainR H F)) rfl hp) ox_cst rfl
      have t4 : ev T (.cmp .lt (.var 4) (.cst (.int 2))) (A x2) = .ok (.d (.bool (decide ((w : Int) < 2))), A x2) := ev_cmp (x := .int w) (y := .int 2) (ox_var rfl rfl) ox_cst rfl
      have th : ∃ x3 b, FeedOk x3 ∧ ev T (.or (.cons (.cmp .lt (.var 4) (.cst (.int 2))) (.cons (.cmp .gt (.call "_law_draw" (.cons (.var 0) (.cons (.cst (.int 3)) (.nil))) [] (.nil)) (.cst (.int 0))) (.nil)))) (A x2) = .ok (.d (.bool b), A x3) := by
        cases hb : decide ((w : Int) < 2) with
        | true =>
          rw [hb] at t4
          exact ⟨x2, true, hx2, ev_orR (evOr_t t4)⟩
        | false =>
          rw [hb] at t4
          obtain ⟨u, x3, u3, hx3, c3⟩ := ev_draw (T := T) rfl hx2 3 (by decide) (by decide) (.cst (.int 3)) (A x2).tail rfl
          have t5 := ev_cmpG (op := .gt) (b := .cst (.int 0)) (q := .vl (.d (.int 0))) (opd_n rfl c3) rfl rfl rfl (gt0 u)
          cases hu : decide (0 < u) with
          | true =>
            rw [hu] at t5
            exact ⟨x3, true, hx3, ev_orR (evOr_f t4 (evOr_t t5))⟩
          | false =>
            rw [hu] at t5
            exact ⟨x3, false, hx3, ev_orR (evOr_f t4 (evOr_f t5 evOr_nil))⟩
      obtain ⟨x3, b, hx3, th⟩ := th
      cases b with
      | false => exact ⟨x3, L0, hx3, F0, exS_f (ev_andR (evAnd_t t (evAnd_1 th))) exB_nil⟩
      | true =>
        have hk2 : k < (plainM H F).length := by rw [pln]; exact hk
        have o3 : Ox T (.var 3) (A x3) (eQ (plainM H F)) := ox_var (r := .d (plainR H F)) rfl hp
        have o5 : Ox T (.var 5) (A x3) (.int k) := ox_var rfl rfl
        have q1 := ev_sub o3 o5 (cons_at eF (plainM H F) k hk2)
        obtain ⟨P, hPe⟩ : ∃ P : Fam, P = (plainM H F)[k] := ⟨_, rfl⟩
        rw [← hPe] at q1
        have hPm : P ∈ plainM H F := by rw [hPe]; exact List.getElem_mem _
        obtain ⟨p1, p2, p3⟩ := pf P hPm
        have q2 := ev_fnE (f := .list) (z := .list (P.map eS)) rfl q1 rfl
        have u1 := exS_asg (X := []) (i := 6) q2
        have FP : FullL H P := ⟨p1, by omega, p3, hfull P hPm⟩
        obtain ⟨x5, L5, hx5, F5, u2⟩ := pack_in N hx3 FP GD (plainR H F) w (some (.d (.int k))) none
        exact ⟨x5, L5, hx5, F5, exS_t (ev_andR (evAnd_t t (evAnd_1 th))) (exB_n u1 u2)⟩
  obtain ⟨x4, L2, hx4, F2, s3⟩ := s3
  have LL : LotsOf H L2 := ⟨hnd, F2.sub⟩
  have a5 : evs T (.cons (.var 6) .nil) (E x4 (some (.o (.list (L2.map eS))))) = .ok ([.list (L2.map eS)], E x4 (some (.d (.list (L2.map eS))))) := evs_x (ev_varO rfl) rfl evs_nil
  have c5 : ev T (.call "_law_least" (.cons (.var 6) (.nil)) [] (.nil)) (E x4 (some (.o (.list (L2.map eS))))) = .ok (.d (eF (leastM L2)), E x4 (some (.d (.list (L2.map eS))))) := ev_call (fd := d__law_least) rfl rfl a5 evs_nil (zs := [.list (L2.map eS)]) rfl
    (r_law_least (okF_lots N.names LL) (fun a ha => by have := (F2.sub a ha).length_le; show _ ≤ 16000000; omega) (by have := F2.len; omega) (few LL h5))
  have z2 : (E x4 (some (.o (.list (L2.map eS)))))[2]? = some (some (.o (.list (G.map eF)))) := rfl
  have z3 : (E x4 (some (.d (.list (L2.map eS)))))[2]? = some (some (.o (.list (G.map eF)))) := rfl
  have s5 := exS_app (X := []) (i := 2) z2 c5 z3 (by rw [List.length_map]; show _ < 16000000; omega)
  refine ⟨x4, leastM L2, some (.d (.list (L2.map eS))), hx4, least_fam LL, least_ne LL F2.ne, fun a ha => F2.full a (least_sub ha), exB_n s1 (exB_n s2 (exB_n s3 (exB_n s5 ?_)))⟩
  rw [List.map_append]
  rfl
theorem r_packs {H : Lot} {F : List Fam} (N : NetOk H F) (h5 : H.length ≤ 5) {x : PyData} (hx : FeedOk x) : ∃ Q x', QuOk H Q ∧ FeedOk x' ∧ d__law_packs.run [.o x, .d (eN H F)] = .ok (.d (eQ Q), [x']) := by
  let T := tbOf c__law_packs
  let R : List (Option Vl) := [some (.d (eN H F)), none, none, none, none, none, none, none]
  have c0 : ev T (.lst .nil) (some (.o x) :: R) = .ok (.o (.list []), some (.o x) :: R) := ev_lst evs_nil (Nat.zero_le _)
  have a1 : evs T (.cons (.var 1) .nil) (some (.o x) :: R) = .ok ([eN H F], some (.o x) :: R) := evs_x (ev_var rfl) rfl evs_nil
  have c1 : ev T (.call "_law_plain" (.cons (.var 1) (.nil)) [] (.nil)) (some (.o x) :: R) = .ok (.d (plainR H F), some (.o x) :: R) := ev_call (fd := d__law_plain) rfl rfl a1 evs_nil (zs := [eN H F]) rfl (r_plain N h5)
  obtain ⟨w, x1, w4, hx1, c2⟩ := ev_draw (T := T) rfl hx 4 (by decide) (by decide) (.cst (.int 4)) R rfl
  have s1 := exS_asg3 (X := []) (i := 2) (j := 3) (l := 4) c0 c1 c2
  let B : Evn := [some (.o x1), some (.d (eN H F)), some (.o (.list [])), some (.d (plainR H F)), some (.d (.int w)), none, none, none, none]
  have l1 : ev T (.fn .len (.sub (.var 1) (.cst (.int 0)))) B = .ok (.d (.int H.length), B) := by
    have := ev_fnE (T := T) (f := .len) (z := .int (H.map PyData.str).length) rfl (ev_n0 (T := T) (i := 1) (env := B) rfl) rfl
    rw [List.length_map] at this
    exact this
  obtain ⟨e', s2, x', Q, p5, p6, hx', h1, h2, he'⟩ := exS_for (T := T) (X := []) (tg := .nm 5) (it := .rng1 (.fn .len (.sub (.var 1) (.cst (.int 0))))) (body := packB) (env := B) (e0 := B) (List.range H.length) (fun (k : Nat) => PyData.int k)
    (fun d e => ∃ x Q p5 p6, FeedOk x ∧ Q.length = d.length ∧ (∀ g ∈ Q, FamOk H g ∧ g ≠ [] ∧ ∀ a ∈ g, a ≠ []) ∧ e = [some (.o x), some (.d (eN H F)), some (.o (.list (Q.map eF))), some (.d (plainR H F)), some (.d (.int w)), p5, p6, none, none])
    (evI_rng1 l1 (by show _ ≤ 16000000; omega)) ⟨x1, [], none, none, hx1, rfl, (fun _ h => nomatch h), rfl⟩ (by
      rintro d k s hd e ⟨x, Q, p5, p6, hx, h1, h2, rfl⟩
      have hk : k < H.length := List.mem_range.mp (by rw [hd]; simp)
      have dl : d.length ≤ 5 := by have := congrArg List.length hd; rw [List.length_append, List.length_range] at this; omega
      obtain ⟨x', f, q6, w1, w2, w3, w5, w6⟩ := pack_b N h5 hx Q (by omega) w k hk p6
      refine ⟨_, _, rfl, w6, x', Q ++ [f], _, q6, w1, by simp [h1], fun g hg => ?_, rfl⟩
      rcases List.mem_append.mp hg with hg | hg
      · exact h2 g hg
      · rw [List.mem_singleton.mp hg]; exact ⟨w2, w3, w5⟩)
  subst he'
  rw [List.length_range] at h1
  refine ⟨Q, x', ⟨h1, fun f hf => (h2 f hf).1, fun f hf => (h2 f hf).2.1, fun f hf => (h2 f hf).2.2⟩, hx', ?_⟩
  have e1 := ev_fn (T := T) (f := .tuple) (a := .var 2) (env := [some (.o x'), some (.d (eN H F)), some (.o (.list (Q.map eF))), some (.d (plainR H F)), some (.d (.int w)), p5, p6, none, none]) (z := eQ Q) (ox_var rfl rfl) rfl
  exact run_b rfl (exB_n s1 (exB_n s2 (exB_r (exS_ret rfl e1)))) rfl
end HeadT

set_option maxRecDepth 100000
namespace HeadT
open PySem Qv
theorem r_subs {H : Lot} (hH : okS H) (h5 : H.length ≤ 5) : d__law_subsets.run [.d (eS H)] = .ok (.o (.list ((subsK H).map eS)), []) := by
  let T := tbOf c__law_subsets
  have s1 := exS_asg (T := T) (X := []) (i := 1) (ev_lst (env := [some (.d (eS H)), none, none, none, none, none]) (evs_x (e := .tup .nil) (ev_tup evs_nil (Nat.zero_le _)) rfl evs_nil) (by decide))
  obtain ⟨e', s2, p, he'⟩ := exS_for (T := T) (X := []) (tg := .nm 2) (it := .src (.var 0)) (body := (.cons (.asg 1 (.bin .add (.var 1) (.lc [3] (.bin .add (.var 3) (.tup (.cons (.var 2) (.nil)))) (.nm 3) (.src (.var 1)) (.nil)))) .nil)) H .str
    (fun d e => ∃ p, e = [some (.d (eS H)), some (.o (.list ((allLots d).map eS))), p, none, none, none]) (evI_src (ev_var rfl) rfl) ⟨_, rfl⟩ (by
    rintro d t s hd e ⟨p, rfl⟩
    have hdl : d.length ≤ 5 := by have := congrArg List.length hd; rw [List.length_append] at this; omega
    have hn : (allLots d).length ≤ 32 := by rw [len_allLots]; exact Nat.pow_le_pow_right (by decide) hdl
    let e0 : Evn := [some (.d (eS H)), some (.d (.list ((allLots d).map eS))), some (.d (.str t)), none, none, none]
    have hal : ∀ a ∈ allLots d, a.length ≤ 5 := fun a ha => Nat.le_trans (mem_allLots.mp ha).length_le hdl
    have l1 := ev_lcM (T := T) (i := 3) (elt := .bin .add (.var 3) (.tup (.cons (.var 2) (.nil)))) (env := [some (.d (eS H)), some (.o (.list ((allLots d).map eS))), some (.d (.str t)), none, none, none]) (e0 := e0) (allLots d) eS (fun a => eS (a ++ [t])) (evI_src (e := .var 1) (ev_varO rfl) rfl) (by show _ ≤ 16000000; omega) (fun a ha => by
      refine ⟨.d (eS (a ++ [t])), ev_bin (z := eS (a ++ [t])) (ox_var rfl rfl) (ox_ev rfl (ev_tup (evs_x (ev_var rfl) rfl evs_nil) (show 1 ≤ 16000000 by decide)) rfl) ?_, rfl⟩
      have := hal a ha
      show grd (decide ((a.map PyData.str).length + 1 ≤ lim)) (PyData.tuple (a.map PyData.str ++ [PyData.str t])) = _
      rw [decide_eq_true (by rw [List.length_map]; show _ ≤ 16000000; omega)]
      simp [grd, eS])
    have b1 : ev T (.bin .add (.var 1) (.lc [3] (.bin .add (.var 3) (.tup (.cons (.var 2) (.nil)))) (.nm 3) (.src (.var 1)) (.nil))) [some (.d (eS H)), some (.o (.list ((allLots d).map eS))), some (.d (.str t)), none, none, none] = .ok (.o (.list ((allLots (d ++ [t])).map eS)), e0) := by
      refine ev_binG (p := .sl 1) (z := .list ((allLots (d ++ [t])).map eS)) rfl (opd_n rfl l1) rfl rfl ?_
      show grd (decide (((allLots d).map eS).length + ((allLots d).map fun a => eS (a ++ [t])).length ≤ lim)) (PyData.list ((allLots d).map eS ++ ((allLots d).map fun a => eS (a ++ [t])))) = _
      rw [decide_eq_true (by rw [List.length_map, List.length_map]; show _ ≤ 16000000; omega), allLots_snoc, List.map_append, List.map_map]
      rfl
    exact ⟨_, _, rfl, exB_n (exS_asg b1) exB_nil, _, rfl⟩)
  subst he'
  have hn : (allLots H).length ≤ 32 := by rw [len_allLots]; exact Nat.pow_le_pow_right (by decide) h5
  have s3 : exS T [] (.asg 4 (.lst .nil)) [some (.d (eS H)), some (.o (.list ((allLots H).map eS))), p, none, none, none] = .ok (.nx, [some (.d (eS H)), some (.o (.list ((allLots H).map eS))), p, none, some (.o (.list [])), none]) := exS_asg (ev_lst evs_nil (Nat.zero_le _))
  let B : Evn := [some (.d (eS H)), some (.o (.list ((allLots H).map eS))), p, none, some (.o (.list [])), none]
  have l1 : ev T (.fn .len (.var 0)) B = .ok (.d (.int H.length), B) := by
    have := ev_fn (T := T) (f := .len) (a := .var 0) (env := B) (z := .int (H.map PyData.str).length) (ox_var (x := eS H) rfl rfl) rfl
    rw [List.length_map] at this
    exact this
  have l2 : ev T (.bin .add (.fn .len (.var 0)) (.cst (.int 1))) B = .ok (.d (.int ((H.length + 1 : Nat) : Int)), B) := ev_bin (z := .int ((H.length + 1 : Nat) : Int)) (ox_ev rfl l1 rfl) ox_cst rfl
  obtain ⟨e', s4, p5, r, hr, he'⟩ := exS_for (T := T) (X := []) (tg := .nm 5) (it := .rng1 (.bin .add (.fn .len (.var 0)) (.cst (.int 1)))) (body := (.cons (.asg 4 (.bin .add (.var 4) (.fn .sset (.lc [3] (.var 3) (.nm 3) (.src (.var 1)) (.cons (.cmp .eq (.fn .len (.var 3)) (.var 5)) (.nil)))))) .nil)) (env := B) (e0 := B) (List.range (H.length + 1)) (fun (k : Nat) => PyData.int k)
    (fun d e => ∃ p5 r, Vl.x r = .list ((allLots H).map eS) ∧ e = [some (.d (eS H)), some r, p, none, some (.o (.list ((d.flatMap (bySize H)).map eS))), p5]) (evI_rng1 l2 (by show _ ≤ 16000000; omega)) ⟨none, .o _, rfl, rfl⟩ (by
    rintro d k s hd e ⟨p5, r, hr, rfl⟩
    have dl : d.length ≤ 6 := by have := congrArg List.length hd; rw [List.length_append, List.length_range] at this; omega
    let A : Evn := [some (.d (eS H)), some r, p, none, some (.o (.list ((d.flatMap (bySize H)).map eS))), some (.d (.int k))]
    let A1 : Evn := [some (.d (eS H)), some (.d (.list ((allLots H).map eS))), p, none, some (.o (.list ((d.flatMap (bySize H)).map eS))), some (.d (.int k))]
    have v1 : ev T (.var 1) A = .ok (.d (.list ((allLots H).map eS)), A1) := by
      cases r with
      | d y =>
        have : y = .list ((allLots H).map eS) := hr
        subst this
        exact ev_var rfl
      | o y =>
        have : y = .list ((allLots H).map eS) := hr
        subst this
        exact ev_varO rfl
    have e1 := ev_lcF (T := T) (i := 3) (t := .cmp .eq (.fn .len (.var 3)) (.var 5)) (env := A) (e0 := A1) (allLots H) eS (fun a => decide (a.length = k)) (evI_src v1 rfl) (by show _ ≤ 16000000; omega) (show 3 < 6 by decide) (fun a ha => by
      have f : ev T (.fn .len (.var 3)) (A1.set 3 (some (.d (eS a)))) = .ok (.d (.int a.length), A1.set 3 (some (.d (eS a)))) := by
        have := ev_fn (T := T) (f := .len) (a := .var 3) (env := A1.set 3 (some (.d (eS a)))) (z := .int (a.map PyData.str).length) (ox_var (x := eS a) rfl rfl) rfl
        rw [List.length_map] at this
        exact this
      exact ev_cmp (ox_ev rfl f rfl) (ox_var rfl rfl) (eq_int a.length k))
    let S : Fam := (allLots H).filter fun a => decide (a.length = k)
    have sl : S.length ≤ 32 := Nat.le_trans (List.length_filter_le _ _) hn
    have hS : ∀ a ∈ S, a.Sublist H := fun a ha => mem_allLots.mp (List.mem_filter.mp ha).1
    have dd : (dedupL S).length < 64 := by
      have := nodup_le (nodup_dedupL S) fun x hx => mem_dedupL.mp hx
      omega
    have e2 := ev_fnE (f := .sset) (z := .list ((bySize H k).map eS)) rfl e1 (sset_S (xs := S) (fun a ha => okS_sub hH (hS a ha)) (by omega) dd)
    have nb : ∀ l : List Nat, (l.flatMap (bySize H)).length ≤ l.length * 32 := by
      intro l
      induction l with
      | nil => simp
      | cons k r ih =>
        have := Nat.le_trans (len_bySize H k) (Nat.pow_le_pow_right (by decide) h5 : 2 ^ H.length ≤ 2 ^ 5)
        simp only [List.flatMap_cons, List.length_append, List.length_cons, Nat.add_mul]
        omega
    have n1 := nb d
    have n2 := Nat.le_trans (len_bySize H k) (Nat.pow_le_pow_right (by decide) h5 : 2 ^ H.length ≤ 2 ^ 5)
    have e3 : ev T (.bin .add (.var 4) (.fn .sset (.lc [3] (.var 3) (.nm 3) (.src (.var 1)) (.cons (.cmp .eq (.fn .len (.var 3)) (.var 5)) (.nil))))) A = .ok (.o (.list (((d ++ [k]).flatMap (bySize H)).map eS)), A1) := by
      refine ev_binG (p := .sl 4) (z := .list (((d ++ [k]).flatMap (bySize H)).map eS)) rfl (opd_n rfl e2) rfl rfl ?_
      show grd (decide (((d.flatMap (bySize H)).map eS).length + ((bySize H k).map eS).length ≤ lim)) (PyData.list ((d.flatMap (bySize H)).map eS ++ (bySize H k).map eS)) = _
      rw [decide_eq_true (by rw [List.length_map, List.length_map]; show _ ≤ 16000000; omega), List.flatMap_append, List.map_append]
      simp [grd]
    exact ⟨_, _, rfl, exB_n (exS_asg e3) exB_nil, _, .d (.list ((allLots H).map eS)), rfl, rfl⟩)
  subst he'
  exact run_b rfl (exB_n s1 (exB_n s2 (exB_n s3 (exB_n s4 (exB_r (exS_retO rfl)))))) rfl
theorem com_empty (q s : Lot) : decide (commonOf q s = []) = !hits q s := by
  rw [← hits_common]
  cases commonOf q s <;> simp
theorem flip_hits (f : Fam) (s : Lot) : ((f.filter fun q => decide (commonOf q s = [])).map eS).isEmpty = hitsAll f s := by
  rw [← meets_empty]
  congr 3
  funext q
  exact com_empty q s
theorem flip_lies (f : Fam) (s : Lot) : ((f.filter fun q => liesIn q s).map eS).isEmpty = !(f.any fun q => liesIn q s) := by
  induction f with
  | nil => rfl
  | cons q r ih =>
    rw [List.filter_cons, List.any_cons]
    cases e : liesIn q s with
    | true => simp
    | false => simpa using ih
/-- [pack for pack in f if _law_common(pack, s) == ()] == [] -/
theorem e_meets {T : Tb} (hT : List.lookup ("_law_common" : Str) T = some d__law_common) {H : Lot} (hH : okS H) (h5 : H.length ≤ 5) {f : Fam} (L : LotsOf H f) (hf : f.length ≤ 63) {s : Lot} (hs : s.Sublist H) {i j : Nat} {it : Ex} {env : Evn} (hij : i ≠ j)
    (hi : env[i]? = some none) (hj : env[j]? = some (some (.d (eS s)))) (hit : ev T it env = .ok (.d (eF f), env)) :
    ev T (.cmp .eq (.lc [i] (.var i) (.nm i) (.src it) (.cons (.cmp .eq (.call "_law_common" (.cons (.var i) (.cons (.var j) (.nil))) [] (.nil)) (.tup (.nil))) (.nil))) (.lst (.nil))) env = .ok (.d (.bool (hitsAll f s)), env) := by
  have hil : i < env.length := (List.getElem?_eq_some_iff.mp hi).1
  have e := ev_lcF (T := T) (i := i) (t := .cmp .eq (.call "_law_common" (.cons (.var i) (.cons (.var j) (.nil))) [] (.nil)) (.tup (.nil))) (env := env) (e0 := env) f eS (fun q => decide (commonOf q s = [])) (evI_src hit rfl) (by show _ ≤ 16000000; omega) hil (fun q hq => by
    have okq := okS_sub hH (L.sub q hq)
    have lq := (L.sub q hq).length_le
    have v1 : ev T (.var i) (env.set i (some (.d (eS q)))) = .ok (.d (eS q), env.set i (some (.d (eS q)))) := ev_var (by rw [List.getElem?_set, if_pos rfl, if_pos hil])
    have v2 : ev T (.var j) (env.set i (some (.d (eS q)))) = .ok (.d (eS s), env.set i (some (.d (eS q)))) := ev_var (by rw [List.getElem?_set_ne hij]; exact hj)
    have c : ev T (.call "_law_common" (.cons (.var i) (.cons (.var j) (.nil))) [] (.nil)) (env.set i (some (.d (eS q)))) = .ok (.d (eS (commonOf q s)), env.set i (some (.d (eS q)))) := ev_call (fd := d__law_common) hT rfl (evs_x v1 rfl (evs_x v2 rfl evs_nil)) evs_nil (zs := [eS q, eS s]) rfl (r_common (by show _ ≤ 16000000; omega) okq (okS_sub hH hs))
    exact ev_cmp (ox_ev rfl c rfl) (ox_ev rfl (ev_tup evs_nil (Nat.zero_le _)) rfl) (e_eqL (okS_sub okq List.filter_sublist) (b := []) fun _ h => nomatch h))
  have c := list_nil (shp_fam (f := f.filter fun q => decide (commonOf q s = [])) fun o ho => okS_sub hH (L.sub o (List.mem_filter.mp ho).1))
  rw [flip_hits] at c
  exact ev_cmp (ox_ev rfl e rfl) ox_nil c
/-- [one for one in f if _law_lies(one, s)] != [] -/
theorem e_liesN {T : Tb} (hT : List.lookup ("_law_lies" : Str) T = some d__law_lies) {H : Lot} (hH : okS H) (h5 : H.length ≤ 5) {f : Fam} (L : LotsOf H f) (hf : f.length ≤ 63) {s : Lot} (hs : s.Sublist H) {i j : Nat} {it : Ex} {env : Evn} (hij : i ≠ j)
    (hi : env[i]? = some none) (hj : env[j]? = some (some (.d (eS s)))) (hit : ev T it env = .ok (.d (eF f), env)) :
    ev T (.cmp .ne (.lc [i] (.var i) (.nm i) (.src it) (.cons (.call "_law_lies" (.cons (.var i) (.cons (.var j) (.nil))) [] (.nil)) (.nil))) (.lst (.nil))) env = .ok (.d (.bool (f.any fun q => liesIn q s)), env) := by
  have hil : i < env.length := (List.getElem?_eq_some_iff.mp hi).1
  have e := ev_lcF (T := T) (i := i) (t := .call "_law_lies" (.cons (.var i) (.cons (.var j) (.nil))) [] (.nil)) (env := env) (e0 := env) f eS (fun q => liesIn q s) (evI_src hit rfl) (by show _ ≤ 16000000; omega) hil (fun q hq => by
    have okq := okS_sub hH (L.sub q hq)
    have lq := (L.sub q hq).length_le
    have v1 : ev T (.var i) (env.set i (some (.d (eS q)))) = .ok (.d (eS q), env.set i (some (.d (eS q)))) := ev_var (by rw [List.getElem?_set, if_pos rfl, if_pos hil])
    have v2 : ev T (.var j) (env.set i (some (.d (eS q)))) = .ok (.d (eS s), env.set i (some (.d (eS q)))) := ev_var (by rw [List.getElem?_set_ne hij]; exact hj)
    exact ev_call (fd := d__law_lies) hT rfl (evs_x v1 rfl (evs_x v2 rfl evs_nil)) evs_nil (zs := [eS q, eS s]) rfl (r_lies (by show _ ≤ 16000000; omega) okq (okS_sub hH hs)))
  have c := list_nnil (shp_fam (f := f.filter fun q => liesIn q s) fun o ho => okS_sub hH (L.sub o (List.mem_filter.mp ho).1))
  rw [flip_lies, Bool.not_not] at c
  exact ev_cmp (ox_ev rfl e rfl) ox_nil c
theorem r_brute {H : Lot} (hH : okS H) (hasc : H.Pairwise fun a b => ltN a b = true) (h5 : H.length ≤ 5) {f : Fam} (F : FamOk H f) : d__law_kernels.run [.d (eS H), .d (eF f)] = .ok (.d (eF (kern f)), []) := by
  let T := tbOf c__law_kernels
  have hnd : H.Nodup := hasc.imp fun h => ltN_irr h
  have s1 : exS T [] (.asg 2 (.lst .nil)) [some (.d (eS H)), some (.d (eF f)), none, none, none, none] = .ok (.nx, [some (.d (eS H)), some (.d (eF f)), some (.o (.list [])), none, none, none]) := exS_asg (ev_lst evs_nil (Nat.zero_le _))
  let B : Evn := [some (.d (eS H)), some (.d (eF f)), some (.o (.list [])), none, none, none]
  have a1 : evs T (.cons (.var 0) .nil) B = .ok ([eS H], B) := evs_x (ev_var rfl) rfl evs_nil
  have c1 : ev T (.call "_law_subsets" (.cons (.var 0) (.nil)) [] (.nil)) B = .ok (.o (.list ((subsK H).map eS)), B) := ev_call (fd := d__law_subsets) rfl rfl a1 evs_nil (zs := [eS H]) rfl (r_subs hH h5)
  obtain ⟨e', s2, p3, found, BR, he'⟩ := exS_for (T := T) (X := []) (tg := .nm 3) (it := .src (.call "_law_subsets" (.cons (.var 0) (.nil)) [] (.nil))) (body := (.cons (.iff (.cmp .eq (.lcO 2 [4] (.var 4) (.nm 4) (.cons (.call "_law_lies" (.cons (.var 4) (.cons (.var 3) (.nil))) [] (.nil)) (.nil))) (.lst (.nil)))
      (.cons (.iff (.cmp .eq (.lc [5] (.var 5) (.nm 5) (.src (.var 1)) (.cons (.cmp .eq (.call "_law_common" (.cons (.var 5) (.cons (.var 3) (.nil))) [] (.nil)) (.tup (.nil))) (.nil))) (.lst (.nil)))
      (.cons (.app 2 (.var 3)) .nil) .nil) .nil) .nil) .nil)) (env := B) (e0 := B) (subsK H) eS
    (fun d e => ∃ p3 found, Brute H f d found ∧ e = [some (.d (eS H)), some (.d (eF f)), some (.o (.list (found.map eS))), p3, none, none]) (evI_src c1 rfl) ⟨none, [], brute_nil, rfl⟩ (by
    rintro d x s hd e ⟨p3, found, BR, rfl⟩
    have dsub : ∀ a ∈ d, a.Sublist H := fun a ha => mem_subsK.mp (by rw [hd]; exact List.mem_append_left _ ha)
    have xsub : x.Sublist H := mem_subsK.mp (by rw [hd]; simp)
    have mono : ∀ a ∈ d, a.length ≤ x.length := fun a ha => by
      have := mono_subsK H
      rw [hd, List.pairwise_append] at this
      exact this.2.2 a ha x List.mem_cons_self
    have dl : d.length ≤ 192 := by have := congrArg List.length hd; have := len_subsK h5; simp only [List.length_append] at *; omega
    have fl : found.length ≤ 192 := Nat.le_trans BR.len dl
    have LF : LotsOf H found := ⟨hnd, fun a ha => dsub a (BR.sub a ha)⟩
    have okx := okS_sub hH xsub
    let A : Evn := [some (.d (eS H)), some (.d (eF f)), some (.o (.list (found.map eS))), some (.d (eS x)), none, none]
    have e1 := ev_lcOF (T := T) (i := 4) (j := 2) (t := .call "_law_lies" (.cons (.var 4) (.cons (.var 3) (.nil))) [] (.nil)) (env := A) found eS (fun k => liesIn k x) (by decide) rfl (by show _ ≤ 16000000; omega) (show 4 < 6 by decide) (fun k hk => by
      have hks := LF.sub k hk
      have lq := hks.length_le
      have w : evs T (.cons (.var 4) (.cons (.var 3) .nil)) (A.set 4 (some (.d (eS k)))) = .ok ([eS k, eS x], A.set 4 (some (.d (eS k)))) := evs_x (ev_var rfl) rfl (evs_x (ev_var rfl) rfl evs_nil)
      exact ev_call (fd := d__law_lies) rfl rfl w evs_nil (zs := [eS k, eS x]) rfl (r_lies (by show _ ≤ 16000000; omega) (okS_sub hH hks) okx))
    have c := list_nil (shp_fam (f := found.filter fun q => liesIn q x) fun o ho => okS_sub hH (LF.sub o (List.mem_filter.mp ho).1))
    rw [flip_lies] at c
    have t1 := ev_cmp (T := T) (ox_ev rfl e1 rfl) ox_nil c
    have nx := brute_step hnd BR dsub xsub mono
    cases hb : found.any (fun k => liesIn k x) with
    | true =>
      rw [hb] at t1
      have eb : bruteS f found x = found := by unfold bruteS; rw [hb]; rfl
      rw [eb] at nx
      exact ⟨_, _, rfl, exB_n (exS_f t1 exB_nil) exB_nil, _, found, nx, rfl⟩
    | false =>
      rw [hb] at t1
      have t2 := e_meets (T := T) rfl hH h5 F.lots (by have := few_fam F h5; omega) xsub (i := 5) (j := 3) (it := .var 1) (env := A) (by decide) rfl rfl (ev_var rfl)
      cases hw : hitsAll f x with
      | false =>
        rw [hw] at t2
        have eb : bruteS f found x = found := by unfold bruteS; rw [hb, hw]; rfl
        rw [eb] at nx
        exact ⟨_, _, rfl, exB_n (exS_t t1 (exB_n (exS_f t2 exB_nil) exB_nil)) exB_nil, _, found, nx, rfl⟩
      | true =>
        rw [hw] at t2
        have eb : bruteS f found x = found ++ [x] := by unfold bruteS; rw [hb, hw]; rfl
        rw [eb] at nx
        have v3 : ev T (.var 3) A = .ok (.d (eS x), A) := ev_var rfl
        have z2 : A[2]? = some (some (.o (.list (found.map eS)))) := rfl
        have s5 := exS_app (X := []) (i := 2) z2 v3 z2 (by rw [List.length_map]; show _ < 16000000; omega)
        refine ⟨_, _, rfl, exB_n (exS_t t1 (exB_n (exS_t t2 (exB_n s5 exB_nil)) exB_nil)) exB_nil, some (.d (eS x)), found ++ [x], nx, ?_⟩
        rw [List.map_append]
        rfl)
  subst he'
  obtain ⟨hk, LF⟩ := brute_kern hasc F.lots.sub BR
  have fl : found.length ≤ 192 := Nat.le_trans BR.len (len_subsK h5)
  have f1 := ev_fn (T := T) (f := .sset) (a := .var 2) (env := [some (.d (eS H)), some (.d (eF f)), some (.o (.list (found.map eS))), p3, none, none]) (z := .list ((kern f).map eS)) (ox_var rfl rfl) (hk ▸ sset_S (okF_lots hH LF) (by omega) (few LF h5))
  exact run_b rfl (exB_n s1 (exB_n s2 (exB_r (exS_ret rfl (ev_fnE (f := .tuple) (z := eF (kern f)) rfl f1 rfl))))) rfl
end HeadT

set_option maxRecDepth 100000
namespace HeadT
open PySem Qv
theorem famBy_at {H : Lot} {Q : List Fam} (hn : H.Nodup) (hl : Q.length = H.length) {d s : Lot} {t : Str} (hd : H = d ++ t :: s) : ∃ h : d.length < Q.length, famBy H Q t = Q[d.length] := by
  have h : d.length < Q.length := by have := congrArg List.length hd; rw [List.length_append] at this; simp at this; omega
  refine ⟨h, ?_⟩
  unfold famBy
  rw [idx_at hn hd, List.getD_eq_getElem?_getD, List.getElem?_eq_getElem h]
  rfl
theorem famBy_k {H : Lot} {Q : List Fam} (hn : H.Nodup) (hl : Q.length = H.length) {k : Nat} (hk : k < H.length) (hq : k < Q.length) : famBy H Q H[k] = Q[k] := by
  have hd : H = H.take k ++ H[k] :: H.drop (k + 1) := by
    rw [← List.drop_eq_getElem_cons hk, List.take_append_drop]
  obtain ⟨h, e⟩ := famBy_at (Q := Q) hn hl hd
  rw [e]
  have hl : (H.take k).length = k := by rw [List.length_take]; omega
  congr 1
theorem nice_fams {H : Lot} (hH : okS H) (h5 : H.length ≤ 5) {f : Fam} (F : FamOk H f) : Nice 2 5166 (eF f) := nice_fam hH (by omega) F.lots (by have := few_fam F h5; omega)
theorem repr_bool (b : Bool) : ∃ t, fnD .repr (.bool b) = .ok (.str t) ∧ PyData.strOk t = true := by
  cases b
  · exact ⟨(PyData.bool false).shown, by rfl, by decide +kernel⟩
  · exact ⟨(PyData.bool true).shown, by rfl, by decide +kernel⟩
def evenB : Sms := (.cons (.iff (.cmp .ne (.fn .repr (.call "is_kernel" (.cons (.var 0) (.cons (.var 1) (.cons (.sub (.sub (.var 0) (.cst (.int 0))) (.var 2)) (.cons (.var 5) (.nil))))) [] (.nil))) (.fn .repr (.cmp .isin (.var 5) (.var 3))))
  (.cons (.ret (.cst (.bool false)))
  .nil)
  .nil)
  (.cons (.asg 6 (.cmp .eq (.lc [7] (.var 7) (.nm 7) (.src (.sub (.var 1) (.var 2))) (.cons (.cmp .eq (.call "_law_common" (.cons (.var 7) (.cons (.var 5) (.nil))) [] (.nil)) (.tup (.nil))) (.nil))) (.lst (.nil))))
  (.cons (.iff (.cmp .ne (.var 6) (.cmp .ne (.lc [8] (.var 8) (.nm 8) (.src (.var 4)) (.cons (.call "_law_lies" (.cons (.var 8) (.cons (.var 5) (.nil))) [] (.nil)) (.nil))) (.lst (.nil))))
  (.cons (.ret (.cst (.bool false)))
  .nil)
  .nil)
  (.cons (.asg 9 (.cmp .ne (.lc [7] (.var 7) (.nm 7) (.src (.sub (.var 1) (.var 2))) (.cons (.call "_law_lies" (.cons (.var 7) (.cons (.var 5) (.nil))) [] (.nil)) (.nil))) (.lst (.nil))))
  (.cons (.iff (.cmp .ne (.var 9) (.cmp .eq (.lc [8] (.var 8) (.nm 8) (.src (.var 4)) (.cons (.cmp .eq (.call "_law_common" (.cons (.var 8) (.cons (.var 5) (.nil))) [] (.nil)) (.tup (.nil))) (.nil))) (.lst (.nil))))
  (.cons (.ret (.cst (.bool false)))
  .nil)
  .nil)
  .nil)))))
theorem r_even {H : Lot} {F Q : List Fam} (N : NetOk H F) (U : QuOk H Q) (h5 : H.length ≤ 5) {k : Nat} (hk : k < H.length) : d__law_is_even.run [.d (eN H F), .d (eQ Q), .d (.int k)] = .ok (.d (.bool true), []) := by
  let T := tbOf c__law_is_even
  have hasc : H.Pairwise fun a b => ltN a b = true := N.asc
  have hnd : H.Nodup := hasc.imp fun h => ltN_irr h
  have hq : k < Q.length := by rw [U.len]; exact hk
  have hfe := famBy_k hnd U.len hk hq
  have ht : H[k] ∈ H := List.getElem_mem _
  have G := U.fam Q[k] (List.getElem_mem _)
  obtain ⟨D, FK⟩ := kern_ok hasc Q[k] G.lots.sub
  have gl := few_fam G h5
  have kl := few_fam FK h5
  let KD : PyData := eF (kern Q[k])
  have nK : Nice 2 5166 KD := nice_fams N.names h5 FK
  let E0 : Evn := [some (.d (eN H F)), some (.d (eQ Q)), some (.d (.int k)), none, none, none, none, none, none, none]
  have sQ : ∀ {env : Evn}, env[1]? = some (some (.d (eQ Q))) → env[2]? = some (some (.d (.int k))) → ev T (.sub (.var 1) (.var 2)) env = .ok (.d (eF Q[k]), env) := fun h1 h2 => ev_sub (ox_var h1 rfl) (ox_var h2 rfl) (cons_at eF Q k hq)
  have sH : ∀ {env : Evn}, env[0]? = some (some (.d (eN H F))) → env[2]? = some (some (.d (.int k))) → ev T (.sub (.sub (.var 0) (.cst (.int 0))) (.var 2)) env = .ok (.d (.str H[k]), env) := fun h1 h2 => ev_sub (ox_ev rfl (ev_n0 h1) rfl) (ox_var h2 rfl) (cons_at PyData.str H k hk)
  have a1 : evs T (.cons (.sub (.var 0) (.cst (.int 0))) (.cons (.sub (.var 1) (.var 2)) .nil)) E0 = .ok ([eS H, eF Q[k]], E0) := evs_x (ev_n0 rfl) rfl (evs_x (sQ rfl rfl) rfl evs_nil)
  have c1 : ev T (.call "_law_kernels" (.cons (.sub (.var 0) (.cst (.int 0))) (.cons (.sub (.var 1) (.var 2)) (.nil))) [] (.nil)) E0 = .ok (.d KD, E0) := ev_call (fd := d__law_kernels) rfl rfl a1 evs_nil (zs := [eS H, eF Q[k]]) rfl (r_brute N.names hasc h5 G)
  have s1 := exS_asg (X := []) (i := 3) c1
  let E1 : Evn := [some (.d (eN H F)), some (.d (eQ Q)), some (.d (.int k)), some (.d KD), none, none, none, none, none, none]
  have a2 : evs T (.cons (.var 0) (.cons (.var 1) (.cons (.sub (.sub (.var 0) (.cst (.int 0))) (.var 2)) .nil))) E1 = .ok ([eN H F, eQ Q, .str H[k]], E1) := evs_x (ev_var rfl) rfl (evs_x (ev_var rfl) rfl (evs_x (sH rfl rfl) rfl evs_nil))
  have c2 : ev T (.call "kernels_of" (.cons (.var 0) (.cons (.var 1) (.cons (.sub (.sub (.var 0) (.cst (.int 0))) (.var 2)) (.nil)))) [] (.nil)) E1 = .ok (.d KD, E1) := ev_call (fd := d_kernels_of) rfl rfl a2 evs_nil (zs := [eN H F, eQ Q, .str H[k]]) rfl (hfe ▸ r_kernels_of N U h5 ht)
  have s2 := exS_asg (X := []) (i := 4) c2
  let E2 : Evn := [some (.d (eN H F)), some (.d (eQ Q)), some (.d (.int k)), some (.d KD), some (.d KD), none, none, none, none, none]
  have rK := nK.repr (by decide) (by decide)
  have f4 := ev_fn (T := T) (f := .repr) (a := .var 4) (env := E2) (ox_var (x := KD) rfl rfl) rK
  have f3 := ev_fn (T := T) (f := .repr) (a := .var 3) (env := E2) (ox_var (x := KD) rfl rfl) rK
  have t3 := ev_cmp (op := .ne) (ox_ev rfl f4 rfl) (ox_ev rfl f3 rfl) (str_ne (cp_ok nK.cp))
  have s3 := exS_f (X := []) (a := (.cons (.ret (.cst (.bool false))) .nil)) t3 exB_nil
  have a4 : evs T (.cons (.sub (.var 0) (.cst (.int 0))) .nil) E2 = .ok ([eS H], E2) := evs_x (ev_n0 rfl) rfl evs_nil
  have c4 : ev T (.call "_law_subsets" (.cons (.sub (.var 0) (.cst (.int 0))) (.nil)) [] (.nil)) E2 = .ok (.o (.list ((subsK H).map eS)), E2) := ev_call (fd := d__law_subsets) rfl rfl a4 evs_nil (zs := [eS H]) rfl (r_subs N.names h5)
  obtain ⟨e', s4, p5, p6, p9, he'⟩ := exS_for (T := T) (X := []) (tg := .nm 5) (it := .src (.call "_law_subsets" (.cons (.sub (.var 0) (.cst (.int 0))) (.nil)) [] (.nil))) (body := evenB) (env := E2) (e0 := E2) (subsK H) eS
    (fun d e => ∃ p5 p6 p9, e = [some (.d (eN H F)), some (.d (eQ Q)), some (.d (.int k)), some (.d KD), some (.d KD), p5, p6, none, none, p9]) (evI_src c4 rfl) ⟨_, _, _, rfl⟩ (by
    rintro d x s hd e ⟨p5, p6, p9, rfl⟩
    have xs : x.Sublist H := mem_subsK.mp (by rw [hd]; simp)
    have okx := okS_sub N.names xs
    let A : Evn := [some (.d (eN H F)), some (.d (eQ Q)), some (.d (.int k)), some (.d KD), some (.d KD), some (.d (eS x)), p6, none, none, p9]
    have w1 : evs T (.cons (.var 0) (.cons (.var 1) (.cons (.sub (.sub (.var 0) (.cst (.int 0))) (.var 2)) (.cons (.var 5) .nil)))) A = .ok ([eN H F, eQ Q, .str H[k], eS x], A) := evs_x (ev_var rfl) rfl (evs_x (ev_var rfl) rfl (evs_x (sH rfl rfl) rfl (evs_x (ev_var rfl) rfl evs_nil)))
    have d1 : ev T (.call "is_kernel" (.cons (.var 0) (.cons (.var 1) (.cons (.sub (.sub (.var 0) (.cst (.int 0))) (.var 2)) (.cons (.var 5) (.nil))))) [] (.nil)) A = .ok (.d (.bool (decide (x ∈ kern Q[k]))), A) := ev_call (fd := d_is_kernel) rfl rfl w1 evs_nil (zs := [eN H F, eQ Q, .str H[k], eS x]) rfl (hfe ▸ r_is_kernel N U h5 ht xs)
    have d2 : ev T (.cmp .isin (.var 5) (.var 3)) A = .ok (.d (.bool (decide (x ∈ kern Q[k]))), A) := ev_cmp (x := eS x) (y := KD) (ox_var rfl rfl) (ox_var rfl rfl) (e_inL okx (nK.shp (by decide)))
    obtain ⟨tx, rb, rs⟩ := repr_bool (decide (x ∈ kern Q[k]))
    have g1 := ev_fnE (f := .repr) (z := .str tx) rfl d1 rb
    have g2 := ev_fnE (f := .repr) (z := .str tx) rfl d2 rb
    have t1 := ev_cmp (op := .ne) (ox_ev rfl g1 rfl) (ox_ev rfl g2 rfl) (str_ne rs)
    have u1 := exS_f (X := []) (a := (.cons (.ret (.cst (.bool false))) .nil)) t1 exB_nil
    have m1 := e_meets (T := T) rfl N.names h5 G.lots (by omega) xs (i := 7) (j := 5) (it := .sub (.var 1) (.var 2)) (env := A) (by decide) rfl rfl (sQ rfl rfl)
    have u2 := exS_asg (X := []) (i := 6) m1
    let A2 : Evn := [some (.d (eN H F)), some (.d (eQ Q)), some (.d (.int k)), some (.d KD), some (.d KD), some (.d (eS x)), some (.d (.bool (hitsAll Q[k] x))), none, none, p9]
    have m2 := e_liesN (T := T) rfl N.names h5 FK.lots (by omega) xs (i := 8) (j := 5) (it := .var 4) (env := A2) (by decide) rfl rfl (ev_var rfl)
    rw [← ker_iff D xs] at m2
    have t2 := ev_cmp (op := .ne) (T := T) (a := .var 6) (env := A2) (x := .bool (hitsAll Q[k] x)) (ox_var rfl rfl) (ox_ev rfl m2 rfl) (bool_ne _)
    have u3 := exS_f (X := []) (a := (.cons (.ret (.cst (.bool false))) .nil)) t2 exB_nil
    have m3 := e_liesN (T := T) rfl N.names h5 G.lots (by omega) xs (i := 7) (j := 5) (it := .sub (.var 1) (.var 2)) (env := A2) (by decide) rfl rfl (sQ rfl rfl)
    rw [← ker_iff (ker_dual D G) xs] at m3
    have u4 := exS_asg (X := []) (i := 9) m3
    let A3 : Evn := [some (.d (eN H F)), some (.d (eQ Q)), some (.d (.int k)), some (.d KD), some (.d KD), some (.d (eS x)), some (.d (.bool (hitsAll Q[k] x))), none, none, some (.d (.bool (hitsAll (kern Q[k]) x)))]
    have m4 := e_meets (T := T) rfl N.names h5 FK.lots (by omega) xs (i := 8) (j := 5) (it := .var 4) (env := A3) (by decide) rfl rfl (ev_var rfl)
    have t4 := ev_cmp (op := .ne) (T := T) (a := .var 9) (env := A3) (x := .bool (hitsAll (kern Q[k]) x)) (ox_var rfl rfl) (ox_ev rfl m4 rfl) (bool_ne _)
    have u5 := exS_f (X := []) (a := (.cons (.ret (.cst (.bool false))) .nil)) t4 exB_nil
    exact ⟨_, _, rfl, exB_n u1 (exB_n u2 (exB_n u3 (exB_n u4 (exB_n u5 exB_nil)))), _, _, _, rfl⟩)
  subst he'
  exact run_b rfl (exB_n s1 (exB_n s2 (exB_n s3 (exB_n s4 (exB_r (exS_ret rfl rfl)))))) rfl
theorem nice_fs {H : Lot} (hH : okS H) (h5 : H.length ≤ 5) {Q : List Fam} (hl : Q.length ≤ 5) (h : ∀ f ∈ Q, FamOk H f) : Nice 3 25835 (.tuple (Q.map eF)) := by
  refine nice_mono (nice_tup (k := 2) (w := 5166) (xs := Q.map eF) fun x hx => ?_) (by decide) (by rw [List.length_map]; omega)
  obtain ⟨f, hf, rfl⟩ := List.mem_map.mp hx
  exact nice_fams hH h5 (h f hf)
theorem nice_both {H : Lot} {F Q : List Fam} (N : NetOk H F) (U : QuOk H Q) (h5 : H.length ≤ 5) : Nice 5 103346 (.list [eN H F, eQ Q]) := by
  have n1 := nice_fs N.names h5 (by rw [N.len]; exact h5) N.fam
  have n2 := nice_fs N.names h5 (by rw [U.len]; exact h5) U.fam
  have n3 : Nice 4 51672 (eN H F) := nice_mono (nice_tup (k := 3) (w := 25835) (xs := [eS H, .tuple (F.map eF)]) fun x hx => by
    rcases List.mem_cons.mp hx with rfl | hx
    · exact nice_mono (nice_S N.names) (by decide) (by omega)
    · rw [List.mem_singleton.mp hx]; exact n1) (by decide) (by rw [show [eS H, PyData.tuple (F.map eF)].length = 2 from rfl]; decide)
  refine nice_mono (nice_list (k := 4) (w := 51672) (xs := [eN H F, eQ Q]) fun x hx => ?_) (by decide) (by rw [show [eN H F, eQ Q].length = 2 from rfl]; decide)
  rcases List.mem_cons.mp hx with rfl | hx
  · exact n3
  · rw [List.mem_singleton.mp hx]; exact nice_mono n2 (by decide) (by decide)
theorem qu_kern {H : Lot} {F Q : List Fam} (N : NetOk H F) (U : QuOk H Q) : QuOk H (Q.map kern) := by
  have hasc : H.Pairwise fun a b => ltN a b = true := N.asc
  refine ⟨by rw [List.length_map]; exact U.len, fun f hf => ?_, fun f hf => ?_, fun f hf => ?_⟩ <;> obtain ⟨q, hq, rfl⟩ := List.mem_map.mp hf
  · exact (kern_ok hasc q (U.fam q hq).lots.sub).2
  · exact kern_ne hasc (U.fam q hq).lots.sub (U.full q hq)
  · exact kern_full hasc (U.fam q hq).lots.sub (U.fne q hq)
def lapB : Sms := (.cons (.asg 3 (.call "_law_net" (.cons (.var 1) (.cons (.cst (.int 5)) (.nil))) [] (.nil)))
  (.cons (.asg 4 (.call "_law_packs" (.cons (.var 1) (.cons (.var 3) (.nil))) [] (.nil)))
  (.cons (.asg 5 (.fn .repr (.lst (.cons (.var 3) (.cons (.var 4) (.nil))))))
  (.cons (.iff (.cmp .ne (.lc [6] (.var 6) (.nm 6) (.rng1 (.fn .len (.sub (.var 3) (.cst (.int 0))))) (.cons (.not (.call "_law_is_even" (.cons (.var 3) (.cons (.var 4) (.cons (.var 6) (.nil)))) [] (.nil))) (.nil))) (.lst (.nil)))
  (.cons (.ret (.cst (.bool false)))
  .nil)
  .nil)
  (.cons (.iff (.cmp .ne (.fn .repr (.lst (.cons (.var 3) (.cons (.var 4) (.nil))))) (.var 5))
  (.cons (.ret (.cst (.bool false)))
  .nil)
  .nil)
  (.cons (.asg 7 (.fn .tuple (.lc [8] (.call "_law_kernels" (.cons (.sub (.var 3) (.cst (.int 0))) (.cons (.var 8) (.nil))) [] (.nil)) (.nm 8) (.src (.var 4)) (.nil))))
  (.cons (.for (.nm 6) (.rng1 (.fn .len (.sub (.var 3) (.cst (.int 0)))))
  (.cons (.iff (.cmp .ne (.fn .repr (.call "kernels_of" (.cons (.var 3) (.cons (.var 7) (.cons (.sub (.sub (.var 3) (.cst (.int 0))) (.var 6)) (.nil)))) [] (.nil))) (.fn .repr (.sub (.var 4) (.var 6))))
  (.cons (.ret (.cst (.bool false)))
  .nil)
  .nil)
  .nil))
  .nil)))))))
theorem lap_b {x : PyData} (hx : FeedOk x) (p0 p2 p3 p4 p5 p6 p7 : Option Vl) :
    ∃ x' q3 q4 q5 q6 q7, FeedOk x' ∧ exB (tbOf c_law) [] lapB [p0, some (.o x), p2, p3, p4, p5, p6, p7, none] = .ok (.nx, [p0, some (.o x'), p2, q3, q4, q5, q6, q7, none]) := by
  let T := tbOf c_law
  obtain ⟨H, F, x1, g1, N, h5, hx1⟩ := r_net hx
  obtain ⟨Q, x2, U, hx2, g2⟩ := r_packs N h5 hx1
  have hasc : H.Pairwise fun a b => ltN a b = true := N.asc
  have hnd : H.Nodup := hasc.imp fun h => ltN_irr h
  let A : Evn := [p0, some (.o x), p2, p3, p4, p5, p6, p7, none]
  have z1 : A[1]? = some (some (.o x)) := rfl
  have a1 : evs T (.cons (.cst (.int 5)) .nil) A = .ok ([.int 5], A) := evs_x (r := .d (.int 5)) rfl rfl evs_nil
  have c1 : ev T (.call "_law_net" (.cons (.var 1) (.cons (.cst (.int 5)) (.nil))) [] (.nil)) A = .ok (.d (eN H F), [p0, some (.o x1), p2, p3, p4, p5, p6, p7, none]) := ev_callF (fd := d__law_net) rfl rfl rfl z1 a1 z1 g1
  have s1 := exS_asg (X := []) (i := 3) c1
  let B : Evn := [p0, some (.o x1), p2, some (.d (eN H F)), p4, p5, p6, p7, none]
  have z2 : B[1]? = some (some (.o x1)) := rfl
  have a2 : evs T (.cons (.var 3) .nil) B = .ok ([eN H F], B) := evs_x (ev_var rfl) rfl evs_nil
  have c2 : ev T (.call "_law_packs" (.cons (.var 1) (.cons (.var 3) (.nil))) [] (.nil)) B = .ok (.d (eQ Q), [p0, some (.o x2), p2, some (.d (eN H F)), p4, p5, p6, p7, none]) := ev_callF (fd := d__law_packs) rfl rfl rfl z2 a2 z2 g2
  have s2 := exS_asg (X := []) (i := 4) c2
  let C : Evn := [p0, some (.o x2), p2, some (.d (eN H F)), some (.d (eQ Q)), p5, p6, p7, none]
  have nB := nice_both N U h5
  have rB := nB.repr (by decide) (by decide)
  have l0 : ∀ {env : Evn}, env[3]? = some (some (.d (eN H F))) → env[4]? = some (some (.d (eQ Q))) → ev T (.fn .repr (.lst (.cons (.var 3) (.cons (.var 4) (.nil))))) env = .ok (.d (.str (PyData.list [eN H F, eQ Q]).shown), env) := fun {env} h1 h2 =>
    ev_fnE (f := .repr) (z := .str (PyData.list [eN H F, eQ Q]).shown) rfl (ev_lst (evs_x (ev_var h1) rfl (evs_x (ev_var h2) rfl evs_nil)) (show 2 ≤ 16000000 by decide)) rB
  have s3 := exS_asg (X := []) (i := 5) (l0 (env := C) rfl rfl)
  let D : Evn := [p0, some (.o x2), p2, some (.d (eN H F)), some (.d (eQ Q)), some (.d (.str (PyData.list [eN H F, eQ Q]).shown)), p6, p7, none]
  have ln : ∀ {env : Evn}, env[3]? = some (some (.d (eN H F))) → ev T (.fn .len (.sub (.var 3) (.cst (.int 0)))) env = .ok (.d (.int H.length), env) := fun {env} h => by
    have := ev_fnE (T := T) (f := .len) (z := .int (H.map PyData.str).length) rfl (ev_n0 (T := T) (i := 3) (env := env) h) rfl
    rw [List.length_map] at this
    exact this
  have e4 := ev_lcF (T := T) (i := 6) (t := .not (.call "_law_is_even" (.cons (.var 3) (.cons (.var 4) (.cons (.var 6) (.nil)))) [] (.nil))) (env := D) (e0 := D) (List.range H.length) (fun (k : Nat) => PyData.int k) (fun _ => false) (evI_rng1 (ln rfl) (by show _ ≤ 16000000; omega)) (by rw [List.length_range]; show _ ≤ 16000000; omega) (show 6 < 9 by decide) (fun k hk => by
    have hk := List.mem_range.mp hk
    let E : Evn := D.set 6 (some (.d (.int k)))
    have w : evs T (.cons (.var 3) (.cons (.var 4) (.cons (.var 6) .nil))) E = .ok ([eN H F, eQ Q, .int k], E) := evs_x (ev_var rfl) rfl (evs_x (ev_var rfl) rfl (evs_x (ev_var rfl) rfl evs_nil))
    have c := ev_call (T := T) (f := "_law_is_even") (ks := []) (kes := .nil) (fd := d__law_is_even) rfl rfl w evs_nil (zs := [eN H F, eQ Q, .int k]) rfl (r_even N U h5 hk)
    exact ev_not c)
  have fe : (List.range H.length).filter (fun _ => false) = [] := List.filter_eq_nil_iff.mpr fun _ _ => by simp
  rw [fe] at e4
  have hnil : cmpD .ne (.list []) (.list []) = .ok false := by rfl
  have t4 := ev_cmp (op := .ne) (T := T) (ox_ev rfl e4 rfl) ox_nil hnil
  have s4 := exS_f (X := []) (a := (.cons (.ret (.cst (.bool false))) .nil)) t4 exB_nil
  have t5 := ev_cmp (op := .ne) (T := T) (b := .var 5) (env := D) (ox_ev rfl (l0 (env := D) rfl rfl) rfl) (ox_var rfl rfl) (str_ne (cp_ok nB.cp))
  have s5 := exS_f (X := []) (a := (.cons (.ret (.cst (.bool false))) .nil)) t5 exB_nil
  have e6 := ev_lcM (T := T) (i := 8) (elt := .call "_law_kernels" (.cons (.sub (.var 3) (.cst (.int 0))) (.cons (.var 8) (.nil))) [] (.nil)) (env := D) (e0 := D) Q eF (fun q => eF (kern q)) (evI_src (e := .var 4) (ev_var rfl) rfl) (by rw [U.len]; show _ ≤ 16000000; omega) (fun q hq => by
    let E : Evn := D.set 8 (some (.d (eF q)))
    have w : evs T (.cons (.sub (.var 3) (.cst (.int 0))) (.cons (.var 8) .nil)) E = .ok ([eS H, eF q], E) := evs_x (ev_n0 rfl) rfl (evs_x (ev_var rfl) rfl evs_nil)
    exact ⟨_, ev_call (T := T) (f := "_law_kernels") (ks := []) (kes := .nil) (fd := d__law_kernels) rfl rfl w evs_nil (zs := [eS H, eF q]) rfl (r_brute N.names hasc h5 (U.fam q hq)), rfl⟩)
  have em : (Q.map fun q => eF (kern q)) = (Q.map kern).map eF := by rw [List.map_map]; rfl
  rw [em] at e6
  have f6 := ev_fnE (f := .tuple) (z := eQ (Q.map kern)) rfl e6 rfl
  have s6 := exS_asg (X := []) (i := 7) f6
  have V := qu_kern N U
  let G : Evn := [p0, some (.o x2), p2, some (.d (eN H F)), some (.d (eQ Q)), some (.d (.str (PyData.list [eN H F, eQ Q]).shown)), p6, some (.d (eQ (Q.map kern))), none]
  obtain ⟨e', s7, q6, he'⟩ := exS_for (T := T) (X := []) (tg := .nm 6) (it := .rng1 (.fn .len (.sub (.var 3) (.cst (.int 0))))) (env := G) (e0 := G) (body := (.cons (.iff (.cmp .ne (.fn .repr (.call "kernels_of" (.cons (.var 3) (.cons (.var 7) (.cons (.sub (.sub (.var 3) (.cst (.int 0))) (.var 6)) (.nil)))) [] (.nil))) (.fn .repr (.sub (.var 4) (.var 6))))
      (.cons (.ret (.cst (.bool false))) .nil) .nil) .nil)) (List.range H.length) (fun (k : Nat) => PyData.int k)
    (fun d e => ∃ q6, e = [p0, some (.o x2), p2, some (.d (eN H F)), some (.d (eQ Q)), some (.d (.str (PyData.list [eN H F, eQ Q]).shown)), q6, some (.d (eQ (Q.map kern))), none]) (evI_rng1 (ln rfl) (by show _ ≤ 16000000; omega)) ⟨_, rfl⟩ (by
    rintro d k s hd e ⟨q6, rfl⟩
    have hk : k < H.length := List.mem_range.mp (by rw [hd]; simp)
    have hq : k < Q.length := by rw [U.len]; exact hk
    have hq2 : k < (Q.map kern).length := by rw [List.length_map]; exact hq
    have ht : H[k] ∈ H := List.getElem_mem _
    let E : Evn := [p0, some (.o x2), p2, some (.d (eN H F)), some (.d (eQ Q)), some (.d (.str (PyData.list [eN H F, eQ Q]).shown)), some (.d (.int k)), some (.d (eQ (Q.map kern))), none]
    have sH : ev T (.sub (.sub (.var 3) (.cst (.int 0))) (.var 6)) E = .ok (.d (.str H[k]), E) := ev_sub (ox_ev rfl (ev_n0 rfl) rfl) (ox_var rfl rfl) (cons_at PyData.str H k hk)
    have sQ : ev T (.sub (.var 4) (.var 6)) E = .ok (.d (eF Q[k]), E) := ev_sub (ox_var rfl rfl) (ox_var rfl rfl) (cons_at eF Q k hq)
    have w : evs T (.cons (.var 3) (.cons (.var 7) (.cons (.sub (.sub (.var 3) (.cst (.int 0))) (.var 6)) .nil))) E = .ok ([eN H F, eQ (Q.map kern), .str H[k]], E) := evs_x (ev_var rfl) rfl (evs_x (ev_var rfl) rfl (evs_x sH rfl evs_nil))
    have hkk : kern (famBy H (Q.map kern) H[k]) = Q[k] := by
      rw [famBy_k hnd V.len hk hq2, List.getElem_map]
      exact kern_kern hasc (U.fam _ (List.getElem_mem _))
    have c : ev T (.call "kernels_of" (.cons (.var 3) (.cons (.var 7) (.cons (.sub (.sub (.var 3) (.cst (.int 0))) (.var 6)) (.nil)))) [] (.nil)) E = .ok (.d (eF Q[k]), E) := ev_call (fd := d_kernels_of) rfl rfl w evs_nil (zs := [eN H F, eQ (Q.map kern), .str H[k]]) rfl (hkk ▸ r_kernels_of N V h5 ht)
    have n := nice_fams N.names h5 (U.fam Q[k] (List.getElem_mem _))
    have r := n.repr (by decide) (by decide)
    have f1 := ev_fnE (f := .repr) (z := .str (eF Q[k]).shown) rfl c r
    have f2 := ev_fnE (f := .repr) (z := .str (eF Q[k]).shown) rfl sQ r
    have t := ev_cmp (op := .ne) (T := T) (ox_ev rfl f1 rfl) (ox_ev rfl f2 rfl) (str_ne (cp_ok n.cp))
    exact ⟨_, _, rfl, exB_n (exS_f t exB_nil) exB_nil, _, rfl⟩)
  subst he'
  exact ⟨x2, _, _, _, _, _, hx2, exB_n s1 (exB_n s2 (exB_n s3 (exB_n s4 (exB_n s5 (exB_n s6 (exB_n s7 exB_nil))))))⟩
theorem law_run (ns : List Int) (h : ns.length ≤ 63) : d_law.run [.d (.list (ns.map .int))] = .ok (.d (.bool true), []) := by
  let T := tbOf c_law
  let sc : PyData := .list (ns.map .int)
  let E0 : Evn := [some (.d sc), none, none, none, none, none, none, none, none]
  let x0 := fdx ns 0 0 0
  let E1 : Evn := [some (.d sc), some (.o x0), none, none, none, none, none, none, none]
  have hx0 : FeedOk x0 := ⟨ns, 0, 0, 0, rfl, h⟩
  have a0 : evs T (.cons (.var 0) .nil) E0 = .ok ([sc], E0) := evs_x (ev_var rfl) rfl evs_nil
  have c0 : ev T (.call "_law_feed" (.cons (.var 0) (.nil)) [] (.nil)) E0 = .ok (.o x0, E0) := ev_call (fd := d__law_feed) rfl rfl a0 evs_nil (zs := [sc]) rfl (r_feed ns h)
  have s1 : exS T [] (.asg 1 (.call "_law_feed" (.cons (.var 0) (.nil)) [] (.nil))) E0 = .ok (.nx, E1) := exS_asg c0
  obtain ⟨e', s2, p2, x, q3, q4, q5, q6, q7, hx, he'⟩ := exS_for (T := T) (X := []) (tg := .nm 2) (it := .rng1 (.cst (.int 3))) (body := lapB) (env := E1) (e0 := E1) (List.range 3) (fun (k : Nat) => PyData.int k)
    (fun d e => ∃ p2 x q3 q4 q5 q6 q7, FeedOk x ∧ e = [some (.d sc), some (.o x), p2, q3, q4, q5, q6, q7, none]) (evI_rng1 (n := 3) rfl (by decide)) ⟨_, x0, _, _, _, _, _, hx0, rfl⟩ (by
    rintro d k s hd e ⟨p2, x, q3, q4, q5, q6, q7, hx, rfl⟩
    obtain ⟨x', r3, r4, r5, r6, r7, hx', w⟩ := lap_b hx (some (.d sc)) (some (.d (.int k))) q3 q4 q5 q6 q7
    exact ⟨_, _, rfl, w, _, x', _, _, _, _, _, hx', rfl⟩)
  subst he'
  exact run_b rfl (exB_n s1 (exB_n s2 (exB_r (exS_ret rfl rfl)))) rfl
end HeadT


open PySem PySem.W PySem.Calls PyProof.Rows
theorem PySem.Challenge.cw_ownfears_k23_whole_kernels_holds : PySem.Challenge.rw_ownfears_k23_whole_kernels.Holds := by
  w_on; o_law
  refine HandSHeadRun.head_any (r := OpenLaw.row PySem.Challenge.rw_ownfears_k23_whole_kernels) (q := view (OpenLaw.row PySem.Challenge.rw_ownfears_k23_whole_kernels).prog [51]) (H := HeadT.hk) (ob := HeadT.ob) (M := 4000) (loose := HeadT.loose) (d := HandSHeadRun.topDef (OpenLaw.row PySem.Challenge.rw_ownfears_k23_whole_kernels).prog 51) (kwd := []) HeadT.ob_eq
    (by kernel_rfl) (fun s => by kernel_rfl) HeadT.run (by kernel_rfl) (by kernel_rfl) (by kernel_rfl) (by rfl) (by first | assumption | decide +kernel) (by decide +kernel) ⟨rfl, rfl, rfl, rfl, rfl, by decide +kernel⟩ ?hw ?hc
  case hw => w_witness2
  case hc =>
    refine Qv.walkG (l := PySem.Challenge.rw_ownfears_k23_whole_kernels) (n := 63) (k := 13) (x := "script") (nm := "law") rfl (by decide) (by kernel_rfl) ⟨rfl, by decide, by decide⟩ ?F
    intro w mg fa h Y G hmg0
    obtain ⟨K, KX, c⟩ := Y
    have hmg : mg ("law" : PySem.Str) = some (.ref fa) := by
      have e : (HandSHeadRun.topDef (OpenLaw.row PySem.Challenge.rw_ownfears_k23_whole_kernels).prog 51).name = ("law" : PySem.Str) := by kernel_rfl
      rw [← e]
      exact hmg0
    obtain ⟨dt, hb, hF⟩ := HeadT.facts (P := (PySem.Challenge.rw_ownfears_k23_whole_kernels).prog) (w := w) KX G c hmg
    exact ⟨K, dt, HeadT.d_law, KX, hb, rfl, fun ns hl => HeadT.law_run ns hl, fun base _ _ => hF base⟩


